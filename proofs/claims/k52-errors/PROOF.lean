import PyProof.Rows.All
import Wide.All
import OpenK.AllK
import Wide.FinOn
import HandS.ForMost
import HandS.More
import HandS.Walk
import HandS.Deep
import HandS.Zip
import HandS.TupAny
import HandS.TupMul
import HandS.TupLe
import HandS.Conv
import HandS.ListItems
import HandS.DictComp
import HandS.IsInst
import HandS.Wide
import HandS.Style
import HandS.Property
import HandS.Flow
import HandS.ExcInit
import KE.DataFind
import HandS.Star
import HandS.Defaults
import HandS.EndBits
import HandS.HeadEnd
import HandS.RaiseMore
import HandS.ExcField
import HandS.ExcIs
import HandS.Nested
import KE.KSuper
import KE.KExcSuper
import KE.KExcIs
import KE.GoesEnum
import KE.GoesZip
import HandS.NoneIn
import HandS.Small
import HandS.HeadHook1
import HandS.HeadHook2
import PySem.Challenge.RW_downhillnet_k52_errors_keep_any_value
import KE.KStateDown
import Lean
import HandS.Head0
import HandS.Head1
import HandS.Head2
set_option Elab.async false
section
set_option linter.all false
set_option maxRecDepth 100000
/-! R1: data, cells, the little language and what it computes. -/
namespace R
open PySem
/-- data without addresses -/
inductive D where
  | non | bl (b : Bool) | int (i : Int) | str (x : Str)
  | tup (xs : List D) | lst (xs : List D) | dct (kvs : List (D × D)) | obj (c : Nat) (fs : List (Str × D))
  | scr (ns : List Int) | err (c : Nat) (v : D)
  deriving Inhabited
/-- what a local thing that changes holds -/
inductive Cell where
  | lst (xs : List D) | dct (kvs : List (D × D)) | obj (c : Nat) (fs : List (Str × D)) | own (kvs : List (D × D)) (k : D) (m : Nat) | fro (d : D) | dead
  deriving Inhabited
inductive SV where
  | p (d : D) | l (n : Nat)
  deriving Inhabited
abbrev Env := List (Option SV)
abbrev Sto := List Cell
inductive Res (α : Type) where
  | ok (a : α) (S : Sto) | exc (c : Nat) (d : D) (S : Sto) | bad
def Res.bind {α β : Type} : Res α → (α → Sto → Res β) → Res β
  | .ok a S, f => f a S
  | .exc c d S, _ => .exc c d S
  | .bad, _ => .bad
@[simp] theorem Res.bind_ok {α β : Type} (a : α) (S : Sto) (f : α → Sto → Res β) : (Res.ok a S).bind f = f a S := rfl
@[simp] theorem Res.bind_exc {α β : Type} (c : Nat) (d : D) (S : Sto) (f : α → Sto → Res β) : (Res.exc c d S).bind f = .exc c d S := rfl
@[simp] theorem Res.bind_bad {α β : Type} (f : α → Sto → Res β) : (Res.bad : Res α).bind f = .bad := rfl
def ofO {α : Type} : Option α → Sto → Res α
  | some a, S => .ok a S
  | none, _ => .bad
@[simp] theorem ofO_some {α : Type} (a : α) (S : Sto) : ofO (some a) S = .ok a S := rfl
@[simp] theorem ofO_none {α : Type} (S : Sto) : ofO (none : Option α) S = .bad := rfl

inductive Op where
  | add | sub | mul | fdiv | mod | pow
  deriving DecidableEq
inductive Cm where
  | eq | ne | lt | le | gt | ge | in_ | nin | is_ | isn
  deriving DecidableEq
inductive Bi where
  | len | int | str | abs | min | max | sum | sorted | list | tuple | dict | all | any | repr | bool
  deriving DecidableEq
/-- methods of built-in types that change nothing -/
inductive Me where
  | index | get | split | join | count
  deriving DecidableEq
/-- those that change a list -/
inductive Mm where
  | append | extend | pop
  deriving DecidableEq
inductive Ty where
  | int | str | bool | tuple | cls (c : Nat)
  deriving DecidableEq
inductive RT where
  | nm (i : Nat) | tp (ts : List RT) | fld (c a : Nat) (f : Str)
mutual
inductive RE where
  | var (i : Nat) | frz (i : Nat) | cn (d : D) | gl (d : D)
  | op (o : Op) (a b : RE) | neg (a : RE) | not_ (a : RE)
  | cmp (o : Cm) (a b : RE) | chain (o1 o2 : Cm) (a b c : RE)
  | and_ (a b : RE) | or_ (a b : RE) | ife (t a b : RE)
  | tup (es : REs) | lst (es : REs) | new (e : RE)
  | dsp (es : REs)
  | idx (a i : RE) | sl (a : RE) (lo hi : RO)
  | bi (f : Bi) (es : REs) | lrg (a : RE) | lrg2 (a b : RE) | lit (a : RE) | rev (a : RE)
  | isi (a : RE) (t : Ty)
  | me (m : Me) (o : RE) (es : REs) | mm (m : Mm) (i : Nat) (es : REs)
  | call (f : Nat) (es : REs) | callK (f : Nat) (perm : List Nat) (es : REs)
  | meth (c : Nat) (m : Str) (f : Nat) (o : RE) (es : REs)
  | prp (c : Nat) (f : Nat) (o : RE)
  | make (c : Nat) (f : Nat) (es : REs) | mkf (c : Nat) (f : Nat) (es : REs) | makeK (c : Nat) (f : Nat) (perm : List Nat) (es : REs) | mkfK (c : Nat) (f : Nat) (perm : List Nat) (es : REs)
  | fld (c : Nat) (a : RE) (f : Str)
  | lc (own : List Nat) (tg : RT) (it : RI) (ifs : REs) (elt : RE)
  | dc (own : List Nat) (tg : RT) (it : RI) (k v : RE)
  | idxO (i : Nat) (k : D) | frzO (i : Nat) | frzE (r : RE)
  | exm (c : Nat) (a : RE) | erv (cs : List Nat) (a : RE) | isE (a : RE) (bs : List (Nat × Bool)) (y : Str)
inductive REs where
  | nil | cons (e : RE) (es : REs) | star (e : RE) (es : REs)
inductive RO where
  | non | som (a : RE)
inductive RI where
  | e (a : RE) | rng1 (a : RE) | rng2 (a b : RE) | enum (a : RE) | zip (a b : RE)
end
mutual
inductive RS where
  | set (i : Nat) (e : RE) | setT (tg : RT) (e : RE) | par (js : List Nat) (es : REs)
  | aug (i : Nat) (o : Op) (e : RE)
  | sidxO (i : Nat) (k : D) (e : RE) | sidx2 (i : Nat) (k : D) (j e : RE)
  | sidx (a : Nat) (k e : RE) | sfld (c : Nat) (a : Nat) (f : Str) (e : RE)
  | ex (e : RE) | ret (e : RE) | retn
  | ife (t : RE) (a b : RSs)
  | for_ (tg : RT) (it : RI) (body : RSs) | whl (t : RE) (body : RSs)
  | brk | cnt | pas | nev
inductive RSs where
  | nil | cons (s : RS) (ss : RSs)
end

/-! ### reading -/
def Env.get (e : Env) (i : Nat) : Option SV := (e[i]?).join
def rdc : Cell → Option D
  | .lst xs => some (.lst xs)
  | .dct k => some (.dct k)
  | .fro d => some d
  | _ => none
def rd (S : Sto) : SV → Option D
  | .p d => some d
  | .l n => (S[n]?).bind rdc
def pur : SV → Option D
  | .p d => some d
  | .l _ => none
@[simp] theorem rd_p (S : Sto) (d : D) : rd S (.p d) = some d := rfl
@[simp] theorem pur_p (d : D) : pur (.p d) = some d := rfl
@[simp] theorem pur_l (n : Nat) : pur (.l n) = none := rfl

/-! ### built-in things on data -/
mutual
def D.py : D → Option PyData
  | .non => some .none
  | .bl b => some (.bool b)
  | .int i => some (.int i)
  | .str x => some (.str x)
  | .tup xs => (pys xs).map .tuple
  | .lst xs => (pys xs).map .list
  | _ => none
def pys : List D → Option (List PyData)
  | [] => some []
  | x :: xs => match x.py, pys xs with
    | some a, some b => some (a :: b)
    | _, _ => none
end
def eqD (a b : D) : Option Bool := match a.py, b.py with
  | some x, some y => if SeqAt.shaped x = true ∧ SeqAt.shaped y = true then some (PyData.eqv x y) else none
  | _, _ => none
def line : Nat := 16777216
def flatKV : List (D × D) → Option (List (PyData × PyData))
  | [] => some []
  | (.str k, .str v) :: r => (flatKV r).map ((.str k, .str v) :: ·)
  | (.str k, .int v) :: r => (flatKV r).map ((.str k, .int v) :: ·)
  | (.int k, .str v) :: r => (flatKV r).map ((.int k, .str v) :: ·)
  | (.int k, .int v) :: r => (flatKV r).map ((.int k, .int v) :: ·)
  | _ => none
def countD (x : D) (ys : List D) : Option Nat := match x.py, pys ys with
  | some d, some ds => if d.plain = true ∧ PyData.plainAll ds = true ∧ d.depth ≤ 64 then some (ds.countP fun y => PyData.eqv y d) else none
  | _, _ => none
def intsD : List D → Option (List Int)
  | [] => some []
  | .int i :: xs => (intsD xs).map (i :: ·)
  | _ => none
def strsD : List D → Option (List Str)
  | [] => some []
  | .str i :: xs => (strsD xs).map (i :: ·)
  | _ => none
def blsD : List D → Option (List Bool)
  | [] => some []
  | .bl i :: xs => (blsD xs).map (i :: ·)
  | _ => none
def small (i : Int) : Bool := decide (-(2 ^ 64) < i ∧ i < 2 ^ 64)
def opD : Op → D → D → Option D
  | .add, .int i, .int j => some (.int (i + j))
  | .add, .str x, .str y => if x.length + y.length ≤ line then some (.str (x ++ y)) else none
  | .add, .lst xs, .lst ys => if xs.length + ys.length ≤ line then some (.lst (xs ++ ys)) else none
  | .add, .tup xs, .tup ys => if xs.length + ys.length ≤ line then some (.tup (xs ++ ys)) else none
  | .sub, .int i, .int j => some (.int (i - j))
  | .mul, .int i, .int j => if small i = true ∨ small j = true then some (.int (i * j)) else none
  | .mul, .lst xs, .int k => if 0 ≤ k ∧ k < 2 ^ 20 ∧ xs.length * k.toNat ≤ line then some (.lst (List.replicate k.toNat xs).flatten) else none
  | .mul, .tup xs, .int k => if 2 ≤ k ∧ k ≤ 1000 ∧ xs.isEmpty = false ∧ xs.length ≤ 1000 then some (.tup (List.replicate k.toNat xs).flatten) else none
  | .fdiv, .int i, .int j => if 0 < j ∧ j < 1073741824 then some (.int (i / j)) else none
  | .mod, .int i, .int j => if 0 < j then some (.int (i % j)) else none
  | .pow, .int i, .int j => if 0 ≤ j ∧ (Builtin.Int.intBits i : Int) * j ≤ 2 ^ 27 then some (.int (i ^ j.toNat)) else none
  | _, _, _ => none
def eqK (k d : D) : Bool := match d, k with
  | .str y, .str x => decide (y = x)
  | .int y, .int x => decide (y = x)
  | _, _ => false
def lookD (k : D) : List (D × D) → Option D
  | [] => none
  | q :: r => if eqK k q.1 = true then some q.2 else lookD k r
def hasD (k : D) (kvs : List (D × D)) : Bool := kvs.any fun q => eqK k q.1
def putD (k v : D) (kvs : List (D × D)) : List (D × D) := if hasD k kvs = true then kvs.map (fun q => if eqK k q.1 = true then (q.1, v) else q) else kvs ++ [(k, v)]
def keyD : D → Bool
  | .str _ => true
  | .int _ => true
  | _ => false
def inD (x : D) (ys : List D) : Option Bool := match x.py, pys ys with
  | some d, some ds => if SeqAt.shaped d = true ∧ SeqAt.shaped (.list ds) = true then some (ds.any fun z => PyData.eqv z d) else none
  | _, _ => none
def sameF (a b : List (D × D)) : Bool := decide (a.length = b.length) && a.all fun p => keyD p.1 && (match lookD p.1 b with
  | some d => keyD d && eqK p.2 d
  | none => false)
def cmpD : Cm → D → D → Option Bool
  | .ne, .dct a, .dct b => if sameF a b = true then some false else none
  | .eq, a, b => eqD a b
  | .ne, a, b => (eqD a b).map (!·)
  | .lt, .int i, .int j => some (decide (i < j))
  | .lt, .str i, .str j => some (decide (i.cps.toList < j.cps.toList))
  | .le, .int i, .int j => some (decide (i ≤ j))
  | .gt, .int i, .int j => some (decide (j < i))
  | .ge, .int i, .int j => some (decide (j ≤ i))
  | .in_, x, .lst ys => inD x ys
  | .in_, x, .tup ys => inD x ys
  | .in_, .str x, .str y => some (!(Builtin.Str.occurrences y x 0 y.length 1).isEmpty)
  | .in_, x, .dct k => if keyD x = true then some (hasD x k) else none
  | .nin, x, .lst ys => (inD x ys).map (!·)
  | .nin, x, .tup ys => (inD x ys).map (!·)
  | .nin, .str x, .str y => some (!(!(Builtin.Str.occurrences y x 0 y.length 1).isEmpty))
  | .nin, x, .dct k => if keyD x = true then some (!hasD x k) else none
  | .is_, .bl a, .bl b => some (decide (a = b))
  | .is_, .non, .non => some true
  | .is_, .int _, .non => some false
  | .is_, .str _, .non => some false
  | .is_, .tup _, .non => some false
  | .isn, .bl a, .bl b => some (!decide (a = b))
  | .isn, .non, .non => some false
  | .isn, .int _, .non => some true
  | .isn, .str _, .non => some true
  | .isn, .tup _, .non => some true
  | _, _, _ => none
def truD : D → Option Bool
  | .bl b => some b
  | .non => some false
  | .int i => some (i != 0)
  | .str x => if x.length ≤ line then some (x.length != 0) else none
  | .lst xs => some (!xs.isEmpty)
  | .tup xs => some (!xs.isEmpty)
  | _ => none
def atD {α : Type} (xs : List α) (i : Int) : Option α := L2.atI xs i
def idxD : D → D → Option D
  | .lst xs, .int i => L2.atI xs i
  | .tup xs, .int i => L2.atI xs i
  | .scr ns, .int i => (L2.atI ns i).map .int
  | .str x, .int i => if x.length ≤ line then (L2.atI x.cps.toList i).map fun c => .str ⟨#[c]⟩ else none
  | .dct k, d => if keyD d = true then lookD d k else none
  | _, _ => none
def cutD {α : Type} (xs : List α) (lo hi : Option Int) : List α := (xs.drop (HT.sIx xs.length 0 lo)).take (HT.sIx xs.length xs.length hi - HT.sIx xs.length 0 lo)
def slD : D → Option Int → Option Int → Option D
  | .lst xs, lo, hi => some (.lst (cutD xs lo hi))
  | .tup xs, lo, hi => some (.tup (cutD xs lo hi))
  | .scr ns, lo, hi => some (.lst ((cutD ns lo hi).map .int))
  | _, _, _ => none
def insS (x : Str) : List Str → List Str
  | [] => [x]
  | y :: r => if Spec.ltCps y.cps.toList x.cps.toList = true then y :: insS x r else x :: y :: r
def srtS : List Str → List Str
  | [] => []
  | x :: r => insS x (srtS r)
def insI (x : Int) : List Int → List Int
  | [] => [x]
  | y :: r => if y < x then y :: insI x r else x :: y :: r
def srtI : List Int → List Int
  | [] => []
  | x :: r => insI x (srtI r)
def maxI : Int → List Int → Int
  | m, [] => m
  | m, x :: r => maxI (if m < x then x else m) r
def minI : Int → List Int → Int
  | m, [] => m
  | m, x :: r => minI (if x < m then x else m) r
def joinOk (a : Str) (ys : List Str) : Bool := decide ((ys.map (·.length)).sum + ys.length * a.length ≤ 16777216)
def dictP : List D → Option (List (D × D))
  | [] => some []
  | .tup [k, v] :: r => if keyD k = true then (dictP r).map ((k, v) :: ·) else none
  | _ => none
def mergeD (acc more : List (D × D)) : List (D × D) := more.foldl (fun acc q => putD q.1 q.2 acc) acc
def biD : Bi → List D → Option D
  | .len, [.lst xs] => some (.int xs.length)
  | .len, [.tup xs] => some (.int xs.length)
  | .len, [.scr xs] => some (.int xs.length)
  | .len, [.str x] => if x.length ≤ line then some (.int x.length) else none
  | .int, [.int i] => some (.int i)
  | .int, [.bl b] => some (.int (if b then 1 else 0))
  | .int, [.str x] => if x.length ≤ 640 then (PySem.intText? x).map .int else none
  | .str, [.int i] => if i.natAbs.log2 < 1920 then some (.str (toString i)) else none
  | .str, [.str x] => some (.str x)
  | .abs, [.int i] => some (.int (if i < 0 then -i else i))
  | .min, [.int i, .int j] => some (.int (if j < i then j else i))
  | .max, [.int i, .int j] => some (.int (if j > i then j else i))
  | .min, [.lst xs] => match intsD xs with | some (i :: r) => some (.int (minI i r)) | _ => none
  | .max, [.lst xs] => match intsD xs with | some (i :: r) => some (.int (maxI i r)) | _ => none
  | .sum, [.lst xs] => (intsD xs).map fun l => .int l.sum
  | .sorted, [.lst xs] => if xs.length < 64 then (match strsD xs with | some l => some (.lst ((srtS l).map .str)) | none => (intsD xs).map fun l => .lst ((srtI l).map .int)) else none
  | .list, [.lst xs] => some (.lst xs)
  | .list, [.tup xs] => some (.lst xs)
  | .tuple, [.lst xs] => some (.tup xs)
  | .tuple, [.tup xs] => some (.tup xs)
  | .dict, [.lst xs] => (dictP xs).map fun l => .dct (mergeD [] l)
  | .all, [.lst xs] => (blsD xs).map fun l => .bl (l.all id)
  | .any, [.lst xs] => (blsD xs).map fun l => .bl (l.any id)
  | .bool, [.bl b] => some (.bl b)
  | .repr, [.dct kvs] => match flatKV kvs with
    | some l => if (PyData.dict l).showable = true ∧ (PyData.dict l).depth ≤ 64 ∧ (PyData.dict l).shown.length ≤ line then some (.str (PyData.dict l).shown) else none
    | none => none
  | .repr, [d] => match d.py with
    | some p => if SeqAt.shaped p = true ∧ p.showable = true ∧ p.shown.length ≤ line then some (.str p.shown) else none
    | none => none
  | _, _ => none
def idxP (d : PyData) : List PyData → Nat → Option Nat
  | [], _ => none
  | z :: zs, n => if PyData.eqv z d = true then some n else idxP d zs (n + 1)
def indexD (x : D) (ys : List D) : Option Nat := match x.py, pys ys with
  | some d, some ds => if SeqAt.shaped d = true ∧ SeqAt.shaped (.list ds) = true then idxP d ds 0 else none
  | _, _ => none
def meD : Me → D → List D → Option D
  | .index, .lst xs, [x] => (indexD x xs).map fun n : Nat => .int (n : Int)
  | .count, .lst xs, [x] => (countD x xs).map fun n : Nat => .int (n : Int)
  | .get, .dct k, [x] => if keyD x = true then some ((lookD x k).getD .non) else none
  | .get, .dct k, [x, y] => if keyD x = true then some ((lookD x k).getD y) else none
  | .join, .str a, [.lst xs] => match strsD xs with
    | some ys => if joinOk a ys = true then some (.str (Txt.join a ys)) else none
    | none => none
  | .join, .str a, [.tup xs] => match strsD xs with
    | some ys => if joinOk a ys = true then some (.str (Txt.join a ys)) else none
    | none => none
  | .split, .str a, [.str b] => if b.length ≠ 0 ∧ a.length + 2 ≤ line then some (.lst ((Txt.split a b).map .str)) else none
  | _, _, _ => none
def isiD (t : Ty) : D → Option Bool
  | .non => some false
  | .bl _ => some (match t with | .int => true | .bool => true | _ => false)
  | .int _ => some (match t with | .int => true | _ => false)
  | .str _ => some (match t with | .str => true | _ => false)
  | .tup _ => some (match t with | .tuple => true | _ => false)
  | .lst _ => some false
  | .dct _ => some false
  | .obj c _ => match t with | .cls c' => some (decide (c = c')) | _ => none
  | _ => none
def mmC : Mm → Cell → List D → Option (D × Cell)
  | .append, .lst xs, [x] => if xs.length < line then some (.non, .lst (xs ++ [x])) else none
  | .extend, .lst xs, [.lst ys] => if xs.length + ys.length ≤ line then some (.non, .lst (xs ++ ys)) else none
  | .pop, .lst xs, [] => match xs[xs.length - 1]? with | some y => some (y, .lst xs.dropLast) | none => none
  | .pop, .lst xs, [.int i] => if 0 ≤ i ∧ i < 16777216 then (match xs[i.toNat]? with | some y => some (y, .lst (xs.eraseIdx i.toNat)) | none => none) else none
  | _, _, _ => none
def sidxC : Cell → D → D → Option Cell
  | .lst xs, .int i, v => (L2.ixN xs.length i).map fun j => .lst (xs.set j v)
  | .dct k, x, v => if keyD x = true ∧ k.length < line then some (.dct (putD x v k)) else none
  | _, _, _ => none

def putFD (f : Str) (v : D) : List (Str × D) → List (Str × D)
  | [] => [(f, v)]
  | (g, w) :: r => if g = f then (g, v) :: r else (g, w) :: putFD f v r
/-! ### what the language computes -/
inductive StR where
  | nx (e : Env) (S : Sto) | bk (e : Env) (S : Sto) | ct (e : Env) (S : Sto) | rt (v : SV) (S : Sto) | exc (c : Nat) (d : D) (S : Sto) | bad
def Res.st {α : Type} : Res α → (α → Sto → StR) → StR
  | .ok a S, f => f a S
  | .exc c d S, _ => .exc c d S
  | .bad, _ => .bad
@[simp] theorem Res.st_ok {α : Type} (a : α) (S : Sto) (f : α → Sto → StR) : (Res.ok a S).st f = f a S := rfl
@[simp] theorem Res.st_exc {α : Type} (c : Nat) (d : D) (S : Sto) (f : α → Sto → StR) : (Res.exc c d S : Res α).st f = .exc c d S := rfl
@[simp] theorem Res.st_bad {α : Type} (f : α → Sto → StR) : (Res.bad : Res α).st f = .bad := rfl
abbrev CallF := Nat → List SV → Sto → Res SV
def seqD : D → Option (List D)
  | .lst xs => some xs
  | .tup xs => some xs
  | _ => none
def seqI : D → Option (List D)
  | .str x => some (x.cps.toList.map fun c => .str ⟨#[c]⟩)
  | d => seqD d
mutual
/-- a target takes data -/
def asgT : RT → D → Env → Sto → Option (Env × Sto)
  | .nm i, d, e, S => if i < e.length then some (e.set i (some (.p d)), S) else none
  | .tp ts, d, e, S => match seqD d with
    | some xs => asgTs ts xs e S
    | none => none
  | .fld c a f, d, e, S => match e.get a with
    | some (.l n) => match S[n]? with
      | some (.obj c' fs) => if c' = c ∧ fs.length < 100 then some (e, S.set n (.obj c (putFD f d fs))) else none
      | _ => none
    | _ => none
def asgTs : List RT → List D → Env → Sto → Option (Env × Sto)
  | [], [], e, S => some (e, S)
  | t :: ts, x :: xs, e, S => match asgT t x e S with
    | some q => asgTs ts xs q.1 q.2
    | none => none
  | _, _, _, _ => none
end
mutual
def RT.slots : RT → List Nat
  | .nm i => [i]
  | .tp ts => RT.slotsL ts
  | .fld _ _ _ => []
def RT.slotsL : List RT → List Nat
  | [] => []
  | t :: ts => t.slots ++ RT.slotsL ts
end
def wipeE (e : Env) : List Nat → Env
  | [] => e
  | v :: vs => (wipeE e vs).set v none
def pairsD : List D → List D → List D
  | x :: xs, y :: ys => .tup [x, y] :: pairsD xs ys
  | _, _ => []
def enumD : Nat → List D → List D
  | _, [] => []
  | n, x :: xs => .tup [.int n, x] :: enumD (n + 1) xs
def rangeD (lo hi : Int) : List D := (List.range (hi - lo).toNat).map fun k => .int (lo + (k : Nat))
def upD : List D → Option (List (D × D))
  | [] => some []
  | k :: v :: r => if keyD k = true then (upD r).map ((k, v) :: ·) else none
  | _ => none
/-- a comprehension's turns -/
def lcLoop (turn : D → Sto → Res (Option D)) : List D → List D → Sto → Res (List D)
  | [], acc, S => .ok acc S
  | x :: xs, acc, S => (turn x S).bind fun r S => match r with
    | some d => if acc.length < line then lcLoop turn xs (acc ++ [d]) S else .bad
    | none => lcLoop turn xs acc S
def dcLoop (turn : D → Sto → Res (D × D)) : List D → List (D × D) → Sto → Res (List (D × D))
  | [], acc, S => .ok acc S
  | x :: xs, acc, S => (turn x S).bind fun r S => if keyD r.1 = true ∧ acc.length < line then dcLoop turn xs (putD r.1 r.2 acc) S else .bad
def forLoop (turn : D → Env → Sto → StR) : List D → Env → Sto → StR
  | [], e, S => .nx e S
  | x :: xs, e, S => match turn x e S with
    | .nx e S => forLoop turn xs e S
    | .ct e S => forLoop turn xs e S
    | .bk e S => .nx e S
    | r => r
def whlLoop (test : Env → Sto → Res Bool) (turn : Env → Sto → StR) : Nat → Env → Sto → StR
  | 0, _, _ => .bad
  | n + 1, e, S => (test e S).st fun b S => if b = true then (match turn e S with
    | .nx e S => whlLoop test turn n e S
    | .ct e S => whlLoop test turn n e S
    | .bk e S => .nx e S
    | r => r) else .nx e S
def opS (o : Op) (x y : SV) (S : Sto) : Res SV := match rd S x, rd S y with
  | some a, some b => (ofO (opD o a b) S).bind fun d S => .ok (.p d) S
  | _, _ => .bad
def cmpS (o : Cm) (x y : SV) (S : Sto) : Res SV := match rd S x, rd S y with
  | some a, some b => (ofO (cmpD o a b) S).bind fun d S => .ok (.p (.bl d)) S
  | _, _ => .bad
def permL {α : Type} (perm : List Nat) (xs : List α) : List α := perm.filterMap fun i => xs[i]?
def rds (S : Sto) : List SV → Option (List D)
  | [] => some []
  | v :: vs => match rd S v, rds S vs with
    | some d, some ds => some (d :: ds)
    | _, _ => none
def purs : List SV → Option (List D)
  | [] => some []
  | v :: vs => match pur v, purs vs with
    | some d, some ds => some (d :: ds)
    | _, _ => none
def newS (d : D) (S : Sto) : Res SV := match d with
  | .lst xs => .ok (.l S.length) (S ++ [.lst xs])
  | .dct k => .ok (.l S.length) (S ++ [.dct k])
  | _ => .bad
def frzS (v : SV) (S : Sto) : Res SV := match v with
  | .p d => .ok (.p d) S
  | .l n => match S[n]? with
    | some (.lst xs) => .ok (.p (.lst xs)) (S.set n (.fro (.lst xs)))
    | some (.dct k) => .ok (.p (.dct k)) (S.set n (.fro (.dct k)))
    | some (.fro d) => .ok (.p d) S
    | _ => .bad
/-- an instance of class c: its attributes -/
def isO (c : Nat) (v : SV) (S : Sto) : Option (List (Str × D)) := match v with
  | .p (.obj c' fs) => if c' = c then some fs else none
  | .l n => match S[n]? with
    | some (.obj c' fs) => if c' = c then some fs else none
    | _ => none
  | _ => none
/-- own[k] of a local dict -/
def idxOS (k : D) (v : SV) (S : Sto) : Res SV := match v with
  | .l n => match S[n]? with
    | some (.own kvs key m) => if keyD k = true then (if eqK k key = true then (if hasD k kvs = true then .ok (.l m) S else .bad) else (ofO (lookD k kvs) S).bind fun d S => .ok (.p d) S) else .bad
    | some (.dct kvs) => if keyD k = true then (ofO (lookD k kvs) S).bind fun d S => .ok (.p d) S else .bad
    | _ => .bad
  | _ => .bad
def frzOS (v : SV) (S : Sto) : Res SV := match v with
  | .l n => match S[n]? with
    | some (.own kvs key m) => match S[m]? with
      | some (.lst xs) => if keyD key = true then .ok (.p (.dct (kvs.map fun q => if eqK key q.1 = true then (q.1, .lst xs) else q))) ((S.set m (.fro (.lst xs))).set n (.fro (.dct (kvs.map fun q => if eqK key q.1 = true then (q.1, .lst xs) else q)))) else .bad
      | _ => .bad
    | _ => frzS v S
  | _ => frzS v S
def notOwn : Cell → Bool
  | .own _ _ _ => false
  | _ => true
def ownIn (L : Nat) : Cell → Bool
  | .own _ _ m => decide (m < L)
  | _ => true
def fldS (c : Nat) (v : SV) (f : Str) (S : Sto) : Res SV := match isO c v S with
  | some fs => (ofO (fs.lookup f) S).bind fun d S => .ok (.p d) S
  | none => .bad
def mthS (c : Nat) (m : Str) (v : SV) (S : Sto) : Bool := match isO c v S with
  | some fs => (fs.lookup m).isNone
  | none => false
def mkS (C : CallF) (c f : Nat) (vs : List SV) (S : Sto) : Res SV := (C f (.l S.length :: vs) (S ++ [.obj c []])).bind fun r S' => match r with
  | .p .non => .ok (.l S.length) S'
  | _ => .bad
def mkfS (C : CallF) (c f : Nat) (vs : List SV) (S : Sto) : Res SV := (C f (.l S.length :: vs) (S ++ [.obj c []])).bind fun r S' => match r, S'[S.length]? with
  | .p .non, some (.obj c' fs) => if (S'.take S.length).all (ownIn S.length) = true then .ok (.p (.obj c' fs)) (S'.take S.length) else .bad
  | _, _ => .bad
def okK (m : Me) : Option D → Bool
  | some (.lst _) => match m with | .index => true | .count => true | _ => false
  | some (.dct _) => match m with | .get => true | _ => false
  | some (.str _) => match m with | .split => true | .join => true | _ => false
  | _ => false
def isL (v : Option SV) (S : Sto) : Bool := match v with
  | some (.l n) => match S[n]? with
    | some (.lst _) => true
    | _ => false
  | _ => false
def mmS (m : Mm) (v : Option SV) (ds : List D) (S : Sto) : Res SV := match v with
  | some (.l n) => match S[n]? with
    | some c => match mmC m c ds with
      | some (d, c') => .ok (.p d) (S.set n c')
      | none => .bad
    | none => .bad
  | _ => .bad
mutual
def evalE (C : CallF) : RE → Env → Sto → Res SV
  | .var i, e, S => ofO (e.get i) S
  | .frz i, e, S => (ofO (e.get i) S).bind fun v S => frzS v S
  | .cn d, _, S => .ok (.p d) S
  | .gl d, _, S => .ok (.p d) S
  | .op o a b, e, S => (evalE C a e S).bind fun x S => (evalE C b e S).bind fun y S => opS o x y S
  | .neg a, e, S => (evalE C a e S).bind fun x S => match x with
    | .p (.int i) => .ok (.p (.int (-i))) S
    | _ => .bad
  | .not_ a, e, S => (evalE C a e S).bind fun v S => match rd S v with
    | some d => (ofO (truD d) S).bind fun b S => .ok (.p (.bl (!b))) S
    | none => .bad
  | .cmp o a b, e, S => (evalE C a e S).bind fun x S => (evalE C b e S).bind fun y S => cmpS o x y S
  | .chain o1 o2 a b c, e, S => (evalE C a e S).bind fun x S => (evalE C b e S).bind fun y S => (cmpS o1 x y S).bind fun r S => match r with
    | .p (.bl true) => (evalE C c e S).bind fun z S => cmpS o2 y z S
    | .p (.bl false) => .ok (.p (.bl false)) S
    | _ => .bad
  | .and_ a b, e, S => (evalE C a e S).bind fun x S => match x with
    | .p (.bl true) => evalE C b e S
    | .p (.bl false) => .ok (.p (.bl false)) S
    | _ => .bad
  | .or_ a b, e, S => (evalE C a e S).bind fun x S => match x with
    | .p (.bl true) => .ok (.p (.bl true)) S
    | .p (.bl false) => evalE C b e S
    | _ => .bad
  | .ife t a b, e, S => (evalT C t e S).bind fun x S => if x = true then evalE C a e S else evalE C b e S
  | .tup es, e, S => (evalEs C es e S).bind fun vs S => (ofO (purs vs) S).bind fun ds S => if ds.length ≤ line then .ok (.p (.tup ds)) S else .bad
  | .lst es, e, S => (evalEs C es e S).bind fun vs S => (ofO (purs vs) S).bind fun ds S => if ds.length ≤ line then .ok (.p (.lst ds)) S else .bad
  | .new a, e, S => (evalE C a e S).bind fun v S => match v with
    | .p d => newS d S
    | _ => .bad
  | .dsp es, e, S => (evalEs C es e S).bind fun vs S => (ofO (purs vs) S).bind fun ds S => (ofO (upD ds) S).bind fun kv S => if kv.length ≤ 15 then .ok (.p (.dct (mergeD [] kv))) S else .bad
  | .idx a i, e, S => (evalE C a e S).bind fun x S => (evalE C i e S).bind fun y S => match rd S x, pur y with
    | some dx, some dy => (ofO (idxD dx dy) S).bind fun d S => .ok (.p d) S
    | _, _ => .bad
  | .sl a lo hi, e, S => (evalE C a e S).bind fun x S => (evalO C lo e S).bind fun l S => (evalO C hi e S).bind fun h S => match rd S x with
    | some dx => (ofO (slD dx l h) S).bind fun d S => .ok (.p d) S
    | _ => .bad
  | .bi f es, e, S => (evalEs C es e S).bind fun vs S => (ofO (rds S vs) S).bind fun ds S => (ofO (biD f ds) S).bind fun d S => .ok (.p d) S
  | .lrg a, e, S => (evalE C a e S).bind fun x S => match x with
    | .p (.int i) => if 0 ≤ i ∧ i ≤ line then .ok (.p (.lst (rangeD 0 i))) S else .bad
    | _ => .bad
  | .lrg2 a b, e, S => (evalE C a e S).bind fun x S => (evalE C b e S).bind fun y S => match x, y with
    | .p (.int i), .p (.int j) => if 0 ≤ i ∧ i ≤ line ∧ 0 ≤ j ∧ j ≤ line then .ok (.p (.lst (rangeD i j))) S else .bad
    | _, _ => .bad
  | .lit a, e, S => (evalE C a e S).bind fun x S => match rd S x with
    | some (.dct k) => if k.length ≤ 1000 then .ok (.p (.lst (k.map fun q => .tup [q.1, q.2]))) S else .bad
    | _ => .bad
  | .rev a, e, S => (evalE C a e S).bind fun x S => match rd S x with
    | some (.lst xs) => .ok (.p (.lst xs.reverse)) S
    | some (.tup xs) => .ok (.p (.tup xs.reverse)) S
    | _ => .bad
  | .isi a t, e, S => (evalE C a e S).bind fun x S => match rd S x with
    | some d => (ofO (isiD t d) S).bind fun b S => .ok (.p (.bl b)) S
    | none => .bad
  | .me m o es, e, S => (evalE C o e S).bind fun x S => if okK m (rd S x) = true then (evalEs C es e S).bind fun vs S => match rd S x, purs vs with
    | some d, some ds => (ofO (meD m d ds) S).bind fun d S => .ok (.p d) S
    | _, _ => .bad else .bad
  | .mm m i es, e, S => if isL (e.get i) S = true then (evalEs C es e S).bind fun vs S => (ofO (purs vs) S).bind fun ds S => mmS m (e.get i) ds S else .bad
  | .call f es, e, S => (evalEs C es e S).bind fun vs S => C f vs S
  | .callK f perm es, e, S => (evalEs C es e S).bind fun vs S => C f (permL perm vs) S
  | .meth c m f o es, e, S => (evalE C o e S).bind fun x S => if mthS c m x S = true then (evalEs C es e S).bind fun vs S => C f (x :: vs) S else .bad
  | .prp c f o, e, S => (evalE C o e S).bind fun x S => if (isO c x S).isSome = true then C f [x] S else .bad
  | .make c f es, e, S => (evalEs C es e S).bind fun vs S => mkS C c f vs S
  | .mkf c f es, e, S => (evalEs C es e S).bind fun vs S => mkfS C c f vs S
  | .makeK c f perm es, e, S => (evalEs C es e S).bind fun vs S => mkS C c f (permL perm vs) S
  | .mkfK c f perm es, e, S => (evalEs C es e S).bind fun vs S => mkfS C c f (permL perm vs) S
  | .fld c a f, e, S => (evalE C a e S).bind fun v S => fldS c v f S
  | .lc own tg it ifs elt, e, S => (evalI C it e S).bind fun xs S => (lcLoop (fun x S => (ofO (asgT tg x (wipeE e own) S) S).bind fun q _ => (evalIfs C ifs q.1 q.2).bind fun b S => if b = true then (evalE C elt q.1 S).bind fun v S => (ofO (pur v) S).bind fun d S => .ok (some d) S else .ok none S) xs [] S).bind fun acc S => .ok (.p (.lst acc)) S
  | .dc own tg it k v, e, S => (evalI C it e S).bind fun xs S => (dcLoop (fun x S => (ofO (asgT tg x (wipeE e own) S) S).bind fun q _ => (evalE C k q.1 q.2).bind fun a S => (evalE C v q.1 S).bind fun b S => match pur a, pur b with
      | some a, some b => .ok (a, b) S
      | _, _ => .bad) xs [] S).bind fun acc S => .ok (.p (.dct acc)) S
  | .idxO i k, e, S => (ofO (e.get i) S).bind fun v S => idxOS k v S
  | .frzO i, e, S => (ofO (e.get i) S).bind fun v S => frzOS v S
  | .frzE r, e, S => (evalE C r e S).bind fun v S => frzOS v S
  | .exm c a, e, S => (evalE C a e S).bind fun v S => match v with
    | .p d => .ok (.p (.err c d)) S
    | _ => .bad
  | .erv cs a, e, S => (evalE C a e S).bind fun v S => match v with
    | .p (.err c d) => if cs.contains c = true then .ok (.p d) S else .bad
    | _ => .bad
  | .isE a bs _, e, S => (evalE C a e S).bind fun v S => match v with
    | .p (.err c _) => (ofO (bs.lookup c) S).bind fun b S => .ok (.p (.bl b)) S
    | _ => .bad
def evalT (C : CallF) : RE → Env → Sto → Res Bool
  | .and_ a b, e, S => (evalT C a e S).bind fun x S => if x = true then evalT C b e S else .ok false S
  | .or_ a b, e, S => (evalT C a e S).bind fun x S => if x = true then .ok true S else evalT C b e S
  | .not_ a, e, S => (evalT C a e S).bind fun x S => .ok (!x) S
  | r, e, S => (evalE C r e S).bind fun v S => match rd S v with
    | some d => ofO (truD d) S
    | none => .bad
def evalEs (C : CallF) : REs → Env → Sto → Res (List SV)
  | .nil, _, S => .ok [] S
  | .cons a r, e, S => (evalE C a e S).bind fun v S => (evalEs C r e S).bind fun vs S => .ok (v :: vs) S
  | .star a r, e, S => (evalE C a e S).bind fun v S => match (rd S v).bind seqD with
    | some xs => (evalEs C r e S).bind fun vs S => .ok (xs.map SV.p ++ vs) S
    | none => .bad
def evalIfs (C : CallF) : REs → Env → Sto → Res Bool
  | .nil, _, S => .ok true S
  | .cons a r, e, S => (evalT C a e S).bind fun b S => if b = true then evalIfs C r e S else .ok false S
  | .star _ _, _, _ => .bad
def evalO (C : CallF) : RO → Env → Sto → Res (Option Int)
  | .non, _, S => .ok none S
  | .som a, e, S => (evalE C a e S).bind fun v S => match v with
    | .p (.int i) => .ok (some i) S
    | _ => .bad
def evalI (C : CallF) : RI → Env → Sto → Res (List D)
  | .e a, e, S => (evalE C a e S).bind fun v S => match v with
    | .p d => ofO (seqI d) S
    | _ => .bad
  | .rng1 a, e, S => (evalE C a e S).bind fun v S => match v with
    | .p (.int i) => if i < 2 ^ 62 ∧ -(2 ^ 62) ≤ i then .ok (rangeD 0 i) S else .bad
    | _ => .bad
  | .rng2 a b, e, S => (evalE C a e S).bind fun v S => (evalE C b e S).bind fun w S => match v, w with
    | .p (.int i), .p (.int j) => if i < 2 ^ 62 ∧ -(2 ^ 62) ≤ i ∧ j < 2 ^ 62 ∧ -(2 ^ 62) ≤ j then .ok (rangeD i j) S else .bad
    | _, _ => .bad
  | .enum a, e, S => (evalE C a e S).bind fun v S => match v with
    | .p d => (ofO (seqD d) S).bind fun xs S => .ok (enumD 0 xs) S
    | _ => .bad
  | .zip a b, e, S => (evalE C a e S).bind fun v S => (evalE C b e S).bind fun w S => match v, w with
    | .p (.lst xs), .p (.lst ys) => .ok (pairsD xs ys) S
    | .p (.tup xs), .p (.tup ys) => .ok (pairsD xs ys) S
    | _, _ => .bad
end
def setSV (i : Nat) (v : SV) (e : Env) (S : Sto) : StR := if i < e.length then .nx (e.set i (some v)) S else .bad
def setPar : List Nat → List SV → Env → Option Env
  | [], [], e => some e
  | i :: js, v :: vs, e => if i < e.length then setPar js vs (e.set i (some v)) else none
  | _, _, _ => none
mutual
def exec (C : CallF) (N : Nat) : RS → Env → Sto → StR
  | .set i a, e, S => (evalE C a e S).st fun v S => setSV i v e S
  | .setT tg a, e, S => (evalE C a e S).st fun v S => (ofO (pur v) S).st fun d S => (ofO (asgT tg d e S) S).st fun q _ => .nx q.1 q.2
  | .par js es, e, S => (evalEs C es e S).st fun vs S => (ofO (setPar js vs e) S).st fun e' S => .nx e' S
  | .aug i o a, e, S => (ofO (e.get i) S).st fun x S => (evalE C a e S).st fun y S => (opS o x y S).st fun v S => setSV i v e S
  | .sidxO i k b, e, S => (evalE C b e S).st fun v S => match v, e.get i with
    | .p (.lst xs), some (.l n) => (match S[n]? with
      | some (.dct kvs) => if keyD k = true ∧ kvs.length < line then .nx e (S.set n (.own (putD k .non kvs) k S.length) ++ [.lst xs]) else .bad
      | _ => .bad)
    | _, _ => .bad
  | .sidx2 i k j b, e, S => (evalE C b e S).st fun v S => (ofO (e.get i) S).st fun w S => (idxOS k w S).st fun u S => (evalE C j e S).st fun x S => match pur v, pur x, u with
    | some v, some x, .l m => (match S[m]? with
      | some (.lst xs) => (ofO (sidxC (.lst xs) x v) S).st fun c' S => .nx e (S.set m c')
      | _ => .bad)
    | _, _, _ => .bad
  | .sidx a k b, e, S => (evalE C b e S).st fun v S => (evalE C k e S).st fun x S => match pur v, pur x, e.get a with
    | some v, some x, some (.l n) => (match S[n]? with
      | some c => (ofO (sidxC c x v) S).st fun c' S => .nx e (S.set n c')
      | none => .bad)
    | _, _, _ => .bad
  | .sfld c a f b, e, S => (evalE C b e S).st fun v S => match pur v, e.get a with
    | some v, some (.l n) => (match S[n]? with
      | some (.obj c' fs) => if c' = c ∧ fs.length < 100 then .nx e (S.set n (.obj c (putFD f v fs))) else .bad
      | _ => .bad)
    | _, _ => .bad
  | .ex a, e, S => (evalE C a e S).st fun _ S => .nx e S
  | .ret a, e, S => (evalE C a e S).st fun v S => .rt v S
  | .retn, _, S => .rt (.p .non) S
  | .ife t a b, e, S => (evalT C t e S).st fun x S => if x = true then execs C N a e S else execs C N b e S
  | .for_ tg it body, e, S => (evalI C it e S).st fun xs S => forLoop (fun x e S => (ofO (asgT tg x e S) S).st fun q _ => execs C N body q.1 q.2) xs e S
  | .whl t body, e, S => whlLoop (fun e S => evalT C t e S) (fun e S => execs C N body e S) N e S
  | .brk, e, S => .bk e S
  | .cnt, e, S => .ct e S
  | .pas, e, S => .nx e S
  | .nev, _, _ => .bad
def execs (C : CallF) (N : Nat) : RSs → Env → Sto → StR
  | .nil, e, S => .nx e S
  | .cons s r, e, S => match exec C N s e S with
    | .nx e S => execs C N r e S
    | q => q
end
/-! ### functions -/
structure Fn where
  slots : Nat
  np : Nat
  body : RSs
/-- the arguments that are cells go in by what they hold: their places in the caller's cells -/
def imps : List SV → List Nat
  | [] => []
  | .p _ :: r => imps r
  | .l n :: r => n :: imps r
def impV : List SV → Nat → List SV
  | [], _ => []
  | .p d :: r, k => .p d :: impV r k
  | .l _ :: r, k => .l k :: impV r (k + 1)
def impC (S : Sto) : List Nat → Option Sto
  | [] => some []
  | n :: r => match S[n]?, impC S r with
    | some c, some cs => if notOwn c = true then some (c :: cs) else none
    | _, _ => none
/-- what the callee made of them comes back -/
def outC (S : Sto) : List Nat → Sto → Sto
  | n :: r, c :: cs => outC (S.set n c) r cs
  | _, _ => S
def nodupB : List Nat → Bool
  | [] => true
  | n :: r => !r.contains n && nodupB r
/-- a function's end: what is handed back -/
def clean (ns : List Nat) (S' : Sto) : Bool := (S'.take ns.length).all notOwn
def endF (ns : List Nat) (S : Sto) : StR → Res SV
  | .nx _ S' => if clean ns S' = true then .ok (.p .non) (outC S ns S') else .bad
  | .rt (.p d) S' => if clean ns S' = true then .ok (.p d) (outC S ns S') else .bad
  | .rt (.l k) S' => if clean ns S' = true then (match S'[k]? with
    | some (.own kvs key m) => if ns.length ≤ k ∧ ns.length ≤ m ∧ m ≠ k then (match S'[m]? with
      | some (.lst xs) => .ok (.l (S.length + 1)) (outC S ns S' ++ [.lst xs] ++ [.own kvs key S.length])
      | _ => .bad) else .bad
    | some c => if ns.length ≤ k then .ok (.l S.length) (outC S ns S' ++ [c]) else .bad
    | none => .bad) else .bad
  | .exc c d S' => .exc c d (outC S ns S')
  | _ => .bad
def start (f : Fn) (vs : List SV) : Env := (impV vs 0).map some ++ List.replicate (f.slots - vs.length) none
def runF (C : CallF) (N : Nat) (f : Fn) (vs : List SV) (S : Sto) : Res SV :=
  let ns := imps vs
  if vs.length = f.np ∧ f.np ≤ f.slots ∧ nodupB ns = true then (match impC S ns with
    | some S0 => endF ns S (execs C N f.body (start f vs) S0)
    | none => .bad) else .bad
/-- calls d deep -/
def callR (T : List Fn) (N : Nat) : Nat → CallF
  | 0, _, _, _ => .bad
  | d + 1, f, vs, S => match T[f]? with
    | some fn => runF (callR T N d) N fn vs S
    | none => .bad
end R
end
section
set_option linter.all false
set_option maxRecDepth 100000
set_option maxHeartbeats 4000000
/-! R2: how data stand in the heap; the judgements; the rules for values. -/
namespace R
open PySem PySem.Spec PyProof.Rows L2
/-! ### data in the heap -/
section
variable (K : PySem.W.Frag) (cl : Nat → Addr)
def keyRep : D → Key → Prop
  | .str x, k => k = .inr x
  | .int i, k => k = .inl i
  | _, _ => False
mutual
def Rep (G : Hp) : D → V → Prop
  | .non, v => v = .non
  | .bl b, v => v = .bl b
  | .int i, v => v = .int i
  | .str x, v => v = .str x
  | .tup xs, v => ∃ a vs, v = .ref a ∧ SqT K G a vs ∧ Reps G xs vs
  | .lst xs, v => ∃ a vs, v = .ref a ∧ G a = some (.lst vs) ∧ Reps G xs vs
  | .dct kvs, v => ∃ a ks, v = .ref a ∧ G a = some (.dK ks) ∧ RepK G kvs ks
  | .obj c fs, v => ∃ a dx fv, v = .ref a ∧ G a = some (.ins (cl c) dx fv) ∧ RepF G fs fv
  | .scr ns, v => ∃ a, v = .ref a ∧ SqL K G a (ns.map V.int)
  | .err c d, v => ∃ a t y, v = .ref a ∧ G a = some (exo a (cl c) (some t)) ∧ G t = some (exd t [("value", y)]) ∧ Rep G d y
def Reps (G : Hp) : List D → List V → Prop
  | [], vs => vs = []
  | x :: xs, vs => ∃ v r, vs = v :: r ∧ Rep G x v ∧ Reps G xs r
def RepK (G : Hp) : List (D × D) → List (Key × V) → Prop
  | [], ks => ks = []
  | (k, d) :: r, ks => ∃ κ v s, ks = (κ, v) :: s ∧ keyRep k κ ∧ Rep G d v ∧ RepK G r s
def RepF (G : Hp) : List (Str × D) → List (Str × V) → Prop
  | [], fs => fs = []
  | (f, d) :: r, fs => ∃ v s, fs = (f, v) :: s ∧ Rep G d v ∧ RepF G r s
end
end
section
variable {K : PySem.W.Frag} {cl : Nat → Addr} {G G' H H' : Hp}
theorem SqT.up {a : Addr} {vs : List V} (h : SqT K G a vs) (e : Same G G') : SqT K G' a vs := by
  rcases h with (h | ⟨o, h⟩) | h
  · exact .inl (.inl (e _ _ h))
  · exact .inl (.inr ⟨o, e _ _ h⟩)
  · exact .inr h
mutual
theorem Rep.up (e : Same G G') : ∀ (d : D) (v : V), Rep K cl G d v → Rep K cl G' d v
  | .non, _, h => h
  | .bl _, _, h => h
  | .int _, _, h => h
  | .str _, _, h => h
  | .tup xs, _, h => by
    obtain ⟨a, vs, h1, h2, h3⟩ := h
    exact ⟨a, vs, h1, SqT.up h2 e, Reps.up e xs vs h3⟩
  | .lst xs, _, h => by
    obtain ⟨a, vs, h1, h2, h3⟩ := h
    exact ⟨a, vs, h1, e _ _ h2, Reps.up e xs vs h3⟩
  | .dct kvs, _, h => by
    obtain ⟨a, ks, h1, h2, h3⟩ := h
    exact ⟨a, ks, h1, e _ _ h2, RepK.up e kvs ks h3⟩
  | .obj c fs, _, h => by
    obtain ⟨a, dx, fv, h1, h2, h3⟩ := h
    exact ⟨a, dx, fv, h1, e _ _ h2, RepF.up e fs fv h3⟩
  | .scr ns, _, h => by
    obtain ⟨a, h1, h2⟩ := h
    exact ⟨a, h1, e.seq h2⟩
  | .err c d, _, h => by
    obtain ⟨a, t, y, h1, h2, h3, h4⟩ := h
    exact ⟨a, t, y, h1, e _ _ h2, e _ _ h3, Rep.up e d y h4⟩
theorem Reps.up (e : Same G G') : ∀ (xs : List D) (vs : List V), Reps K cl G xs vs → Reps K cl G' xs vs
  | [], _, h => h
  | x :: xs, _, h => by
    obtain ⟨v, r, h1, h2, h3⟩ := h
    exact ⟨v, r, h1, Rep.up e x v h2, Reps.up e xs r h3⟩
theorem RepK.up (e : Same G G') : ∀ (xs : List (D × D)) (vs : List (Key × V)), RepK K cl G xs vs → RepK K cl G' xs vs
  | [], _, h => h
  | (k, d) :: r, _, h => by
    obtain ⟨κ, v, s, h1, h2, h3, h4⟩ := h
    exact ⟨κ, v, s, h1, h2, Rep.up e d v h3, RepK.up e r s h4⟩
theorem RepF.up (e : Same G G') : ∀ (xs : List (Str × D)) (vs : List (Str × V)), RepF K cl G xs vs → RepF K cl G' xs vs
  | [], _, h => h
  | (f, d) :: r, _, h => by
    obtain ⟨v, s, h1, h2, h3⟩ := h
    exact ⟨v, s, h1, Rep.up e d v h2, RepF.up e r s h3⟩
end
theorem Reps.pair : ∀ {xs : List D} {vs : List V}, Reps K cl G xs vs → Paired (Rep K cl G) xs vs
  | [], _, h => by cases (show _ = [] from h); exact .nil
  | x :: xs, _, h => by
    obtain ⟨v, r, h1, h2, h3⟩ := h
    subst h1
    exact .cons h2 (Reps.pair h3)
theorem Reps.of : ∀ {xs : List D} {vs : List V}, Paired (Rep K cl G) xs vs → Reps K cl G xs vs
  | _, _, .nil => rfl
  | _, _, .cons r t => ⟨_, _, rfl, r, Reps.of t⟩
theorem Reps.length {xs : List D} {vs : List V} (h : Reps K cl G xs vs) : xs.length = vs.length := h.pair.length
theorem Paired.append {α β : Type} {F : α → β → Prop} {x y : List α} {u w : List β} (h : Paired F x u) (h' : Paired F y w) : Paired F (x ++ y) (u ++ w) := by
  induction h with
  | nil => exact h'
  | cons r _ ih => exact .cons r ih
theorem Paired.get {α β : Type} {F : α → β → Prop} {x : List α} {u : List β} (h : Paired F x u) : ∀ {i : Nat} {a : α}, x[i]? = some a → ∃ b, u[i]? = some b ∧ F a b := by
  induction h with
  | nil => intro i a e; simp at e
  | cons r _ ih =>
    intro i a e
    cases i with
    | zero => simp at e; subst e; exact ⟨_, rfl, r⟩
    | succ i => obtain ⟨b, h1, h2⟩ := ih (i := i) (by simpa using e); exact ⟨b, by simpa using h1, h2⟩
theorem Paired.drop {α β : Type} {F : α → β → Prop} {x : List α} {u : List β} (h : Paired F x u) : ∀ n : Nat, Paired F (x.drop n) (u.drop n) := by
  induction h with
  | nil => intro n; simp; exact .nil
  | cons r t ih =>
    intro n
    cases n with
    | zero => exact .cons r t
    | succ n => exact ih n
theorem Paired.take {α β : Type} {F : α → β → Prop} {x : List α} {u : List β} (h : Paired F x u) : ∀ n : Nat, Paired F (x.take n) (u.take n) := by
  induction h with
  | nil => intro n; simp; exact .nil
  | cons r t ih =>
    intro n
    cases n with
    | zero => exact .nil
    | succ n => exact .cons r (ih n)
theorem Paired.set {α β : Type} {F : α → β → Prop} {x : List α} {u : List β} {a : α} {b : β} (h : Paired F x u) (r0 : F a b) : ∀ n : Nat, Paired F (x.set n a) (u.set n b) := by
  induction h with
  | nil => intro n; exact .nil
  | cons r t ih =>
    intro n
    cases n with
    | zero => exact .cons r0 t
    | succ n => exact .cons r (ih n)
theorem Paired.erase {α β : Type} {F : α → β → Prop} {x : List α} {u : List β} (h : Paired F x u) : ∀ n : Nat, Paired F (x.eraseIdx n) (u.eraseIdx n) := by
  induction h with
  | nil => intro n; simp; exact .nil
  | cons r t ih =>
    intro n
    cases n with
    | zero => exact t
    | succ n => exact .cons r (ih n)
theorem Paired.dropLast {α β : Type} {F : α → β → Prop} {x : List α} {u : List β} (h : Paired F x u) : Paired F x.dropLast u.dropLast := by
  rw [List.dropLast_eq_take, List.dropLast_eq_take, h.length]
  exact Paired.take h _
theorem Paired.rep {α β : Type} {F : α → β → Prop} {x : List α} {u : List β} (h : Paired F x u) : ∀ n : Nat, Paired F (List.replicate n x).flatten (List.replicate n u).flatten
  | 0 => .nil
  | n + 1 => by
    rw [List.replicate_succ, List.replicate_succ, List.flatten_cons, List.flatten_cons]
    exact Paired.append h (Paired.rep h n)
theorem Reps.up' {xs : List D} {vs : List V} (h : Reps K cl G xs vs) (e : Same G G') : Reps K cl G' xs vs := Reps.up e xs vs h
theorem Rep.up' {d : D} {v : V} (h : Rep K cl G d v) (e : Same G G') : Rep K cl G' d v := Rep.up e d v h
end

/-! ### cells -/
section
variable (K : PySem.W.Frag) (cl : Nat → Addr)
def RepO (G : Hp) (k : D) (b : Addr) : List (D × D) → List (Key × V) → Prop
  | [], ks => ks = []
  | (k', d) :: r, ks => ∃ κ v s, ks = (κ, v) :: s ∧ keyRep k' κ ∧ ((eqK k k' = true ∧ v = .ref b) ∨ (eqK k k' = false ∧ Rep K cl G d v)) ∧ RepO G k b r s
def CellRep (ι : List Addr) (G H : Hp) (a : Addr) : Cell → Prop
  | .lst xs => G a = none ∧ ∃ vs, H a = some (.lst vs) ∧ Reps K cl G xs vs
  | .dct k => G a = none ∧ ∃ ks, H a = some (.dK ks) ∧ RepK K cl G k ks
  | .obj c fs => G a = none ∧ ∃ dx fv, H a = some (.ins (cl c) dx fv) ∧ RepF K cl G fs fv
  | .own kvs k m => G a = none ∧ ∃ ks b, ι[m]? = some b ∧ b ≠ a ∧ H a = some (.dK ks) ∧ RepO K cl G k b kvs ks
  | .fro d => Rep K cl G d (.ref a)
  | .dead => True
/-- the heap: G what is frozen, S the cells at the addresses ι -/
structure RpH (S : Sto) (G : Hp) (ι : List Addr) (H : Hp) : Prop where
  gs : Same G H
  len : ι.length = S.length
  nd : ι.Nodup
  inh : ∀ a ∈ ι, H a ≠ none
  cel : ∀ (n : Nat) (a : Addr) (c : Cell), ι[n]? = some a → S[n]? = some c → CellRep K cl ι G H a c
def RepS (G : Hp) (ι : List Addr) : SV → V → Prop
  | .p d, v => Rep K cl G d v
  | .l n, v => ∃ a, ι[n]? = some a ∧ v = .ref a
structure EnvR (env : Env) (G : Hp) (ι : List Addr) (σ : L2.St) : Prop where
  el : env.length = σ.length
  at_ : ∀ (i : Nat) (sv : SV), env[i]? = some (some sv) → ∃ v, σ[i]? = some (some v) ∧ RepS K cl G ι sv v
end
structure Ext (G H : Hp) (ι : List Addr) (G' H' : Hp) (ι' : List Addr) : Prop where
  g : Same G G'
  i : ∃ t, ι' = ι ++ t
  fr : ∀ a o, H a = some o → a ∉ ι → H' a = some o
  nw : ∀ a ∈ ι', a ∈ ι ∨ H a = none
  gn : ∀ a o, G' a = some o → G a = some o ∨ H a = none ∨ a ∈ ι
  hn : ∀ a, H' a = none → H a = none
section
variable {K : PySem.W.Frag} {cl : Nat → Addr} {G G' G2 H H' H2 : Hp} {ι ι' ι2 : List Addr} {S S' : Sto}
theorem Ext.refl : Ext G H ι G H ι := ⟨Same.refl _, ⟨[], by simp⟩, fun _ _ h _ => h, fun _ h => .inl h, fun _ _ h => .inl h, fun _ h => h⟩
theorem Ext.trans (a : Ext G H ι G' H' ι') (b : Ext G' H' ι' G2 H2 ι2) : Ext G H ι G2 H2 ι2 := by
  obtain ⟨t, ht⟩ := a.i
  obtain ⟨u, hu⟩ := b.i
  refine ⟨a.g.trans b.g, ⟨t ++ u, by rw [hu, ht, List.append_assoc]⟩, fun p o h n => ?_, fun p h => ?_, fun p o h => ?_, fun p h => a.hn p (b.hn p h)⟩
  · refine b.fr p o (a.fr p o h n) fun m => ?_
    rcases a.nw p m with z | z
    · exact n z
    · rw [z] at h; cases h
  · rcases b.nw p h with z | z
    · exact a.nw p z
    · exact .inr (a.hn p z)
  · rcases b.gn p o h with z | z | z
    · exact a.gn p o z
    · exact .inr (.inl (a.hn p z))
    · rcases a.nw p z with y | y
      · exact .inr (.inr y)
      · exact .inr (.inl y)
theorem RepS.up {sv : SV} {v : V} (h : RepS K cl G ι sv v) (x : Ext G H ι G' H' ι') : RepS K cl G' ι' sv v := by
  cases sv with
  | p d => exact Rep.up x.g d v h
  | l n =>
    obtain ⟨a, h1, h2⟩ := h
    obtain ⟨t, e⟩ := x.i
    refine ⟨a, ?_, h2⟩
    rw [e, List.getElem?_append_left (List.getElem?_eq_some_iff.mp h1).1]
    exact h1
theorem EnvR.up {env : Env} {σ : L2.St} (h : EnvR K cl env G ι σ) (x : Ext G H ι G' H' ι') : EnvR K cl env G' ι' σ :=
  ⟨h.el, fun i sv e => let ⟨v, h1, h2⟩ := h.at_ i sv e; ⟨v, h1, RepS.up h2 x⟩⟩
theorem RepO.up {k : D} {b : Addr} (e : Same G G') : ∀ {kvs : List (D × D)} {ks : List (Key × V)}, RepO K cl G k b kvs ks → RepO K cl G' k b kvs ks
  | [], _, h => h
  | (k', d) :: r, _, h => by
    obtain ⟨κ, v, s, h1, h2, h3, h4⟩ := h
    exact ⟨κ, v, s, h1, h2, h3.imp id fun z => ⟨z.1, Rep.up e d v z.2⟩, RepO.up e h4⟩
theorem CellRep.upG {a : Addr} {c : Cell} (h : CellRep K cl ι G H a c) (e : Same G G') (hn : G a = none → G' a = none) (hh : ∀ o, H a = some o → H' a = some o) : CellRep K cl ι G' H' a c := by
  cases c with
  | lst xs => obtain ⟨q0, vs, q1, q2⟩ := h; exact ⟨hn q0, vs, hh _ q1, Reps.up e _ _ q2⟩
  | dct k => obtain ⟨q0, vs, q1, q2⟩ := h; exact ⟨hn q0, vs, hh _ q1, RepK.up e _ _ q2⟩
  | obj c fs => obtain ⟨q0, dx, vs, q1, q2⟩ := h; exact ⟨hn q0, dx, vs, hh _ q1, RepF.up e _ _ q2⟩
  | own kvs k m => obtain ⟨q0, ks, b, q1, q2, q3, q4⟩ := h; exact ⟨hn q0, ks, b, q1, q2, hh _ q3, RepO.up e q4⟩
  | fro d => exact Rep.up e _ _ h
  | dead => trivial
theorem CellRep.more {a : Addr} {c : Cell} {t : List Addr} (h : CellRep K cl ι G H a c) : CellRep K cl (ι ++ t) G H a c := by
  cases c with
  | own kvs k m =>
    obtain ⟨q0, ks, b, q1, q2⟩ := h
    exact ⟨q0, ks, b, by rw [List.getElem?_append_left (List.getElem?_eq_some_iff.mp q1).1]; exact q1, q2⟩
  | lst xs => exact h
  | dct k => exact h
  | obj c fs => exact h
  | fro d => exact h
  | dead => trivial
theorem CellRep.less {a : Addr} {c : Cell} {t : List Addr} (h : CellRep K cl (ι ++ t) G H a c) (hl : ownIn ι.length c = true) : CellRep K cl ι G H a c := by
  cases c with
  | own kvs k m =>
    obtain ⟨q0, ks, b, q1, q2⟩ := h
    have hl : m < ι.length := of_decide_eq_true hl
    exact ⟨q0, ks, b, by rw [List.getElem?_append_left hl] at q1; exact q1, q2⟩
  | lst xs => exact h
  | dct k => exact h
  | obj c fs => exact h
  | fro d => exact h
  | dead => trivial
/-- a new frozen object -/
theorem RpH.lay {p : Addr} {o : HO} (h : RpH K cl S G ι H) (hp : H p = none) : RpH K cl S (upd G p o) ι (upd H p o) := by
  have nι : ∀ a ∈ ι, a ≠ p := fun a ha e => h.inh a ha (e ▸ hp)
  have sg : Same G (upd G p o) := fun b u e => by
    rw [upd_ne (fun z => by rw [z] at e; rw [h.gs _ _ e] at hp; cases hp)]
    exact e
  refine ⟨fun b u e => ?_, h.len, h.nd, fun a ha => ?_, fun n a c e1 e2 => ?_⟩
  · by_cases hb : b = p
    · subst hb; rw [upd_same] at e ⊢; exact e
    · rw [upd_ne hb] at e ⊢; exact h.gs b u e
  · rw [upd_ne (nι a ha)]; exact h.inh a ha
  · have ha := nι a (List.mem_of_getElem? e1)
    exact (h.cel n a c e1 e2).upG sg (fun q => by rw [upd_ne ha]; exact q) fun o q => by rw [upd_ne ha]; exact q
theorem Ext.lay {p : Addr} {o : HO} (gs : Same G H) (hp : H p = none) : Ext G H ι (upd G p o) (upd H p o) ι := by
  refine ⟨fun b u e => ?_, ⟨[], by simp⟩, fun a u e _ => ?_, fun a h => .inl h, fun a u e => ?_, fun a h => ?_⟩
  · rw [upd_ne (fun z => by rw [z] at e; rw [gs _ _ e] at hp; cases hp)]; exact e
  · rw [upd_ne (fun z => by rw [z, hp] at e; cases e)]; exact e
  · by_cases ha : a = p
    · subst ha; exact .inr (.inl hp)
    · rw [upd_ne ha] at e; exact .inl e
  · by_cases ha : a = p
    · subst ha; exact hp
    · rw [upd_ne ha] at h; exact h
theorem Ext.layH {p : Addr} {o : HO} (hp : H p = none) : Ext G H ι G (upd H p o) ι := by
  refine ⟨Same.refl _, ⟨[], by simp⟩, fun a u e _ => ?_, fun a h => .inl h, fun a u e => .inl e, fun a h => ?_⟩
  · rw [upd_ne (fun z => by rw [z, hp] at e; cases e)]; exact e
  · by_cases ha : a = p
    · subst ha; exact hp
    · rw [upd_ne ha] at h; exact h
/-- an object that is tracked and not yet anybody's -/
theorem RpH.layH {p : Addr} {o : HO} (h : RpH K cl S G ι H) (hp : H p = none) : RpH K cl S G ι (upd H p o) := by
  have nι : ∀ a ∈ ι, a ≠ p := fun a ha e => h.inh a ha (e ▸ hp)
  refine ⟨fun b u e => ?_, h.len, h.nd, fun a ha => ?_, fun n a c e1 e2 => ?_⟩
  · rw [upd_ne (fun z => by rw [z] at e; rw [h.gs _ _ e] at hp; cases hp)]; exact h.gs b u e
  · rw [upd_ne (nι a ha)]; exact h.inh a ha
  · have ha := nι a (List.mem_of_getElem? e1)
    exact (h.cel n a c e1 e2).upG (Same.refl _) (fun q => q) fun o q => by rw [upd_ne ha]; exact q
/-- an object that is nobody's is frozen -/
theorem RpH.freeze {p : Addr} {o : HO} (h : RpH K cl S G ι H) (hp : H p = some o) (hg : G p = none) (hn : p ∉ ι) : RpH K cl S (upd G p o) ι H ∧ Same G (upd G p o) := by
  have sg : Same G (upd G p o) := fun b u e => by
    rw [upd_ne (fun z => by rw [z, hg] at e; cases e)]; exact e
  refine ⟨⟨fun b u e => ?_, h.len, h.nd, h.inh, fun n a c e1 e2 => ?_⟩, sg⟩
  · by_cases hb : b = p
    · subst hb; rw [upd_same] at e; rw [hp]; exact e
    · rw [upd_ne hb] at e; exact h.gs b u e
  · have ha : a ≠ p := fun z => hn (z ▸ List.mem_of_getElem? e1)
    exact (h.cel n a c e1 e2).upG sg (fun q => by rw [upd_ne ha]; exact q) fun _ q => q
/-- an object that is nobody's becomes a cell -/
theorem RpH.cell {p : Addr} {c : Cell} (h : RpH K cl S G ι H) (hp : H p ≠ none) (hn : p ∉ ι) (hc : CellRep K cl (ι ++ [p]) G H p c) : RpH K cl (S ++ [c]) G (ι ++ [p]) H := by
  refine ⟨h.gs, by simp [h.len], ?_, fun a ha => ?_, fun n a c' e1 e2 => ?_⟩
  · rw [List.nodup_append]
    refine ⟨h.nd, by simp, fun a ha b hb e => ?_⟩
    simp at hb
    subst hb
    subst e
    exact hn ha
  · rcases List.mem_append.mp ha with z | z
    · exact h.inh a z
    · simp at z; subst z; exact hp
  · by_cases hl : n < ι.length
    · rw [List.getElem?_append_left hl] at e1
      rw [List.getElem?_append_left (by rw [← h.len]; exact hl)] at e2
      exact (h.cel n a c' e1 e2).more
    · have hle : ι.length ≤ n := Nat.le_of_not_lt hl
      rw [List.getElem?_append_right hle] at e1
      rw [List.getElem?_append_right (by rw [← h.len]; exact hle), ← h.len] at e2
      have hz : n - ι.length = 0 := by
        have := (List.getElem?_eq_some_iff.mp e1).1
        simp at this
        exact this
      rw [hz] at e1 e2
      simp at e1 e2
      subst e1
      subst e2
      exact hc
theorem idx_unique {α : Type} {l : List α} (nd : l.Nodup) {i j : Nat} {a : α} (h1 : l[i]? = some a) (h2 : l[j]? = some a) : i = j := by
  obtain ⟨h3, e3⟩ := List.getElem?_eq_some_iff.mp h1
  obtain ⟨h4, e4⟩ := List.getElem?_eq_some_iff.mp h2
  exact (List.getElem_inj nd).mp (e3.trans e4.symm)
/-- the object of a cell is written -/
theorem RpH.put {n : Nat} {p : Addr} {o : HO} {c : Cell} (h : RpH K cl S G ι H) (hn : ι[n]? = some p) (hg : G p = none) (hc : CellRep K cl ι G (upd H p o) p c) : RpH K cl (S.set n c) G ι (upd H p o) := by
  refine ⟨fun b u e => ?_, by simp [h.len], h.nd, fun a ha => ?_, fun m a c' e1 e2 => ?_⟩
  · rw [upd_ne (fun z => by rw [z, hg] at e; cases e)]; exact h.gs b u e
  · by_cases ha' : a = p
    · subst ha'; rw [upd_same]; simp
    · rw [upd_ne ha']; exact h.inh a ha
  · by_cases hm : m = n
    · subst hm
      rw [hn] at e1; cases e1
      rw [List.getElem?_set_self (by rw [← h.len]; exact (List.getElem?_eq_some_iff.mp hn).1)] at e2
      cases e2
      exact hc
    · rw [List.getElem?_set_ne (Ne.symm hm)] at e2
      have ha : a ≠ p := fun z => hm (idx_unique h.nd e1 (z ▸ hn))
      exact (h.cel m a c' e1 e2).upG (Same.refl _) (fun q => q) fun _ q => by rw [upd_ne ha]; exact q
theorem Ext.put {n : Nat} {p : Addr} {o : HO} (hn : ι[n]? = some p) : Ext G H ι G (upd H p o) ι := by
  refine ⟨Same.refl _, ⟨[], by simp⟩, fun a u e na => ?_, fun a h => .inl h, fun a u e => .inl e, fun a h => ?_⟩
  · rw [upd_ne (fun (z : a = p) => na (by rw [z]; exact List.mem_of_getElem? hn))]; exact e
  · by_cases ha : a = p
    · subst ha; rw [upd_same] at h; cases h
    · rw [upd_ne ha] at h; exact h
/-- a cell is frozen for good -/
theorem same_upd {p : Addr} {o : HO} (hg : G p = none) : Same G (upd G p o) := fun b u e => by
  rw [upd_ne (fun z => by rw [z, hg] at e; cases e)]; exact e
theorem RpH.kill {n : Nat} {p : Addr} {o : HO} {d : D} (hd : Rep K cl (upd G p o) d (.ref p)) (h : RpH K cl S G ι H) (hn : ι[n]? = some p) (hp : H p = some o) (hg : G p = none) : RpH K cl (S.set n (.fro d)) (upd G p o) ι H ∧ Ext G H ι (upd G p o) H ι := by
  have sg : Same G (upd G p o) := fun b u e => by
    rw [upd_ne (fun z => by rw [z, hg] at e; cases e)]; exact e
  refine ⟨⟨fun b u e => ?_, by simp [h.len], h.nd, h.inh, fun m a c e1 e2 => ?_⟩, sg, ⟨[], by simp⟩, fun a u e _ => e, fun a h => .inl h, fun a u e => ?_, fun a h => h⟩
  · by_cases hb : b = p
    · subst hb; rw [upd_same] at e; rw [hp]; exact e
    · rw [upd_ne hb] at e; exact h.gs b u e
  · by_cases hm : m = n
    · subst hm
      rw [List.getElem?_set_self (by rw [← h.len]; exact (List.getElem?_eq_some_iff.mp hn).1)] at e2
      cases e2
      rw [hn] at e1
      cases e1
      exact hd
    · rw [List.getElem?_set_ne (Ne.symm hm)] at e2
      have ha : a ≠ p := fun z => hm (idx_unique h.nd e1 (z ▸ hn))
      exact (h.cel m a c e1 e2).upG sg (fun q => by rw [upd_ne ha]; exact q) fun _ q => q
  · by_cases ha : a = p
    · subst ha; exact .inr (.inr (List.mem_of_getElem? hn))
    · rw [upd_ne ha] at e; exact .inl e
end

/-! ### what is wanted behind a computation -/
section
variable (K : PySem.W.Frag) (cl : Nat → Addr)
/-- R: how the result stands (the heap ahead, the frozen part, the heap, the cells behind) -/
abbrev RelA (α β : Type) := Hp → Hp → Hp → List Addr → α → β → Prop
def Post {α β : Type} (R : RelA α β) (G : Hp) (ι : List Addr) (H : Hp) (Q : β → Hp → Prop) : Res α → Prop
  | .ok a S' => ∀ (b : β) (H' G' : Hp) (ι' : List Addr), RpH K cl S' G' ι' H' → Ext G H ι G' H' ι' → R H G' H' ι' a b → Q b H'
  | _ => False
def tX {α β : Type} (R : RelA α β) (f : Env → Sto → Res α) : L2.St → Hp → (β → Hp → Prop) → Prop := fun σ H Q =>
  ∃ (env : Env) (S : Sto) (G : Hp) (ι : List Addr), RpH K cl S G ι H ∧ EnvR K cl env G ι σ ∧ Post K cl R G ι H Q (f env S)
abbrev RSv : RelA SV V := fun _ G' _ ι' sv v => RepS K cl G' ι' sv v
abbrev RBl : RelA Bool Bool := fun _ _ _ _ a b => a = b
abbrev RLs : RelA (List SV) (List V) := fun _ G' _ ι' a b => Paired (RepS K cl G' ι') a b
abbrev ROp : RelA (Option Int) (Option Int) := fun _ _ _ _ a b => a = b
/-- a new object, not yet frozen -/
def RNw : RelA SV V := fun H G' H' ι' sv v => ∃ p, v = .ref p ∧ H p = none ∧ G' p = none ∧ p ∉ ι' ∧ match sv with
  | .p (.lst xs) => ∃ vs, H' p = some (.lst vs) ∧ Reps K cl G' xs vs
  | .p (.dct k) => ∃ ks, H' p = some (.dK ks) ∧ RepK K cl G' k ks
  | _ => False
end
section
variable {K : PySem.W.Frag} {cl : Nat → Addr} {G G' G2 H H' H2 : Hp} {ι ι' ι2 : List Addr} {S S' : Sto}
theorem Post.up {α β : Type} {Z : RelA α β} {Q : β → Hp → Prop} {r : Res α} (h : Post K cl Z G ι H Q r) (x : Ext G H ι G' H' ι') (hR : ∀ (G2 H2 : Hp) (ι2 : List Addr) a b, Z H' G2 H2 ι2 a b → Z H G2 H2 ι2 a b) : Post K cl Z G' ι' H' Q r := by
  cases r with
  | ok a S' => exact fun b H2 G2 ι2 rp ex rr => h b H2 G2 ι2 rp (x.trans ex) (hR _ _ _ _ _ rr)
  | exc c d S' => exact h
  | bad => exact h
theorem RNw.up (x : Ext G H ι G' H' ι') {G2 H2 : Hp} {ι2 : List Addr} {a : SV} {b : V} (h : RNw K cl H' G2 H2 ι2 a b) : RNw K cl H G2 H2 ι2 a b := by
  obtain ⟨p, h1, h2, h3⟩ := h
  exact ⟨p, h1, x.hn p h2, h3⟩
/-- one computation, then another -/
theorem Post.seq {α β γ δ : Type} {Z : RelA α β} {Z2 : RelA γ δ} {r : Res α} {f : α → Sto → Res γ} {Q : δ → Hp → Prop} {Q' : β → Hp → Prop} (h : Post K cl Z2 G ι H Q (r.bind f))
    (k : ∀ (a : α) (S1 : Sto) (b : β) (H1 G1 : Hp) (ι1 : List Addr), r = .ok a S1 → RpH K cl S1 G1 ι1 H1 → Ext G H ι G1 H1 ι1 → Z H G1 H1 ι1 a b → Post K cl Z2 G ι H Q (f a S1) → Q' b H1) : Post K cl Z G ι H Q' r := by
  cases r with
  | ok a S1 => exact fun b H1 G1 ι1 rp ex rr => k a S1 b H1 G1 ι1 rfl rp ex rr h
  | exc c d S' => exact h
  | bad => exact h
theorem Post.mono {α β : Type} {Z : RelA α β} {Q Q' : β → Hp → Prop} {r : Res α} (h : Post K cl Z G ι H Q r) (k : ∀ b H, Q b H → Q' b H) : Post K cl Z G ι H Q' r := by
  cases r with
  | ok a S' => exact fun b H2 G2 ι2 rp ex rr => k _ _ (h b H2 G2 ι2 rp ex rr)
  | exc c d S' => exact h
  | bad => exact h
end
end R
end
section
set_option linter.all false
set_option maxRecDepth 100000
set_option maxHeartbeats 4000000
/-! R3: operators, comparisons, built-in functions on data. -/
namespace R
open PySem PySem.Spec PyProof.Rows L2
section
variable {K : PySem.W.Frag} {cl : Nat → Addr} {G G' H H' : Hp} {ι ι' : List Addr} {S S' : Sto}
/-- readable in the heap as it is -/
def RdV (K : PySem.W.Frag) (cl : Nat → Addr) (G H : Hp) : D → V → Prop
  | .lst xs, v => ∃ a vs, v = .ref a ∧ H a = some (.lst vs) ∧ Reps K cl G xs vs
  | .dct k, v => ∃ a ks, v = .ref a ∧ H a = some (.dK ks) ∧ RepK K cl G k ks
  | d, v => Rep K cl G d v
theorem RdV.of (gs : Same G H) {d : D} {v : V} (h : Rep K cl G d v) : RdV K cl G H d v := by
  cases d with
  | lst xs => obtain ⟨a, vs, h1, h2, h3⟩ := h; exact ⟨a, vs, h1, gs _ _ h2, h3⟩
  | dct k => obtain ⟨a, ks, h1, h2, h3⟩ := h; exact ⟨a, ks, h1, gs _ _ h2, h3⟩
  | _ => exact h
theorem rd_rep (r : RpH K cl S G ι H) {sv : SV} {v : V} {d : D} (h : RepS K cl G ι sv v) (e : rd S sv = some d) : RdV K cl G H d v := by
  cases sv with
  | p d' => cases e; exact RdV.of r.gs h
  | l n =>
    obtain ⟨a, h1, h2⟩ := h
    subst h2
    have e : (S[n]?).bind rdc = some d := e
    cases q : S[n]? with
    | none => rw [q] at e; cases e
    | some c =>
      rw [q] at e
      have z := r.cel n a c h1 q
      cases c with
      | lst xs => cases e; exact ⟨a, z.2.choose, rfl, z.2.choose_spec⟩
      | dct k => cases e; exact ⟨a, z.2.choose, rfl, z.2.choose_spec⟩
      | obj c fs => cases e
      | own _ _ _ => cases e
      | fro d' => cases e; exact RdV.of r.gs z
      | dead => cases e
theorem RepT.sq (gs : Same G H) {xs : List D} {v : V} (h : Rep K cl G (.tup xs) v) : ∃ a vs, v = .ref a ∧ SqT K H a vs ∧ Reps K cl G xs vs := by
  obtain ⟨a, vs, h1, h2, h3⟩ := h
  exact ⟨a, vs, h1, SqT.up h2 gs, h3⟩
mutual
theorem Rep.dp (gs : Same G H) : ∀ (d : D) (v : V) (p : PyData), Rep K cl G d v → d.py = some p → Dp K H v p
  | .non, _, _, h, e => by cases e; cases h; exact .non
  | .bl b, _, _, h, e => by cases e; cases h; exact .bl b
  | .int i, _, _, h, e => by cases e; cases h; exact .int i
  | .str x, _, _, h, e => by cases e; cases h; exact .str x
  | .tup xs, _, p, h, e => by
    obtain ⟨a, vs, h1, h2, h3⟩ := h
    subst h1
    obtain ⟨ds, e1, e2⟩ := Option.map_eq_some_iff.mp (show (pys xs).map PyData.tuple = some p from e)
    subst e2
    exact .tup (SqT.up h2 gs) (Reps.dp gs xs vs ds h3 e1)
  | .lst xs, _, p, h, e => by
    obtain ⟨a, vs, h1, h2, h3⟩ := h
    subst h1
    obtain ⟨ds, e1, e2⟩ := Option.map_eq_some_iff.mp (show (pys xs).map PyData.list = some p from e)
    subst e2
    exact .lst (.inl (.inl (gs _ _ h2))) (Reps.dp gs xs vs ds h3 e1)
  | .dct _, _, _, _, e => by cases e
  | .obj _ _, _, _, _, e => by cases e
  | .scr _, _, _, _, e => by cases e
  | .err _ _, _, _, _, e => by cases e
theorem Reps.dp (gs : Same G H) : ∀ (xs : List D) (vs : List V) (ps : List PyData), Reps K cl G xs vs → pys xs = some ps → DpAll K H vs ps
  | [], _, _, h, e => by cases e; cases (show _ = [] from h); exact .nil
  | x :: xs, _, ps, h, e => by
    obtain ⟨v, r, h1, h2, h3⟩ := h
    subst h1
    unfold pys at e
    cases q1 : x.py with
    | none => rw [q1] at e; cases e
    | some a =>
      cases q2 : pys xs with
      | none => rw [q1, q2] at e; cases e
      | some b =>
        rw [q1, q2] at e
        cases e
        exact .cons (Rep.dp gs x v a h2 q1) (Reps.dp gs xs r b h3 q2)
end
theorem RdV.dp (gs : Same G H) {d : D} {v : V} {p : PyData} (h : RdV K cl G H d v) (e : d.py = some p) : Dp K H v p := by
  cases d with
  | lst xs =>
    obtain ⟨a, vs, h1, h2, h3⟩ := h
    subst h1
    obtain ⟨ds, e1, e2⟩ := Option.map_eq_some_iff.mp (show (pys xs).map PyData.list = some p from e)
    subst e2
    exact .lst (.inl (.inl h2)) (Reps.dp gs xs vs ds h3 e1)
  | dct k => cases e
  | _ => exact Rep.dp gs _ v p h e
theorem sline : (sizeLine : Nat) = line := by rw [sizeLine_eq]; rfl
end

/-! ### two-place operations -/
def Op.py : Op → Operator
  | .add => .Add | .sub => .Sub | .mul => .Mult | .fdiv => .FloorDiv | .mod => .Mod | .pow => .Pow
def Cm.py : Cm → CmpOp
  | .eq => .Eq | .ne => .NotEq | .lt => .Lt | .le => .LtE | .gt => .Gt | .ge => .GtE | .in_ => .In | .nin => .NotIn | .is_ => .Is | .isn => .IsNot
/-- an operation on values that does g on data -/
def rD2 (K : PySem.W.Frag) (cl : Nat → Addr) (g : D → D → Option D) : R2 := fun x y H Q => ∃ S G ι dx dy d, RpH K cl S G ι H ∧ RdV K cl G H dx x ∧ RdV K cl G H dy y ∧ g dx dy = some d ∧
  ∀ v H' G' ι', RpH K cl S G' ι' H' → Ext G H ι G' H' ι' → Rep K cl G' d v → Q v H'
section
variable {X : Cx} {cl : Nat → Addr}
theorem small_iff {i : Int} (h : small i = true) : -(2 ^ 64) < i ∧ i < 2 ^ 64 := of_decide_eq_true h
theorem op_pow' {pins : List (Addr × Obj)} {s : Shared} {σ : L2.St} {H : Hp} {i j : Int} {v u : Value} {Q : VK} (I : Inv X pins σ H s) (rx : RelV (.int i) v) (ry : RelV (.int j) u) (h0 : 0 ≤ j) (h1 : (Builtin.Int.intBits i : Int) * j ≤ 2 ^ 27) (q : Q (.int (i ^ j.toNat)) H) :
    wpAny (model X.prog X.w) X.A (binaryOp .Pow v u) (EP X pins σ Q) X.xe s := by
  obtain ⟨t, rfl⟩ := rx
  obtain ⟨t', rfl⟩ := ry
  exact pow_int h0 h1 ⟨.int _, H, I.tok _, ⟨_, rfl⟩, q⟩
theorem opD_ok (o : Op) : OpR X (binaryOp o.py) (rD2 X.K cl (opD o)) := by
  intro pins s σ H x y v u Q I rx ry h
  obtain ⟨S, G, ι, dx, dy, d, rp, r1, r2, e, q⟩ := h
  have fin : ∀ v, Rep X.K cl G d v → Q v H := fun v hv => q v H G ι rp .refl hv
  have lay : ∀ p o, H p = none → Rep X.K cl (upd G p o) d (.ref p) → Q (.ref p) (upd H p o) := fun p o hp hv => q _ _ _ _ (rp.lay hp) (Ext.lay rp.gs hp) hv
  have keep : ∀ {p : Addr} {o : HO}, H p = none → Same G (upd G p o) := fun hp => (Ext.lay (ι := ι) rp.gs hp).g
  cases o with
  | add =>
    cases dx with
    | int i => cases dy with
      | int j => cases e; cases r1; cases r2; exact op_add pins s σ H _ _ v u Q I rx ry ⟨i, j, rfl, rfl, fin _ rfl⟩
      | _ => cases e
    | str i => cases dy with
      | str j =>
        cases r1; cases r2
        obtain ⟨hl, e2⟩ : (i.length + j.length ≤ line) ∧ D.str (i ++ j) = d := by
          unfold opD at e; simp only at e; split at e
          · cases e; exact ⟨by assumption, rfl⟩
          · cases e
        subst e2
        exact op_add_str pins s σ H _ _ v u Q I rx ry ⟨i, j, rfl, rfl, by rw [sline]; exact hl, fin _ rfl⟩
      | _ => cases e
    | lst xs => cases dy with
      | lst ys =>
        obtain ⟨hl, e2⟩ : (xs.length + ys.length ≤ line) ∧ D.lst (xs ++ ys) = d := by
          unfold opD at e; simp only at e; split at e
          · cases e; exact ⟨by assumption, rfl⟩
          · cases e
        subst e2
        obtain ⟨a, vs, rfl, ha, pa⟩ := r1
        obtain ⟨b, ws, rfl, hb, pb⟩ := r2
        refine op_cat pins s σ H _ _ v u Q I rx ry ⟨a, b, vs, ws, rfl, rfl, ha, hb, by rw [sline, ← pa.length, ← pb.length]; exact hl, fun p hp => lay p _ hp ⟨p, _, rfl, upd_same, ?_⟩⟩
        exact Reps.of (Paired.append (pa.up' (keep hp)).pair (pb.up' (keep hp)).pair)
      | _ => cases e
    | tup xs => cases dy with
      | tup ys =>
        obtain ⟨hl, e2⟩ : (xs.length + ys.length ≤ line) ∧ D.tup (xs ++ ys) = d := by
          unfold opD at e; simp only at e; split at e
          · cases e; exact ⟨by assumption, rfl⟩
          · cases e
        subst e2
        obtain ⟨a, vs, rfl, ha, pa⟩ := RepT.sq rp.gs r1
        obtain ⟨b, ws, rfl, hb, pb⟩ := RepT.sq rp.gs r2
        refine op_catA pins s σ H _ _ v u Q I rx ry ⟨a, b, vs, ws, rfl, rfl, ha, hb, by rw [sline, ← pa.length, ← pb.length]; exact hl, fun e0 => ?_, fun _ e0 => ?_, fun _ _ p hp => lay p _ hp ⟨p, _, rfl, .inl (.inl upd_same), ?_⟩⟩
        · have : xs = [] := List.length_eq_zero_iff.mp (by rw [pa.length, e0]; rfl)
          subst this
          exact fin _ r2
        · have : ys = [] := List.length_eq_zero_iff.mp (by rw [pb.length, e0]; rfl)
          subst this
          refine fin _ ?_
          rw [List.append_nil]
          exact r1
        · exact Reps.of (Paired.append (pa.up' (keep hp)).pair (pb.up' (keep hp)).pair)
      | _ => cases e
    | _ => cases e
  | sub =>
    cases dx with
    | int i => cases dy with
      | int j => cases e; cases r1; cases r2; exact op_sub pins s σ H _ _ v u Q I rx ry ⟨i, j, rfl, rfl, fin _ rfl⟩
      | _ => cases e
    | _ => cases e
  | mul =>
    cases dx with
    | int i => cases dy with
      | int j =>
        cases r1; cases r2
        obtain ⟨hl, e2⟩ : (small i = true ∨ small j = true) ∧ D.int (i * j) = d := by
          unfold opD at e; simp only at e; split at e
          · cases e; exact ⟨by assumption, rfl⟩
          · cases e
        subst e2
        exact op_mul pins s σ H _ _ v u Q I rx ry ⟨i, j, rfl, rfl, hl.imp small_iff small_iff, fin _ rfl⟩
      | _ => cases e
    | lst xs => cases dy with
      | int k =>
        cases r2
        obtain ⟨⟨h1, h2, h3⟩, e2⟩ : (0 ≤ k ∧ k < 2 ^ 20 ∧ xs.length * k.toNat ≤ line) ∧ D.lst (List.replicate k.toNat xs).flatten = d := by
          unfold opD at e; simp only at e; split at e
          · cases e; exact ⟨by assumption, rfl⟩
          · cases e
        subst e2
        obtain ⟨a, vs, rfl, ha, pa⟩ := r1
        refine op_rep pins s σ H _ _ v u Q I rx ry ⟨a, k, vs, rfl, rfl, ha, by omega, by omega, by rw [sline, ← pa.length]; exact h3, fun p hp => lay p _ hp ⟨p, _, rfl, upd_same, ?_⟩⟩
        exact Reps.of (Paired.rep (pa.up' (keep hp)).pair _)
      | _ => cases e
    | tup xs => cases dy with
      | int k =>
        cases r2
        obtain ⟨⟨h1, h2, h3, h4⟩, e2⟩ : (2 ≤ k ∧ k ≤ 1000 ∧ xs.isEmpty = false ∧ xs.length ≤ 1000) ∧ D.tup (List.replicate k.toNat xs).flatten = d := by
          unfold opD at e; simp only at e; split at e
          · cases e; exact ⟨by assumption, rfl⟩
          · cases e
        subst e2
        obtain ⟨a, vs, rfl, ha, pa⟩ := RepT.sq rp.gs r1
        have hne : vs ≠ [] := fun e0 => by
          have : xs = [] := List.length_eq_zero_iff.mp (by rw [pa.length, e0]; rfl)
          subst this
          cases h3
        refine op_repT pins s σ H _ _ v u Q I rx ry ⟨a, k, vs, rfl, rfl, ha, hne, h1, h2, by rw [← pa.length]; exact h4, fun p hp => lay p _ hp ⟨p, _, rfl, .inl (.inl upd_same), ?_⟩⟩
        exact Reps.of (Paired.rep (pa.up' (keep hp)).pair _)
      | _ => cases e
    | _ => cases e
  | fdiv =>
    cases dx with
    | int i => cases dy with
      | int j =>
        cases r1; cases r2
        obtain ⟨hl, e2⟩ : (0 < j ∧ j < 1073741824) ∧ D.int (i / j) = d := by
          unfold opD at e; simp only at e; split at e
          · cases e; exact ⟨by assumption, rfl⟩
          · cases e
        subst e2
        exact op_fdiv pins s σ H _ _ v u Q I rx ry ⟨i, j, rfl, rfl, hl, fin _ rfl⟩
      | _ => cases e
    | _ => cases e
  | mod =>
    cases dx with
    | int i => cases dy with
      | int j =>
        cases r1; cases r2
        obtain ⟨hl, e2⟩ : (0 < j) ∧ D.int (i % j) = d := by
          unfold opD at e; simp only at e; split at e
          · cases e; exact ⟨by assumption, rfl⟩
          · cases e
        subst e2
        exact op_mod pins s σ H _ _ v u Q I rx ry ⟨i, j, rfl, rfl, hl, fin _ rfl⟩
      | _ => cases e
    | _ => cases e
  | pow =>
    cases dx with
    | int i => cases dy with
      | int j =>
        cases r1; cases r2
        obtain ⟨hl, e2⟩ : (0 ≤ j ∧ (Builtin.Int.intBits i : Int) * j ≤ 2 ^ 27) ∧ D.int (i ^ j.toNat) = d := by
          unfold opD at e; simp only at e; split at e
          · cases e; exact ⟨by assumption, rfl⟩
          · cases e
        subst e2
        exact op_pow' I rx ry hl.1 hl.2 (fin _ rfl)
      | _ => cases e
    | _ => cases e
end

/-! ### comparisons -/
def rB2 (K : PySem.W.Frag) (cl : Nat → Addr) (g : D → D → Option Bool) : R2 := fun x y H Q => ∃ S G ι dx dy b, RpH K cl S G ι H ∧ RdV K cl G H dx x ∧ RdV K cl G H dy y ∧ g dx dy = some b ∧ Q (.bl b) H
theorem keyRep.kV {d : D} {k : Key} (h : keyRep d k) : ∀ {K : PySem.W.Frag} {cl : Nat → Addr} {G : Hp} {v : V}, Rep K cl G d v → v = kV k := by
  intro K cl G v hv
  cases d <;> first | (cases h; cases hv; rfl) | cases h
section
variable {K : PySem.W.Frag} {cl : Nat → Addr} {G G' H H' : Hp} {ι ι' : List Addr} {S S' : Sto}
theorem eqK_of {k k' : D} {κ κ' : Key} (h : keyRep k κ) (h' : keyRep k' κ') : eqK k k' = decide (κ' = κ) := by
  cases k <;> first
    | (cases h; cases k' <;> first
      | (cases h'; simp [eqK])
      | cases h')
    | cases h
theorem RepK.look {k : D} {κ : Key} (hk : keyRep k κ) : ∀ {kvs : List (D × D)} {ks : List (Key × V)}, RepK K cl G kvs ks → (lookD k kvs = none ∧ valV ks κ = none) ∨ ∃ d v, lookD k kvs = some d ∧ valV ks κ = some v ∧ Rep K cl G d v
  | [], _, h => by cases (show _ = [] from h); exact .inl ⟨rfl, rfl⟩
  | (k', d) :: r, _, h => by
    obtain ⟨κ', v, s, h1, h2, h3, h4⟩ := h
    subst h1
    have e := eqK_of hk h2
    by_cases hc : κ' = κ
    · rw [decide_eq_true hc] at e
      exact .inr ⟨d, v, by simp [lookD, e], valV_pos hc, h3⟩
    · rw [decide_eq_false hc] at e
      rw [valV_neg (p := (κ', v)) hc]
      have e2 : lookD k ((k', d) :: r) = lookD k r := by simp [lookD, e]
      rw [e2]
      exact RepK.look hk h4
theorem RepK.has {k : D} {κ : Key} (hk : keyRep k κ) : ∀ {kvs : List (D × D)} {ks : List (Key × V)}, RepK K cl G kvs ks → hasD k kvs = (valV ks κ).isSome
  | [], _, h => by cases (show _ = [] from h); rfl
  | (k', d) :: r, _, h => by
    obtain ⟨κ', v, s, h1, h2, h3, h4⟩ := h
    subst h1
    have e := eqK_of hk h2
    by_cases hc : κ' = κ
    · rw [decide_eq_true hc] at e
      rw [valV_pos (p := (κ', v)) hc]
      simp [hasD, e]
    · rw [decide_eq_false hc] at e
      rw [valV_neg (p := (κ', v)) hc, ← RepK.has hk h4]
      simp [hasD, e]
theorem RepK.length : ∀ {kvs : List (D × D)} {ks : List (Key × V)}, RepK K cl G kvs ks → kvs.length = ks.length
  | [], _, h => by cases (show _ = [] from h); rfl
  | (k', d) :: r, _, h => by
    obtain ⟨κ', v, s, h1, h2, h3, h4⟩ := h
    subst h1
    simp [RepK.length h4]
theorem RepK.app : ∀ {kvs : List (D × D)} {ks : List (Key × V)}, RepK K cl G kvs ks → ∀ {k d : D} {κ : Key} {v : V}, keyRep k κ → Rep K cl G d v → RepK K cl G (kvs ++ [(k, d)]) (ks ++ [(κ, v)])
  | [], _, h, k, d, κ, v, hk, hd => by cases (show _ = [] from h); exact ⟨κ, v, [], rfl, hk, hd, rfl⟩
  | (k', d') :: r, _, h, k, d, κ, v, hk, hd => by
    obtain ⟨κ', v', s, h1, h2, h3, h4⟩ := h
    subst h1
    exact ⟨κ', v', _, rfl, h2, h3, RepK.app h4 hk hd⟩
theorem RepK.mp {k d : D} {κ : Key} {v : V} (hk : keyRep k κ) (hd : Rep K cl G d v) : ∀ {kvs : List (D × D)} {ks : List (Key × V)}, RepK K cl G kvs ks →
    RepK K cl G (kvs.map fun q => if eqK k q.1 = true then (q.1, d) else q) (ks.map fun q => if q.1 = κ then (q.1, v) else q)
  | [], _, h => by cases (show _ = [] from h); rfl
  | (k', d') :: r, _, h => by
    obtain ⟨κ', v', s, h1, h2, h3, h4⟩ := h
    subst h1
    have e := eqK_of hk h2
    by_cases hc : κ' = κ
    · rw [decide_eq_true hc] at e
      rw [List.map_cons, List.map_cons]
      simp only [e, if_true]
      refine ⟨κ', v, _, by simp only [if_pos hc]; rfl, h2, hd, ?_⟩
      exact RepK.mp hk hd h4
    · rw [decide_eq_false hc] at e
      rw [List.map_cons, List.map_cons]
      simp only [e, Bool.false_eq_true, if_false]
      refine ⟨κ', v', _, by simp only [if_neg hc]; rfl, h2, h3, ?_⟩
      exact RepK.mp hk hd h4
theorem RepK.put {k d : D} {κ : Key} {v : V} (hk : keyRep k κ) (hd : Rep K cl G d v) {kvs : List (D × D)} {ks : List (Key × V)} (h : RepK K cl G kvs ks) : RepK K cl G (putD k d kvs) (putK ks κ v) := by
  unfold putD putK
  rw [valV_any, RepK.has hk h]
  cases hq : (valV ks κ).isSome with
  | true => rw [if_pos rfl, if_pos rfl]; exact RepK.mp hk hd h
  | false => rw [if_neg (by simp), if_neg (by simp)]; exact RepK.app h hk hd
theorem keyRep.of {d : D} (h : keyD d = true) : ∃ κ, keyRep d κ := by
  cases d <;> first | exact ⟨_, rfl⟩ | cases h
end
section
variable {X : Cx} {cl : Nat → Addr}
theorem bl_of {X : Cx} {pins : List (Addr × Obj)} {σ : L2.St} {H : Hp} {s : Shared} {Q : VK} {b c : Bool} (I : Inv X pins σ H s) (q : Q (.bl b) H) (e : c = b) : EP X pins σ Q (.bool c) s := ⟨.bl b, H, I, by rw [e]; rfl, q⟩
theorem eqD_of {K : PySem.W.Frag} {G H : Hp} {x y : D} {v w : V} {b : Bool} (gs : Same G H) (h1 : RdV K cl G H x v) (h2 : RdV K cl G H y w) (e : eqD x y = some b) : ∃ p q, Dp K H v p ∧ Dp K H w q ∧ SeqAt.shaped p = true ∧ SeqAt.shaped q = true ∧ PyData.eqv p q = b := by
  unfold eqD at e
  cases e1 : x.py with
  | none => rw [e1] at e; cases e
  | some p =>
    cases e2 : y.py with
    | none => rw [e1, e2] at e; cases e
    | some q =>
      rw [e1, e2] at e
      simp only at e
      split at e
      · rename_i hh
        exact ⟨p, q, h1.dp gs e1, h2.dp gs e2, hh.1, hh.2, Option.some.inj e⟩
      · cases e
theorem inD_of {K : PySem.W.Frag} {G H : Hp} {x : D} {ys : List D} {v : V} {ws : List V} {b : Bool} (gs : Same G H) (h1 : RdV K cl G H x v) (h2 : Reps K cl G ys ws) (e : inD x ys = some b) :
    ∃ p ps, Dp K H v p ∧ DpAll K H ws ps ∧ SeqAt.shaped p = true ∧ SeqAt.shaped (.list ps) = true ∧ (ps.any fun z => PyData.eqv z p) = b := by
  unfold inD at e
  cases e1 : x.py with
  | none => rw [e1] at e; cases e
  | some p =>
    cases e2 : pys ys with
    | none => rw [e1, e2] at e; cases e
    | some q =>
      rw [e1, e2] at e
      simp only at e
      split at e
      · rename_i hh
        exact ⟨p, q, h1.dp gs e1, Reps.dp gs ys ws q h2 e2, hh.1, hh.2, Option.some.inj e⟩
      · cases e
theorem shaped_tl {ps : List PyData} (h : SeqAt.shaped (.list ps) = true) : PyData.canLayAll0 ps = true := SeqAt.canLay_of_shaped h
theorem op_inT (hu : X.A.units + 65 < cLine) : OpR X (compareOp .In) (fun x y H Q => ∃ d ds, Dp X.K H x d ∧ Dp X.K H y (.tuple ds) ∧ SeqAt.shaped d = true ∧ SeqAt.shaped (.list ds) = true ∧ Q (.bl (ds.any fun z => PyData.eqv z d)) H) := by
  intro pins s σ H x y v u Q I rx ry h
  obtain ⟨d, ds, hd, he, sd, se, q⟩ := h
  obtain ⟨as, r1⟩ := Dp.reads I d x v hd rx
  obtain ⟨bs, r2⟩ := Dp.reads I (.tuple ds) y u he ry
  exact SeqAt.in_tuple_reads r2 r1 (SeqAt.canLay_of_shaped se) (SeqAt.canLay_of_shaped sd) (room_in_shaped sd hu) ⟨.bl _, H, I, rfl, q⟩
theorem op_notInT (hu : X.A.units + 65 < cLine) : OpR X (compareOp .NotIn) (fun x y H Q => ∃ d ds, Dp X.K H x d ∧ Dp X.K H y (.tuple ds) ∧ SeqAt.shaped d = true ∧ SeqAt.shaped (.list ds) = true ∧ Q (.bl (!ds.any fun z => PyData.eqv z d)) H) := by
  intro pins s σ H x y v u Q I rx ry h
  obtain ⟨d, ds, hd, he, sd, se, q⟩ := h
  obtain ⟨as, r1⟩ := Dp.reads I d x v hd rx
  obtain ⟨bs, r2⟩ := Dp.reads I (.tuple ds) y u he ry
  exact SeqAt.notIn_tuple_reads r2 r1 (SeqAt.canLay_of_shaped se) (SeqAt.canLay_of_shaped sd) (room_in_shaped sd hu) ⟨.bl _, H, I, rfl, q⟩
theorem dget_of {K : PySem.W.Frag} {G H : Hp} {x : D} {v : V} {a : Addr} {k : List (D × D)} {ks : List (Key × V)} (hx : keyD x = true) (hv : RdV K cl G H x v) (ha : H a = some (.dK ks)) (hk : RepK K cl G k ks) :
    ∃ o, DGet H a v o ∧ hasD x k = o.isSome ∧ ((lookD x k = none ∧ o = none) ∨ ∃ d w, lookD x k = some d ∧ o = some w ∧ Rep K cl G d w) := by
  obtain ⟨κ, hκ⟩ := keyRep.of hx
  have hv' : v = kV κ := by
    cases x <;> first | (cases hκ; cases hv; rfl) | cases hx
  subst hv'
  refine ⟨valV ks κ, DGet.k ha, RepK.has hκ hk, ?_⟩
  rcases RepK.look hκ hk with ⟨h1, h2⟩ | ⟨d, w, h1, h2, h3⟩
  · exact .inl ⟨h1, h2⟩
  · exact .inr ⟨d, w, h1, h2, h3⟩
theorem ne_cases {dx dy : D} {b : Bool} (e : cmpD .ne dx dy = some b) : (∃ k l, dx = .dct k ∧ dy = .dct l ∧ sameF k l = true ∧ b = false) ∨ (eqD dx dy).map (!·) = some b := by
  cases dx <;> cases dy <;> first
    | exact .inr e
    | (rename_i k l
       have e : (if sameF k l = true then some false else none) = some b := e
       split at e
       · cases e; exact .inl ⟨k, l, rfl, rfl, by assumption, rfl⟩
       · cases e)
theorem eqK_same {k d : D} (h : eqK k d = true) : d = k := by
  unfold eqK at h
  split at h
  · rw [of_decide_eq_true h]
  · rw [of_decide_eq_true h]
  · cases h
theorem sameF_ok {K : PySem.W.Frag} {G : Hp} {l : List (D × D)} {ls : List (Key × V)} (hl : RepK K cl G l ls) : ∀ {k : List (D × D)} {ks : List (Key × V)}, RepK K cl G k ks →
    (k.all fun p => keyD p.1 && (match lookD p.1 l with | some d => keyD d && eqK p.2 d | none => false)) = true → ∀ p ∈ ks, valV ls p.1 = some p.2 ∧ flatB p.2 = true
  | [], _, h, _ => by cases (show _ = [] from h); intro p hp; cases hp
  | (k', d) :: r, _, h, e => by
    obtain ⟨κ, v, s, rfl, h2, h3, h4⟩ := h
    rw [List.all_cons] at e
    obtain ⟨e1, e2⟩ := Bool.and_eq_true_iff.mp e
    obtain ⟨e3, e4⟩ := Bool.and_eq_true_iff.mp e1
    intro p hp
    rcases List.mem_cons.mp hp with rfl | hp
    · rcases RepK.look h2 hl with ⟨q1, _⟩ | ⟨d', w, q1, q2, q3⟩
      · simp only [q1] at e4; cases e4
      · simp only [q1] at e4
        obtain ⟨e5, e6⟩ := Bool.and_eq_true_iff.mp e4
        have := eqK_same e6
        subst this
        cases d' with
        | int i => cases h3; cases q3; exact ⟨q2, rfl⟩
        | str i => cases h3; cases q3; exact ⟨q2, rfl⟩
        | _ => cases e5
    · exact sameF_ok hl h4 e2 p hp
theorem RepK.len {K : PySem.W.Frag} {G : Hp} : ∀ {k : List (D × D)} {ks : List (Key × V)}, RepK K cl G k ks → k.length = ks.length
  | [], _, h => by cases (show _ = [] from h); rfl
  | (k', d) :: r, _, h => by
    obtain ⟨κ, v, s, rfl, h2, h3, h4⟩ := h
    rw [List.length_cons, List.length_cons, RepK.len h4]
theorem cmpD_ok (hu : X.A.units + 65 < cLine) (o : Cm) : OpR X (compareOp o.py) (rB2 X.K cl (cmpD o)) := by
  have hu' : X.A.units + 64 < cLine := by omega
  have hu1 : X.A.units + 1 < cLine := by omega
  intro pins s σ H x y v u Q I rx ry h
  obtain ⟨S, G, ι, dx, dy, b, rp, r1, r2, e, q⟩ := h
  cases o with
  | eq =>
    obtain ⟨p, p', h1, h2, h3, h4, h5⟩ := eqD_of rp.gs r1 r2 e
    exact op_eqD hu' pins s σ H x y v u Q I rx ry ⟨p, p', h1, h2, h3, h4, by rw [h5]; exact q⟩
  | ne =>
    rcases ne_cases e with ⟨k, l, rfl, rfl, hsame, rfl⟩ | e
    · obtain ⟨a, ks, rfl, ha, hk⟩ := r1
      obtain ⟨a', ls, rfl, hb, hl⟩ := r2
      unfold sameF at hsame
      obtain ⟨z1, z2⟩ := Bool.and_eq_true_iff.mp hsame
      have z1 := of_decide_eq_true z1
      exact op_ne_dictA (by omega) pins s σ H _ _ v u Q I rx ry ⟨a, a', ks, ls, rfl, rfl, ha, hb, by rw [← RepK.len hk, ← RepK.len hl]; exact z1, sameF_ok hl hk z2, q⟩
    obtain ⟨c, e1, e2⟩ := Option.map_eq_some_iff.mp e
    obtain ⟨p, p', h1, h2, h3, h4, h5⟩ := eqD_of rp.gs r1 r2 e1
    exact op_neD hu' pins s σ H x y v u Q I rx ry ⟨p, p', h1, h2, h3, h4, by rw [h5, e2]; exact q⟩
  | lt =>
    cases dx <;> cases dy <;> first
      | (cases e; cases r1; cases r2; exact op_lt pins s σ H _ _ v u Q I rx ry ⟨_, _, rfl, rfl, q⟩)
      | (cases e; cases r1; cases r2; exact op_lt_str pins s σ H _ _ v u Q I rx ry ⟨_, _, rfl, rfl, q⟩)
      | cases e
  | le =>
    cases dx <;> cases dy <;> first
      | (cases e; cases r1; cases r2; exact op_le pins s σ H _ _ v u Q I rx ry ⟨_, _, rfl, rfl, q⟩)
      | cases e
  | gt =>
    cases dx <;> cases dy <;> first
      | (cases e; cases r1; cases r2; exact op_gt pins s σ H _ _ v u Q I rx ry ⟨_, _, rfl, rfl, q⟩)
      | cases e
  | ge =>
    cases dx <;> cases dy <;> first
      | (cases e; cases r1; cases r2; exact op_ge pins s σ H _ _ v u Q I rx ry ⟨_, _, rfl, rfl, q⟩)
      | cases e
  | in_ =>
    cases dy with
    | lst ys =>
      have e' : inD dx ys = some b := by cases dx <;> exact e
      obtain ⟨a, vs, rfl, ha, pa⟩ := r2
      obtain ⟨p, ps, h1, h2, h3, h4, h5⟩ := inD_of rp.gs r1 pa e'
      exact op_inD hu pins s σ H x _ v u Q I rx ry ⟨p, ps, h1, .lst (.inl (.inl ha)) h2, h3, h4, by rw [h5]; exact q⟩
    | tup ys =>
      have e' : inD dx ys = some b := by cases dx <;> exact e
      obtain ⟨a, vs, rfl, ha, pa⟩ := RepT.sq rp.gs r2
      obtain ⟨p, ps, h1, h2, h3, h4, h5⟩ := inD_of rp.gs r1 pa e'
      exact op_inT hu pins s σ H x _ v u Q I rx ry ⟨p, ps, h1, .tup ha h2, h3, h4, by rw [h5]; exact q⟩
    | str y => cases dx with
      | str z => cases e; cases r1; cases r2; exact op_in_str pins s σ H _ _ v u Q I rx ry ⟨_, _, rfl, rfl, q⟩
      | _ => cases e
    | dct k =>
      obtain ⟨hx, e'⟩ : keyD dx = true ∧ hasD dx k = b := by
        have e0 : (if keyD dx = true then some (hasD dx k) else none) = some b := by cases dx <;> exact e
        split at e0
        · exact ⟨by assumption, Option.some.inj e0⟩
        · cases e0
      obtain ⟨a, ks, rfl, ha, pa⟩ := r2
      obtain ⟨o, h1, h2, _⟩ := dget_of hx r1 ha pa
      cases ry
      exact d_in hu1 I h1 rx fun s' I' => ⟨.bl b, H, I', by rw [← h2, e']; rfl, q⟩
    | _ => cases dx <;> cases e
  | nin =>
    cases dy with
    | lst ys =>
      have e' : (inD dx ys).map (!·) = some b := by cases dx <;> exact e
      obtain ⟨c, e1, e2⟩ := Option.map_eq_some_iff.mp e'
      obtain ⟨a, vs, rfl, ha, pa⟩ := r2
      obtain ⟨p, ps, h1, h2, h3, h4, h5⟩ := inD_of rp.gs r1 pa e1
      exact op_notInD hu pins s σ H x _ v u Q I rx ry ⟨p, ps, h1, .lst (.inl (.inl ha)) h2, h3, h4, by rw [h5, e2]; exact q⟩
    | tup ys =>
      have e' : (inD dx ys).map (!·) = some b := by cases dx <;> exact e
      obtain ⟨c, e1, e2⟩ := Option.map_eq_some_iff.mp e'
      obtain ⟨a, vs, rfl, ha, pa⟩ := RepT.sq rp.gs r2
      obtain ⟨p, ps, h1, h2, h3, h4, h5⟩ := inD_of rp.gs r1 pa e1
      exact op_notInT hu pins s σ H x _ v u Q I rx ry ⟨p, ps, h1, .tup ha h2, h3, h4, by rw [h5, e2]; exact q⟩
    | str y => cases dx with
      | str z => cases e; cases r1; cases r2; exact L2.op_notIn_str pins s σ H _ _ v u Q I rx ry ⟨_, _, rfl, rfl, q⟩
      | _ => cases e
    | dct k =>
      obtain ⟨hx, e'⟩ : keyD dx = true ∧ (!hasD dx k) = b := by
        have e0 : (if keyD dx = true then some (!hasD dx k) else none) = some b := by cases dx <;> exact e
        split at e0
        · exact ⟨by assumption, Option.some.inj e0⟩
        · cases e0
      obtain ⟨a, ks, rfl, ha, pa⟩ := r2
      obtain ⟨o, h1, h2, _⟩ := dget_of hx r1 ha pa
      cases ry
      exact d_notIn hu1 I h1 rx fun s' I' => ⟨.bl b, H, I', by rw [← h2, e']; rfl, q⟩
    | _ => cases dx <;> cases e
  | is_ =>
    cases dy with
    | bl c => cases dx <;> first
      | (cases e; cases r1; cases r2; exact op_is_bl pins s σ H _ _ v u Q I rx ry ⟨_, _, rfl, rfl, q⟩)
      | cases e
    | non =>
      cases r2
      have hb : b = decide (x = .non) := by
        cases dx <;> first
          | (cases e; cases r1; rfl)
          | (cases e; obtain ⟨a, vs, rfl, _⟩ := r1; rfl)
          | cases e
      exact op_isN pins s σ H _ _ v u Q I rx ry ⟨rfl, by rw [← hb]; exact q⟩
    | _ => cases dx <;> cases e
  | isn =>
    cases dy with
    | bl c => cases dx <;> first
      | (cases e; cases r1; cases r2; exact op_isnot_bl pins s σ H _ _ v u Q I rx ry ⟨_, _, rfl, rfl, q⟩)
      | cases e
    | non =>
      cases r2
      have hb : b = !decide (x = .non) := by
        cases dx <;> first
          | (cases e; cases r1; rfl)
          | (cases e; obtain ⟨a, vs, rfl, _⟩ := r1; rfl)
          | cases e
      exact op_notN pins s σ H _ _ v u Q I rx ry ⟨rfl, by rw [← hb]; exact q⟩
    | _ => cases dx <;> cases e
end
end R
end
section
set_option linter.all false
set_option maxRecDepth 100000
set_option maxHeartbeats 4000000
/-! R4: expressions. -/
namespace R
open PySem PySem.Spec PyProof.Rows L2
abbrev SE (X : Cx) (cl : Nat → Addr) (e : Expr) (f : Env → Sto → Res SV) : Prop := PE X e (tX X.K cl (RSv X.K cl) f)
abbrev SN (X : Cx) (cl : Nat → Addr) (e : Expr) (f : Env → Sto → Res SV) : Prop := PE X e (tX X.K cl (RNw X.K cl) f)
abbrev SA (X : Cx) (cl : Nat → Addr) (es : List Expr) (f : Env → Sto → Res (List SV)) : Prop := PA X es (tX X.K cl (RLs X.K cl) f)
abbrev ST (X : Cx) (cl : Nat → Addr) (e : Expr) (f : Env → Sto → Res Bool) : Prop := PT X e (tX X.K cl RBl f)
abbrev SW (X : Cx) (cl : Nat → Addr) (e : Expr) (f : Env → Sto → Res Bool) : Prop := PW X e (tX X.K cl RBl f)
section
variable {X : Cx} {cl : Nat → Addr} {e a b c : Expr} {es : List Expr} {pos : Pos} {fa fb fc : Env → Sto → Res SV} {ft fu : Env → Sto → Res Bool} {fs : Env → Sto → Res (List SV)}
theorem pe_by {t t' : TE} (h : PE X e t') (k : ∀ σ H Q, t σ H Q → t' σ H Q) : PE X e t := ⟨fun pins s σ H Q I hq => h.run pins s σ H Q I (k _ _ _ hq)⟩
theorem pt_by {t t' : TT} (h : PT X e t') (k : ∀ σ H Q, t σ H Q → t' σ H Q) : PT X e t := ⟨fun pins s σ H Q I hq => h.run pins s σ H Q I (k _ _ _ hq)⟩
theorem pw_by {t t' : TT} (h : PW X e t') (k : ∀ σ H Q, t σ H Q → t' σ H Q) : PW X e t := ⟨fun w pins s σ H Q I hq => h.run w pins s σ H Q I (k _ _ _ hq)⟩
theorem pa_by {t t' : TA} (h : PA X es t') (k : ∀ σ H Q, t σ H Q → t' σ H Q) : PA X es t := ⟨fun p pins s σ H Q I hq => h.run p pins s σ H Q I (k _ _ _ hq)⟩
theorem env_get {env : Env} {i : Nat} {sv : SV} (h : env.get i = some sv) : env[i]? = some (some sv) := by
  unfold Env.get at h
  cases q : env[i]? with
  | none => rw [q] at h; cases h
  | some o => rw [q] at h; cases o with
    | none => cases h
    | some z => cases h; rfl
theorem post_ofO {α β γ : Type} {K : PySem.W.Frag} {Z : RelA γ β} {G H : Hp} {ι : List Addr} {Q : β → Hp → Prop} {o : Option α} {S : Sto} {f : α → Sto → Res γ} (h : Post K cl Z G ι H Q ((ofO o S).bind f)) : ∃ x, o = some x ∧ Post K cl Z G ι H Q (f x S) := by
  cases o with
  | none => exact h.elim
  | some x => exact ⟨x, rfl, h⟩
/-! names, constants -/
theorem se_var {C : CallF} {i : Nat} {x : Str} {pos : Pos} (hN : X.N[i]? = some x) (hv : Vis X.env.scope x) (hd : (x == ("__debug__" : Str)) = false) (hcd : (x == ("__classdict__" : Str)) = false) : SE X cl (.Name x pos) (evalE C (.var i)) := by
  refine pe_by (pe_var hN hv hd hcd) fun σ H Q h => ?_
  obtain ⟨env, S, G, ι, rp, re, po⟩ := h
  cases q : env.get i with
  | none => unfold evalE at po; rw [q] at po; exact po.elim
  | some sv =>
    unfold evalE at po
    rw [q] at po
    obtain ⟨v, h1, h2⟩ := re.at_ i sv (env_get q)
    exact ⟨v, h1, po v H G ι rp .refl h2⟩
theorem se_frz {C : CallF} {i : Nat} {x : Str} {pos : Pos} (hN : X.N[i]? = some x) (hv : Vis X.env.scope x) (hd : (x == ("__debug__" : Str)) = false) (hcd : (x == ("__classdict__" : Str)) = false) : SE X cl (.Name x pos) (evalE C (.frz i)) := by
  refine pe_by (pe_var hN hv hd hcd) fun σ H Q h => ?_
  obtain ⟨env, S, G, ι, rp, re, po⟩ := h
  unfold evalE at po
  obtain ⟨sv, q, po⟩ := post_ofO po
  obtain ⟨v, h1, h2⟩ := re.at_ i sv (env_get q)
  refine ⟨v, h1, ?_⟩
  cases sv with
  | p d => exact po v H G ι rp .refl h2
  | l n =>
    obtain ⟨a, ha, rfl⟩ := h2
    unfold frzS at po
    cases qn : S[n]? with
    | none => simp only [qn] at po; exact po.elim
    | some c =>
      have z := rp.cel n a c ha qn
      cases c with
      | lst xs =>
        simp only [qn] at po
        obtain ⟨z0, vs, z1, z2⟩ := z
        have hd : Rep X.K cl (upd G a (.lst vs)) (.lst xs) (.ref a) := ⟨a, vs, rfl, upd_same, Reps.up' z2 (same_upd z0)⟩
        obtain ⟨k1, k2⟩ := RpH.kill hd rp ha z1 z0
        exact po _ H _ ι k1 k2 hd
      | dct k =>
        simp only [qn] at po
        obtain ⟨z0, vs, z1, z2⟩ := z
        have hd : Rep X.K cl (upd G a (.dK vs)) (.dct k) (.ref a) := ⟨a, vs, rfl, upd_same, RepK.up (same_upd z0) _ _ z2⟩
        obtain ⟨k1, k2⟩ := RpH.kill hd rp ha z1 z0
        exact po _ H _ ι k1 k2 hd
      | obj c fs => simp only [qn] at po; exact po.elim
      | own _ _ _ => simp only [qn] at po; exact po.elim
      | fro d => simp only [qn] at po; exact po _ H G ι rp .refl z
      | dead => simp only [qn] at po; exact po.elim
theorem se_const {C : CallF} {v : V} {d : D} (h : PE X e (tC v)) (hr : ∀ G, Rep X.K cl G d v) : SE X cl e (evalE C (.cn d)) := by
  refine pe_by h fun σ H Q h => ?_
  obtain ⟨env, S, G, ι, rp, re, po⟩ := h
  rw [evalE] at po
  exact po v H G ι rp .refl (hr G)
theorem se_glob {C : CallF} {v : V} {d : D} (h : PE X e (tC v)) (hr : ∀ G, Rep X.K cl G d v) : SE X cl e (evalE C (.gl d)) := by
  refine pe_by h fun σ H Q h => ?_
  obtain ⟨env, S, G, ι, rp, re, po⟩ := h
  rw [evalE] at po
  exact po v H G ι rp .refl (hr G)
/-! two computations behind one another -/
theorem se_two {r : R2} {t : Env → Sto → Res SV} {g : SV → SV → Sto → Res SV} (h : PE X e (tOp r (tX X.K cl (RSv X.K cl) fa) (tX X.K cl (RSv X.K cl) fb)))
    (ht : ∀ env S, t env S = (fa env S).bind fun x S => (fb env S).bind fun y S => g x y S)
    (k : ∀ S G ι H x y v w Q, RpH X.K cl S G ι H → RepS X.K cl G ι x v → RepS X.K cl G ι y w → Post X.K cl (RSv X.K cl) G ι H Q (g x y S) → r v w H Q) : SE X cl e t := by
  refine pe_by h fun σ H Q h => ?_
  obtain ⟨env, S, G, ι, rp, re, po⟩ := h
  rw [ht] at po
  refine ⟨env, S, G, ι, rp, re, ?_⟩
  refine Post.seq po fun x S1 v H1 G1 ι1 e1 rp1 ex1 r1 po1 => ?_
  refine ⟨env, S1, G1, ι1, rp1, re.up ex1, ?_⟩
  have po1' := Post.up po1 ex1 (fun _ _ _ _ _ h => h)
  refine Post.seq po1' fun y S2 w H2 G2 ι2 e2 rp2 ex2 r2 po2 => ?_
  exact k S2 G2 ι2 H2 x y v w Q rp2 (RepS.up r1 ex2) r2 (Post.up po2 ex2 (fun _ _ _ _ _ h => h))
theorem post_opS {K : PySem.W.Frag} {G H : Hp} {ι : List Addr} {S : Sto} {o : Op} {x y : SV} {v w : V} {Q : VK} (rp : RpH K cl S G ι H) (rx : RepS K cl G ι x v) (ry : RepS K cl G ι y w) (po : Post K cl (RSv K cl) G ι H Q (opS o x y S)) : rD2 K cl (opD o) v w H Q := by
  unfold opS at po
  cases qx : rd S x with
  | none => simp only [qx] at po; exact po.elim
  | some a =>
    cases qy : rd S y with
    | none => simp only [qx, qy] at po; exact po.elim
    | some b =>
      simp only [qx, qy] at po
      obtain ⟨d, qd, po⟩ := post_ofO po
      exact ⟨S, G, ι, a, b, d, rp, rd_rep rp rx qx, rd_rep rp ry qy, qd, fun v' H' G' ι' rp' ex' r' => po v' H' G' ι' rp' ex' r'⟩
theorem post_cmpS {K : PySem.W.Frag} {G H : Hp} {ι : List Addr} {S : Sto} {o : Cm} {x y : SV} {v w : V} {Q : VK} (rp : RpH K cl S G ι H) (rx : RepS K cl G ι x v) (ry : RepS K cl G ι y w) (po : Post K cl (RSv K cl) G ι H Q (cmpS o x y S)) : rB2 K cl (cmpD o) v w H Q := by
  unfold cmpS at po
  cases qx : rd S x with
  | none => simp only [qx] at po; exact po.elim
  | some a =>
    cases qy : rd S y with
    | none => simp only [qx, qy] at po; exact po.elim
    | some b =>
      simp only [qx, qy] at po
      obtain ⟨d, qd, po⟩ := post_ofO po
      exact ⟨S, G, ι, a, b, d, rp, rd_rep rp rx qx, rd_rep rp ry qy, qd, po _ H G ι rp .refl rfl⟩
theorem se_op {C : CallF} {ra rb : RE} {o : Op} (ha : SE X cl a (evalE C ra)) (hb : SE X cl b (evalE C rb)) : SE X cl (.BinOp a o.py b pos) (evalE C (.op o ra rb)) :=
  se_two (pe_op (opD_ok (cl := cl) o) ha hb) (fun env S => by rw [evalE]) fun S G ι H x y v w Q rp rx ry po => post_opS rp rx ry po
theorem nomark2 {op : CmpOp} {b : Expr} (h : (match b with | .Set _ _ _ => false | _ => true) = true) : behindInMarks op b = false := by
  cases b <;> first | rfl | cases h
def noSet : Expr → Bool
  | .Set _ _ _ => false
  | _ => true
theorem nomark3 {op : CmpOp} {b : Expr} (h : noSet b = true) : behindInMarks op b = false := by
  cases b <;> first | rfl | cases h
theorem se_cmp {C : CallF} {ra rb : RE} {o : Cm} {k : Nat} (hr : Room k X.A) (hs : noSet b = true) (ha : SE X cl a (evalE C ra)) (hb : SE X cl b (evalE C rb)) : SE X cl (.Compare a [o.py] [b] pos) (evalE C (.cmp o ra rb)) :=
  se_two (pe_cmpR (cmpD_ok (cl := cl) (by have := hr.un; omega) o) ha hb (nomark3 hs)) (fun env S => by rw [evalE]) fun S G ι H x y v w Q rp rx ry po => post_cmpS rp rx ry po
theorem se_neg {C : CallF} {ra : RE} (ha : SE X cl a (evalE C ra)) : SE X cl (.UnaryOp .USub a pos) (evalE C (.neg ra)) := by
  refine pe_by (pe_un un_neg ha) fun σ H Q h => ?_
  obtain ⟨env, S, G, ι, rp, re, po⟩ := h
  rw [evalE] at po
  refine ⟨env, S, G, ι, rp, re, ?_⟩
  refine Post.seq po fun x S1 v H1 G1 ι1 e1 rp1 ex1 r1 po1 => ?_
  cases x with
  | p d => cases d with
    | int i => cases r1; exact ⟨i, rfl, (Post.up po1 ex1 (fun _ _ _ _ _ h => h)) _ H1 G1 ι1 rp1 .refl rfl⟩
    | _ => exact po1.elim
  | l n => exact po1.elim
/-! tests -/
theorem tru_of {K : PySem.W.Frag} {G H : Hp} {d : D} {v : V} {b : Bool} (gs : Same G H) (h : RdV K cl G H d v) (e : truD d = some b) : TruV K v H b := by
  cases d with
  | non => cases e; cases h; rfl
  | bl c => cases e; cases h; rfl
  | int i => cases e; cases h; rfl
  | str x =>
    cases h
    have e0 : (if x.length ≤ line then some (x.length != 0) else none) = some b := e
    split at e0
    · cases e0
      refine ⟨by rw [sline]; assumption, ?_⟩
      rw [Bool.eq_iff_iff]
      simp
    · cases e0
  | lst xs =>
    cases e
    obtain ⟨a, vs, rfl, ha, pa⟩ := h
    refine .inl ⟨vs, .inl (.inl ha), ?_⟩
    have := pa.length
    cases xs <;> cases vs <;> simp_all
  | tup xs =>
    cases e
    obtain ⟨a, vs, rfl, ha, pa⟩ := h
    refine .inr (.inl ⟨vs, SqT.up ha gs, ?_⟩)
    have := pa.length
    cases xs <;> cases vs <;> simp_all
  | _ => cases e
def plainT : Expr → Bool
  | .UnaryOp .Not _ _ => false
  | .BoolOp _ _ _ => false
  | .IfExp _ _ _ _ => false
  | .Compare _ _ _ _ => false
  | _ => true
theorem isTrue_of {env : PySem.Env} (h : plainT e = true) (whole : Sem Value) : isTrue e env whole = (do let v ← whole; standAt e.pos; holding [v] (truthy v)) := by
  cases e with
  | UnaryOp o x p => cases o <;> first | rfl | cases h
  | BoolOp _ _ _ => cases h
  | IfExp _ _ _ _ => cases h
  | Compare _ _ _ _ => cases h
  | _ => rfl
theorem st_truth {C : CallF} {r : RE} (hp : plainT e = true) (hr : ∀ env S, evalT C r env S = (evalE C r env S).bind fun v S => match rd S v with | some d => ofO (truD d) S | none => .bad) (h : SE X cl e (evalE C r)) : ST X cl e (evalT C r) := by
  refine pt_by (pt_truth h (isTrue_of hp)) fun σ H Q h => ?_
  obtain ⟨env, S, G, ι, rp, re, po⟩ := h
  rw [hr] at po
  refine ⟨env, S, G, ι, rp, re, ?_⟩
  refine Post.seq po fun x S1 v H1 G1 ι1 e1 rp1 ex1 r1 po1 => ?_
  cases qx : rd S1 x with
  | none => simp only [qx] at po1; exact po1.elim
  | some d =>
    simp only [qx] at po1
    cases qd : truD d with
    | none => rw [qd] at po1; exact po1.elim
    | some b =>
      rw [qd] at po1
      exact ⟨b, tru_of rp1.gs (rd_rep rp1 r1 qx) qd, (Post.up po1 ex1 (fun _ _ _ _ _ h => h)) b H1 G1 ι1 rp1 .refl rfl⟩
theorem st_cmp {C : CallF} {ra rb : RE} {o : Cm} {k : Nat} (hr : Room k X.A) (hs : noSet b = true) (ha : SE X cl a (evalE C ra)) (hb : SE X cl b (evalE C rb)) : ST X cl (.Compare a [o.py] [b] pos) (evalT C (.cmp o ra rb)) := by
  refine pt_by (pt_cmpR (cmpD_ok (cl := cl) (by have := hr.un; omega) o) ha hb (nomark3 hs)) fun σ H Q h => ?_
  obtain ⟨env, S, G, ι, rp, re, po⟩ := h
  rw [evalT, evalE] at po
  · refine ⟨env, S, G, ι, rp, re, ?_⟩
    cases qa : evalE C ra env S with
    | exc _ _ _ => rw [qa] at po; exact po.elim
    | bad => rw [qa] at po; exact po.elim
    | ok x S1 =>
    rw [qa] at po
    intro v H1 G1 ι1 rp1 ex1 r1
    refine ⟨env, S1, G1, ι1, rp1, re.up ex1, ?_⟩
    simp only [Res.bind_ok] at po
    cases qb : evalE C rb env S1 with
    | exc _ _ _ => rw [qb] at po; exact po.elim
    | bad => rw [qb] at po; exact po.elim
    | ok y S2 =>
    rw [qb] at po
    simp only [Res.bind_ok] at po
    intro w H2 G2 ι2 rp2 ex2 r2
    unfold cmpS at po
    cases qx : rd S2 x with
    | none => simp only [qx] at po; exact po.elim
    | some da =>
      cases qy : rd S2 y with
      | none => simp only [qx, qy] at po; exact po.elim
      | some db =>
        simp only [qx, qy] at po
        cases qd : cmpD o da db with
        | none => rw [qd] at po; exact po.elim
        | some d =>
          rw [qd] at po
          refine ⟨S2, G2, ι2, da, db, d, rp2, rd_rep rp2 (RepS.up r1 ex2) qx, rd_rep rp2 r2 qy, qd, d, rfl, ?_⟩
          have po' : Post X.K cl RBl G ι H Q (.ok d S2) := po
          exact po' d H2 G2 ι2 rp2 (ex1.trans ex2) rfl
  all_goals (intros; first | (rename_i q; cases q) | skip)
  all_goals (try (intro q; cases q))
theorem st_not {C : CallF} {r : RE} (h : ST X cl a (evalT C r)) : ST X cl (.UnaryOp .Not a pos) (evalT C (.not_ r)) := by
  refine pt_by (pt_not h) fun σ H Q h => ?_
  obtain ⟨env, S, G, ι, rp, re, po⟩ := h
  rw [evalT] at po
  refine ⟨env, S, G, ι, rp, re, ?_⟩
  exact Post.seq po fun x S1 v H1 G1 ι1 e1 rp1 ex1 r1 po1 => by
    have r1' : x = v := r1
    subst r1'
    exact po1 _ H1 G1 ι1 rp1 ex1 rfl
theorem sw_and {C : CallF} {ra rb : RE} {rest : List Expr} (ha : ST X cl a (evalT C ra)) (hb : SW X cl (.BoolOp .And (b :: rest) pos) (evalT C rb)) : SW X cl (.BoolOp .And (a :: b :: rest) pos) (evalT C (.and_ ra rb)) := by
  refine pw_by (pw_and ha hb) fun σ H Q h => ?_
  obtain ⟨env, S, G, ι, rp, re, po⟩ := h
  rw [evalT] at po
  refine ⟨env, S, G, ι, rp, re, ?_⟩
  refine Post.seq po fun x S1 v H1 G1 ι1 e1 rp1 ex1 r1 po1 => ?_
  have r1' : x = v := r1
  subst r1'
  cases x with
  | true => exact ⟨env, S1, G1, ι1, rp1, re.up ex1, Post.up po1 ex1 (fun _ _ _ _ _ h => h)⟩
  | false => exact po1 false H1 G1 ι1 rp1 ex1 rfl
theorem sw_or {C : CallF} {ra rb : RE} {rest : List Expr} (ha : ST X cl a (evalT C ra)) (hb : SW X cl (.BoolOp .Or (b :: rest) pos) (evalT C rb)) : SW X cl (.BoolOp .Or (a :: b :: rest) pos) (evalT C (.or_ ra rb)) := by
  refine pw_by (pw_or ha hb) fun σ H Q h => ?_
  obtain ⟨env, S, G, ι, rp, re, po⟩ := h
  rw [evalT] at po
  refine ⟨env, S, G, ι, rp, re, ?_⟩
  refine Post.seq po fun x S1 v H1 G1 ι1 e1 rp1 ex1 r1 po1 => ?_
  have r1' : x = v := r1
  subst r1'
  cases x with
  | true => exact po1 true H1 G1 ι1 rp1 ex1 rfl
  | false => exact ⟨env, S1, G1, ι1, rp1, re.up ex1, Post.up po1 ex1 (fun _ _ _ _ _ h => h)⟩
theorem sw_one {op : BoolOp} {C : CallF} {r : RE} (h : ST X cl a (evalT C r)) : SW X cl (.BoolOp op [a] pos) (evalT C r) := by
  cases op
  · exact pw_and1 h
  · exact pw_or1 h
/-! and, or, not as values -/
theorem se_not {C : CallF} {r : RE} (h : SE X cl a (evalE C r)) : SE X cl (.UnaryOp .Not a pos) (evalE C (.not_ r)) := by
  refine pe_by (pe_notT h) fun σ H Q h => ?_
  obtain ⟨env, S, G, ι, rp, re, po⟩ := h
  rw [evalE] at po
  refine ⟨env, S, G, ι, rp, re, ?_⟩
  refine Post.seq po fun x S1 v H1 G1 ι1 e1 rp1 ex1 r1 po1 => ?_
  cases qx : rd S1 x with
  | none => simp only [qx] at po1; exact po1.elim
  | some d =>
    simp only [qx] at po1
    obtain ⟨b, qd, po1⟩ := post_ofO po1
    exact ⟨b, tru_of rp1.gs (rd_rep rp1 r1 qx) qd, po1 _ H1 G1 ι1 rp1 ex1 rfl⟩
theorem se_and {C : CallF} {ra rb : RE} {rest : List Expr} (ha : SE X cl a (evalE C ra)) (hb : SE X cl (.BoolOp .And (b :: rest) pos) (evalE C rb)) : SE X cl (.BoolOp .And (a :: b :: rest) pos) (evalE C (.and_ ra rb)) := by
  refine pe_by (pe_and ha hb) fun σ H Q h => ?_
  obtain ⟨env, S, G, ι, rp, re, po⟩ := h
  rw [evalE] at po
  refine ⟨env, S, G, ι, rp, re, ?_⟩
  refine Post.seq po fun x S1 v H1 G1 ι1 e1 rp1 ex1 r1 po1 => ?_
  cases x with
  | l n => exact po1.elim
  | p d => cases d with
    | bl c =>
      cases r1
      cases c with
      | true => exact ⟨true, rfl, ⟨env, S1, G1, ι1, rp1, re.up ex1, Post.up po1 ex1 (fun _ _ _ _ _ h => h)⟩⟩
      | false => exact ⟨false, rfl, po1 _ H1 G1 ι1 rp1 ex1 rfl⟩
    | _ => exact po1.elim
theorem se_or {C : CallF} {ra rb : RE} {rest : List Expr} (ha : SE X cl a (evalE C ra)) (hb : SE X cl (.BoolOp .Or (b :: rest) pos) (evalE C rb)) : SE X cl (.BoolOp .Or (a :: b :: rest) pos) (evalE C (.or_ ra rb)) := by
  refine pe_by (pe_or ha hb) fun σ H Q h => ?_
  obtain ⟨env, S, G, ι, rp, re, po⟩ := h
  rw [evalE] at po
  refine ⟨env, S, G, ι, rp, re, ?_⟩
  refine Post.seq po fun x S1 v H1 G1 ι1 e1 rp1 ex1 r1 po1 => ?_
  cases x with
  | l n => exact po1.elim
  | p d => cases d with
    | bl c =>
      cases r1
      cases c with
      | false => exact ⟨false, rfl, ⟨env, S1, G1, ι1, rp1, re.up ex1, Post.up po1 ex1 (fun _ _ _ _ _ h => h)⟩⟩
      | true => exact ⟨true, rfl, po1 _ H1 G1 ι1 rp1 ex1 rfl⟩
    | _ => exact po1.elim
theorem se_one {op : BoolOp} {C : CallF} {r : RE} (h : SE X cl a (evalE C r)) : SE X cl (.BoolOp op [a] pos) (evalE C r) := pe_one h
theorem se_ife {C : CallF} {rt ra rb : RE} (hc : ST X cl c (evalT C rt)) (ha : SE X cl a (evalE C ra)) (hb : SE X cl b (evalE C rb)) : SE X cl (.IfExp c a b pos) (evalE C (.ife rt ra rb)) := by
  refine pe_by (pe_ifExp hc ha hb) fun σ H Q h => ?_
  obtain ⟨env, S, G, ι, rp, re, po⟩ := h
  rw [evalE] at po
  refine ⟨env, S, G, ι, rp, re, ?_⟩
  refine Post.seq po fun x S1 v H1 G1 ι1 e1 rp1 ex1 r1 po1 => ?_
  have r1' : x = v := r1
  subst r1'
  cases x with
  | true => exact ⟨env, S1, G1, ι1, rp1, re.up ex1, Post.up po1 ex1 (fun _ _ _ _ _ h => h)⟩
  | false => exact ⟨env, S1, G1, ι1, rp1, re.up ex1, Post.up po1 ex1 (fun _ _ _ _ _ h => h)⟩
theorem lastMarks2 {op op' : CmpOp} {b c : Expr} (h : noSet c = true) : lastMarks [op, op'] [b, c] = false := by
  show behindInMarks op' c = false
  exact nomark3 h
/-- what a chain asks, from what it computes -/
theorem chain_post {fa fb fc : Env → Sto → Res SV} {o1 o2 : Cm} {K : PySem.W.Frag} {σ : L2.St} {H : Hp} {Q : VK} {env : Env} {S : Sto} {G : Hp} {ι : List Addr} (rp : RpH K cl S G ι H) (re : EnvR K cl env G ι σ)
    (po : Post K cl (RSv K cl) G ι H Q ((fa env S).bind fun x S => (fb env S).bind fun y S => (cmpS o1 x y S).bind fun r S => match r with
    | .p (.bl true) => (fc env S).bind fun z S => cmpS o2 y z S
    | .p (.bl false) => .ok (.p (.bl false)) S
    | _ => .bad)) : tChain (rB2 K cl (cmpD o1)) (rB2 K cl (cmpD o2)) (tX K cl (RSv K cl) fa) (tX K cl (RSv K cl) fb) (tX K cl (RSv K cl) fc) σ H Q := by
  refine ⟨env, S, G, ι, rp, re, ?_⟩
  refine Post.seq po fun x S1 v H1 G1 ι1 e1 rp1 ex1 r1 po1 => ?_
  refine ⟨env, S1, G1, ι1, rp1, re.up ex1, ?_⟩
  refine Post.seq (Post.up po1 ex1 (fun _ _ _ _ _ h => h)) fun y S2 w H2 G2 ι2 e2 rp2 ex2 r2 po2 => ?_
  have po2 := Post.up po2 ex2 (fun _ _ _ _ _ h => h)
  unfold cmpS at po2
  cases qx : rd S2 x with
  | none => simp only [qx, Res.bind_bad] at po2; exact po2.elim
  | some a =>
    cases qy : rd S2 y with
    | none => simp only [qx, qy, Res.bind_bad] at po2; exact po2.elim
    | some b =>
      simp only [qx, qy] at po2
      cases qd : cmpD o1 a b with
      | none => rw [qd] at po2; exact po2.elim
      | some d =>
        rw [qd] at po2
        simp only [ofO_some, Res.bind_ok] at po2
        refine ⟨S2, G2, ι2, a, b, d, rp2, rd_rep rp2 (RepS.up r1 ex2) qx, rd_rep rp2 r2 qy, qd, d, rfl, ?_⟩
        cases d with
        | false => exact po2 _ H2 G2 ι2 rp2 .refl rfl
        | true =>
          refine ⟨env, S2, G2, ι2, rp2, (re.up ex1).up ex2, ?_⟩
          refine Post.seq po2 fun z S3 u H3 G3 ι3 e3 rp3 ex3 r3 po3 => ?_
          exact post_cmpS rp3 (RepS.up r2 ex3) r3 (Post.up po3 ex3 (fun _ _ _ _ _ h => h))
theorem se_chain {C : CallF} {ra rb rc : RE} {o1 o2 : Cm} {k : Nat} (hr : Room k X.A) (h2 : noSet c = true) (ha : SE X cl a (evalE C ra)) (hb : SE X cl b (evalE C rb)) (hc : SE X cl c (evalE C rc)) :
    SE X cl (.Compare a [o1.py, o2.py] [b, c] pos) (evalE C (.chain o1 o2 ra rb rc)) := by
  refine pe_by (pe_chain (cmpD_ok (cl := cl) (by have := hr.un; omega) o1) (cmpD_ok (cl := cl) (by have := hr.un; omega) o2) ha hb hc (lastMarks2 h2)) fun σ H Q h => ?_
  obtain ⟨env, S, G, ι, rp, re, po⟩ := h
  rw [evalE] at po
  exact chain_post rp re po
/-- a test by a value that is a bool -/
theorem post_tb {K : PySem.W.Frag} {G H : Hp} {ι : List Addr} {Q : Bool → Hp → Prop} {r : Res SV} (po : Post K cl RBl G ι H Q (r.bind fun v S => match rd S v with | some d => ofO (truD d) S | none => .bad)) (hb : ∀ v S, r = .ok v S → ∃ b, v = .p (.bl b)) :
    Post K cl (RSv K cl) G ι H (fun z H3 => ∃ k, z = .bl k ∧ Q k H3) r := by
  cases r with
  | exc _ _ _ => exact po.elim
  | bad => exact po.elim
  | ok v S1 =>
    obtain ⟨b, rfl⟩ := hb v S1 rfl
    intro z H1 G1 ι1 rp1 ex1 r1
    cases r1
    exact ⟨b, rfl, po b H1 G1 ι1 rp1 ex1 rfl⟩
theorem cmpS_bl {o : Cm} {x y v : SV} {S S' : Sto} (h : cmpS o x y S = .ok v S') : ∃ b, v = .p (.bl b) := by
  unfold cmpS at h
  split at h
  · rename_i a b _ _
    cases q : cmpD o a b with
    | none => rw [q] at h; cases h
    | some d => rw [q] at h; cases h; exact ⟨d, rfl⟩
  · cases h
theorem bind_ok_inv {α β : Type} {r : Res α} {f : α → Sto → Res β} {b : β} {S : Sto} (h : r.bind f = .ok b S) : ∃ a S1, r = .ok a S1 ∧ f a S1 = .ok b S := by
  cases r with
  | ok a S1 => exact ⟨a, S1, rfl, h⟩
  | exc _ _ _ => cases h
  | bad => cases h
theorem st_chain {C : CallF} {ra rb rc : RE} {o1 o2 : Cm} {k : Nat} (hr : Room k X.A) (h2 : noSet c = true) (ha : SE X cl a (evalE C ra)) (hb : SE X cl b (evalE C rb)) (hc : SE X cl c (evalE C rc)) :
    ST X cl (.Compare a [o1.py, o2.py] [b, c] pos) (evalT C (.chain o1 o2 ra rb rc)) := by
  refine pt_by (pt_chain (cmpD_ok (cl := cl) (by have := hr.un; omega) o1) (cmpD_ok (cl := cl) (by have := hr.un; omega) o2) ha hb hc (lastMarks2 h2)) fun σ H Q h => ?_
  obtain ⟨env, S, G, ι, rp, re, po⟩ := h
  rw [evalT] at po
  · have po' := post_tb po (fun v S1 h => by
      rw [evalE] at h
      obtain ⟨x, S2, _, h⟩ := bind_ok_inv h
      obtain ⟨y, S3, _, h⟩ := bind_ok_inv h
      obtain ⟨r, S4, _, h⟩ := bind_ok_inv h
      split at h
      · obtain ⟨z, S5, _, h⟩ := bind_ok_inv h
        exact cmpS_bl h
      · cases h; exact ⟨_, rfl⟩
      · cases h)
    rw [evalE] at po'
    exact chain_post rp re po'
  all_goals (intros; first | (rename_i q; cases q) | skip)
  all_goals (try (intro q; cases q))
end
end R
end
section
set_option linter.all false
set_option maxRecDepth 100000
set_option maxHeartbeats 4000000
/-! R5: arguments, displays, items, built-in calls. -/
namespace R
open PySem PySem.Spec PyProof.Rows L2
section
variable {X : Cx} {cl : Nat → Addr} {e a b c : Expr} {es : List Expr} {pos : Pos} {C : CallF} {r ra rb : RE} {rs : REs}
def noStar : Expr → Bool
  | .Starred _ _ => false
  | _ => true
theorem starEach_of {env : PySem.Env} (h : noStar e = true) : starEach (e :: es) env = (false, eval e env) :: starEach es env := by
  cases e <;> first | rfl | cases h
theorem starEach_star {env : PySem.Env} {p : Pos} : starEach (.Starred e p :: es) env = (true, eval e env) :: starEach es env := rfl
theorem plain_of {env : PySem.Env} {pos : Pos} : ∀ {es : List Expr}, es.all noStar = true → (backTo pos (starEach es env)).any (·.1) = false
  | [], _ => rfl
  | e :: es, h => by
    obtain ⟨h1, h2⟩ := Bool.and_eq_true_iff.mp (show (noStar e && es.all noStar) = true from h)
    rw [starEach_of h1]
    show (false || (backTo pos (starEach es env)).any (·.1)) = false
    rw [plain_of h2]
    rfl
theorem few_of {env : PySem.Env} {pos : Pos} : ∀ {es : List Expr}, es.all noStar = true → (backTo pos (starEach es env)).all (fun x => !x.1) = true
  | [], _ => rfl
  | e :: es, h => by
    obtain ⟨h1, h2⟩ := Bool.and_eq_true_iff.mp (show (noStar e && es.all noStar) = true from h)
    rw [starEach_of h1]
    show (true && (backTo pos (starEach es env)).all (fun x => !x.1)) = true
    rw [few_of h2]
    rfl
theorem sa_nil : SA X cl [] (evalEs C .nil) := by
  refine pa_by pa_nil fun σ H Q h => ?_
  obtain ⟨env, S, G, ι, rp, re, po⟩ := h
  rw [evalEs] at po
  exact po [] H G ι rp .refl .nil
theorem sa_cons (hs : noStar e = true) (he : SE X cl e (evalE C r)) (hr : SA X cl es (evalEs C rs)) : SA X cl (e :: es) (evalEs C (.cons r rs)) := by
  refine pa_by (pa_cons he hr (starEach_of hs)) fun σ H Q h => ?_
  obtain ⟨env, S, G, ι, rp, re, po⟩ := h
  rw [evalEs] at po
  refine ⟨env, S, G, ι, rp, re, ?_⟩
  refine Post.seq po fun x S1 v H1 G1 ι1 e1 rp1 ex1 r1 po1 => ?_
  refine ⟨env, S1, G1, ι1, rp1, re.up ex1, ?_⟩
  refine Post.seq (Post.up po1 ex1 (fun _ _ _ _ _ h => h)) fun ys S2 w H2 G2 ι2 e2 rp2 ex2 r2 po2 => ?_
  exact po2 _ H2 G2 ι2 rp2 ex2 (.cons (RepS.up r1 ex2) r2)
theorem seq_rd {K : PySem.W.Frag} {G H : Hp} {d : D} {v : V} {xs : List D} (gs : Same G H) (h : RdV K cl G H d v) (e : seqD d = some xs) : ∃ a vs, v = .ref a ∧ (SqT K H a vs ∨ SqL K H a vs) ∧ Reps K cl G xs vs := by
  cases d with
  | lst ys => cases e; obtain ⟨a, vs, h1, h2, h3⟩ := h; exact ⟨a, vs, h1, .inr (.inl (.inl h2)), h3⟩
  | tup ys => cases e; obtain ⟨a, vs, h1, h2, h3⟩ := h; exact ⟨a, vs, h1, .inl (SqT.up h2 gs), h3⟩
  | _ => cases e
theorem svs_of {K : PySem.W.Frag} {G : Hp} {ι : List Addr} : ∀ {xs : List D} {vs : List V}, Reps K cl G xs vs → Paired (RepS K cl G ι) (xs.map SV.p) vs
  | [], _, h => by cases (show _ = [] from h); exact .nil
  | x :: xs, _, h => by
    obtain ⟨v, r, h1, h2, h3⟩ := h
    subst h1
    exact .cons h2 (svs_of h3)
theorem sa_star {p : Pos} (he : SE X cl e (evalE C r)) (hr : SA X cl es (evalEs C rs)) : SA X cl (.Starred e p :: es) (evalEs C (.star r rs)) := by
  refine pa_by (StX.pa_star he hr rfl) fun σ H Q h => ?_
  obtain ⟨env, S, G, ι, rp, re, po⟩ := h
  rw [evalEs] at po
  refine ⟨env, S, G, ι, rp, re, ?_⟩
  refine Post.seq po fun x S1 v H1 G1 ι1 e1 rp1 ex1 r1 po1 => ?_
  cases q : (rd S1 x).bind seqD with
  | none => simp only [q] at po1; exact po1.elim
  | some xs =>
    simp only [q] at po1
    obtain ⟨d, qd, qs⟩ := Option.bind_eq_some_iff.mp q
    obtain ⟨a, vs, h1, h2, h3⟩ := seq_rd rp1.gs (rd_rep rp1 r1 qd) qs
    refine ⟨a, vs, h1, h2, env, S1, G1, ι1, rp1, re.up ex1, ?_⟩
    refine Post.seq (Post.up po1 ex1 (fun _ _ _ _ _ h => h)) fun ys S2 w H2 G2 ι2 e2 rp2 ex2 r2 po2 => ?_
    exact po2 _ H2 G2 ι2 rp2 ex2 (Paired.append (svs_of (Reps.up' h3 ex2.g)) r2)
theorem purs_rep {K : PySem.W.Frag} {G : Hp} {ι : List Addr} : ∀ {svs : List SV} {ds : List D} {vs : List V}, purs svs = some ds → Paired (RepS K cl G ι) svs vs → Reps K cl G ds vs
  | [], _, _, e, h => by cases e; cases h; rfl
  | sv :: svs, ds, _, e, h => by
    cases h with
    | cons h1 h2 =>
      cases sv with
      | l n => unfold purs at e; simp only [pur_l] at e; cases e
      | p d =>
        unfold purs at e
        simp only [pur_p] at e
        cases q : purs svs with
        | none => rw [q] at e; cases e
        | some es =>
          rw [q] at e
          cases e
          exact ⟨_, _, rfl, h1, purs_rep q h2⟩
theorem rds_rep {K : PySem.W.Frag} {G H : Hp} {ι : List Addr} {S : Sto} (rp : RpH K cl S G ι H) : ∀ {svs : List SV} {ds : List D} {vs : List V}, rds S svs = some ds → Paired (RepS K cl G ι) svs vs → Paired (RdV K cl G H) ds vs
  | [], _, _, e, h => by cases e; cases h; exact .nil
  | sv :: svs, ds, _, e, h => by
    cases h with
    | cons h1 h2 =>
      unfold rds at e
      cases q1 : rd S sv with
      | none => rw [q1] at e; cases e
      | some d =>
        cases q : rds S svs with
        | none => rw [q1, q] at e; cases e
        | some es =>
          rw [q1, q] at e
          cases e
          exact .cons (rd_rep rp h1 q1) (rds_rep rp q h2)
theorem Ext.freeze {G H G' H' : Hp} {ι ι' : List Addr} {p : Addr} {o : HO} (x : Ext G H ι G' H' ι') (hp : H p = none) (hg : G' p = none) : Ext G H ι (upd G' p o) H' ι' := by
  refine ⟨fun b u e => ?_, x.i, x.fr, x.nw, fun a u e => ?_, x.hn⟩
  · have := x.g b u e
    rw [upd_ne (fun z => by rw [z, hg] at this; cases this)]
    exact this
  · by_cases ha : a = p
    · subst ha; exact .inr (.inl hp)
    · rw [upd_ne ha] at e; exact x.gn a u e
theorem RNw.frz {K : PySem.W.Frag} {S : Sto} {G H G1 H1 : Hp} {ι ι1 : List Addr} {sv : SV} {v : V} (rp1 : RpH K cl S G1 ι1 H1) (ex1 : Ext G H ι G1 H1 ι1) (h : RNw K cl H G1 H1 ι1 sv v) : ∃ G2, RpH K cl S G2 ι1 H1 ∧ Ext G H ι G2 H1 ι1 ∧ RepS K cl G2 ι1 sv v := by
  obtain ⟨p, rfl, hp, hg, hn, r1⟩ := h
  cases sv with
  | l n => exact r1.elim
  | p d =>
    cases d with
    | lst xs =>
      obtain ⟨vs, h1, h2⟩ := r1
      obtain ⟨k1, k2⟩ := rp1.freeze h1 hg hn
      exact ⟨_, k1, Ext.freeze ex1 hp hg, ⟨p, vs, rfl, upd_same, Reps.up' h2 k2⟩⟩
    | dct k =>
      obtain ⟨vs, h1, h2⟩ := r1
      obtain ⟨k1, k2⟩ := rp1.freeze h1 hg hn
      exact ⟨_, k1, Ext.freeze ex1 hp hg, ⟨p, vs, rfl, upd_same, RepK.up k2 _ _ h2⟩⟩
    | _ => exact r1.elim
/-- a new object that nobody holds may be frozen -/
theorem tx_of_sn {f : Env → Sto → Res SV} {K : PySem.W.Frag} {σ : L2.St} {H : Hp} {Q : VK} (h : tX K cl (RSv K cl) f σ H Q) : tX K cl (RNw K cl) f σ H Q := by
  obtain ⟨env, S, G, ι, rp, re, po⟩ := h
  refine ⟨env, S, G, ι, rp, re, ?_⟩
  cases q : f env S with
  | exc c d S' => rw [q] at po; exact po.elim
  | bad => rw [q] at po; exact po.elim
  | ok sv S1 =>
    rw [q] at po
    intro v H1 G1 ι1 rp1 ex1 r1
    obtain ⟨G2, k1, k2, k3⟩ := RNw.frz rp1 ex1 r1
    exact po v H1 G2 ι1 k1 k2 k3
theorem se_of_sn {f : Env → Sto → Res SV} (h : SN X cl e f) : SE X cl e f := pe_by h fun _ _ _ h => tx_of_sn h
theorem Ext.cell {G H G' H' : Hp} {ι ι' : List Addr} {p : Addr} (x : Ext G H ι G' H' ι') (hp : H p = none) : Ext G H ι G' H' (ι' ++ [p]) := by
  obtain ⟨t, ht⟩ := x.i
  refine ⟨x.g, ⟨t ++ [p], by rw [ht, List.append_assoc]⟩, x.fr, fun a h => ?_, x.gn, x.hn⟩
  rcases List.mem_append.mp h with z | z
  · exact x.nw a z
  · simp at z; subst z; exact .inr hp
/-- it becomes a cell -/
theorem tx_new {K : PySem.W.Frag} {σ : L2.St} {H : Hp} {Q : VK} (h : tX K cl (RSv K cl) (evalE C (.new r)) σ H Q) : tX K cl (RNw K cl) (evalE C r) σ H Q := by
  obtain ⟨env, S, G, ι, rp, re, po⟩ := h
  rw [evalE] at po
  refine ⟨env, S, G, ι, rp, re, ?_⟩
  cases q : evalE C r env S with
  | exc c d S' => rw [q] at po; exact po.elim
  | bad => rw [q] at po; exact po.elim
  | ok sv S1 =>
    rw [q] at po
    intro v H1 G1 ι1 rp1 ex1 r1
    obtain ⟨p, rfl, hp, hg, hn, r1⟩ := r1
    have hl : (ι1 ++ [p])[S1.length]? = some p := by rw [← rp1.len]; simp
    cases sv with
    | l n => exact r1.elim
    | p d =>
      cases d with
      | lst xs =>
        obtain ⟨vs, h1, h2⟩ := r1
        exact po _ H1 G1 (ι1 ++ [p]) (rp1.cell (c := .lst xs) (by rw [h1]; simp) hn ⟨hg, vs, h1, h2⟩) (ex1.cell hp) ⟨p, hl, rfl⟩
      | dct k =>
        obtain ⟨vs, h1, h2⟩ := r1
        exact po _ H1 G1 (ι1 ++ [p]) (rp1.cell (c := .dct k) (by rw [h1]; simp) hn ⟨hg, vs, h1, h2⟩) (ex1.cell hp) ⟨p, hl, rfl⟩
      | _ => exact r1.elim
theorem se_new (h : SN X cl e (evalE C r)) : SE X cl e (evalE C (.new r)) := pe_by h fun _ _ _ h => tx_new h
/-- a new list or dict laid now -/
theorem rnw_lay {K : PySem.W.Frag} {G H H0 : Hp} {ι ι0 : List Addr} {p : Addr} {xs : List D} {vs : List V} {S : Sto} (rp : RpH K cl S G ι H) (ex : ∀ a, H a = none → H0 a = none) (hp : H p = none) (h : Reps K cl G xs vs) : RNw K cl H0 G (upd H p (.lst vs)) ι (.p (.lst xs)) (.ref p) := by
  refine ⟨p, rfl, ex p hp, ?_, fun m => rp.inh p m hp, vs, upd_same, h⟩
  cases q : G p with
  | none => rfl
  | some o => rw [rp.gs _ _ q] at hp; cases hp
theorem rnw_layD {K : PySem.W.Frag} {G H H0 : Hp} {ι ι0 : List Addr} {p : Addr} {xs : List (D × D)} {vs : List (Key × V)} {S : Sto} (rp : RpH K cl S G ι H) (ex : ∀ a, H a = none → H0 a = none) (hp : H p = none) (h : RepK K cl G xs vs) : RNw K cl H0 G (upd H p (.dK vs)) ι (.p (.dct xs)) (.ref p) := by
  refine ⟨p, rfl, ex p hp, ?_, fun m => rp.inh p m hp, vs, upd_same, h⟩
  cases q : G p with
  | none => rfl
  | some o => rw [rp.gs _ _ q] at hp; cases hp
theorem sn_lst (h : SA X cl es (evalEs C rs)) : SN X cl (.List es pos) (evalE C (.lst rs)) := by
  refine pe_by (pe_lst h) fun σ H Q h => ?_
  obtain ⟨env, S, G, ι, rp, re, po⟩ := h
  rw [evalE] at po
  refine ⟨env, S, G, ι, rp, re, ?_⟩
  refine Post.seq po fun x S1 v H1 G1 ι1 e1 rp1 ex1 r1 po1 => ?_
  obtain ⟨ds, qd, po1⟩ := post_ofO po1
  have rs' := purs_rep qd r1
  split at po1
  · rename_i hl
    exact ⟨by rw [sline, ← rs'.length]; exact hl, fun p hp => po1 _ _ G1 ι1 (rp1.layH hp) (ex1.trans (Ext.layH hp)) (rnw_lay (ι0 := ι) rp1 ex1.hn hp rs')⟩
  · exact po1.elim
theorem se_tup {k : Nat} (h : SA X cl es (evalEs C rs)) : SE X cl (.Tuple es k pos) (evalE C (.tup rs)) := by
  refine pe_by (pe_tup h) fun σ H Q h => ?_
  obtain ⟨env, S, G, ι, rp, re, po⟩ := h
  rw [evalE] at po
  refine ⟨env, S, G, ι, rp, re, ?_⟩
  refine Post.seq po fun x S1 v H1 G1 ι1 e1 rp1 ex1 r1 po1 => ?_
  obtain ⟨ds, qd, po1⟩ := post_ofO po1
  have rs' := purs_rep qd r1
  split at po1
  · rename_i hl
    refine ⟨by rw [sline, ← rs'.length]; exact hl, fun p hp => ?_⟩
    exact po1 _ _ _ ι1 (rp1.lay hp) (ex1.trans (Ext.lay rp1.gs hp)) ⟨p, v, rfl, .inl (.inl upd_same), Reps.up' rs' (Ext.lay (ι := ι1) rp1.gs hp).g⟩
  · exact po1.elim
/-! items -/
def noSlice : Expr → Bool
  | .Slice _ _ _ _ => false
  | _ => true
theorem plainIx_of (h : noSlice b = true) : PlainIx b := fun o i => by
  cases b <;> first | rfl | cases h
def rIxD (K : PySem.W.Frag) (cl : Nat → Addr) : R2 := fun x y H Q => ∃ G a ks k d dy v, x = .ref a ∧ H a = some (.dK ks) ∧ RepK K cl G k ks ∧ Rep K cl G dy y ∧ keyD dy = true ∧ lookD dy k = some d ∧ Same G H ∧ (Rep K cl G d v → Q v H)
theorem ix_dict {kk : Nat} (hr : Room kk X.A) : IxR X (fun x y H Q => ∃ a v, x = .ref a ∧ DGet H a y (some v) ∧ Q v H) := by
  intro value slice pins s σ H x y v u Q I rx ry h hs
  obtain ⟨a, z, rfl, g, q⟩ := h
  cases rx
  have hT := dict_typeIs I g
  have h2 : wpAny (model X.prog X.w) X.A (getItem (.ref a) u) (EP X pins σ Q) X.xe s := d_getItem (by have := hr.un; omega) I g ry fun w' s3 I3 rw' => ⟨z, H, I3, rw', q⟩
  unfold subscriptTail
  refine wpAny_bind ?_
  rw [getitemInPython_of_ne hT.not_modules]
  refine wpAny_bind (wpAny_specialOf hT PySem.F.slot_dict_getitem.lookup ?_)
  have fin : wpAny (model X.prog X.w) X.A (subscripted slice false (.ref a) u) (fun r s₃ => wpAny (model X.prog X.w) X.A (letTemporaryGo value (.ref a) r >>= fun _ => pure r) (EP X pins σ Q) X.xe s₃) X.xe s := by
    rw [hs]
    exact wpAny_operating (wpAny_mono h2 (fun r s₃ h₃ => wpAny_bind (wpAny_letTemporaryGo (wpAny_pure h₃))) fun _ _ x => x)
  first
    | exact wpAny_pure (wpAny_bind fin)
    | exact wpAny_bind (wpAny_pure (wpAny_bind fin))
    | exact wpAny_bind fin
def rIxA (K : PySem.W.Frag) : R2 := fun x y H Q => rIx K x y H Q ∨ (∃ a v, x = .ref a ∧ DGet H a y (some v) ∧ Q v H)
theorem atI_map {α β : Type} {f : α → β} {xs : List α} {i : Int} : L2.atI (xs.map f) i = (L2.atI xs i).map f := by
  unfold L2.atI
  rw [List.length_map]
  cases L2.ixN xs.length i <;> simp
theorem atI_rep {K : PySem.W.Frag} {G : Hp} {xs : List D} {vs : List V} {i : Int} {d : D} (h : Reps K cl G xs vs) (e : L2.atI xs i = some d) : ∃ v, L2.atI vs i = some v ∧ Rep K cl G d v := by
  unfold L2.atI at e ⊢
  rw [← h.length]
  cases q : L2.ixN xs.length i with
  | none => rw [q] at e; cases e
  | some j =>
    rw [q] at e
    obtain ⟨v, h1, h2⟩ := Paired.get h.pair (show xs[j]? = some d from e)
    exact ⟨v, h1, h2⟩
theorem se_idx {k : Nat} (hr : Room k X.A) (hs : noSlice b = true) (ha : SE X cl a (evalE C ra)) (hb : SE X cl b (evalE C rb)) : SE X cl (.Subscript a b pos) (evalE C (.idx ra rb)) := by
  refine se_two (g := fun x y S => match rd S x, pur y with
    | some dx, some dy => (ofO (idxD dx dy) S).bind fun d S => .ok (.p d) S
    | _, _ => .bad) (pe_ix (r := rIxA X.K) (ix_seq.or (ix_dict hr)) ha hb (plainIx_of hs)) (fun env S => by first | (rw [evalE]; done) | (rw [evalE]; rfl)) fun S G ι H x y v w Q rp rx ry po => ?_
  cases qx : rd S x with
  | none => simp only [qx] at po; exact po.elim
  | some dx =>
    cases y with
    | l n => simp only [qx, pur_l] at po; exact po.elim
    | p dy =>
      simp only [qx, pur_p] at po
      obtain ⟨d, qd, po⟩ := post_ofO po
      have rx' := rd_rep rp rx qx
      have fin : ∀ z, Rep X.K cl G d z → Q z H := fun z hz => po z H G ι rp .refl hz
      cases dx with
      | lst xs => cases dy with
        | int i =>
          cases ry
          obtain ⟨p, vs, rfl, h1, h2⟩ := rx'
          obtain ⟨z, h3, h4⟩ := atI_rep h2 qd
          exact .inl (.inl ⟨p, vs, i, z, rfl, rfl, .inl (.inl h1), h3, fin z h4⟩)
        | _ => cases qd
      | tup xs => cases dy with
        | int i =>
          cases ry
          obtain ⟨p, vs, rfl, h1, h2⟩ := RepT.sq rp.gs rx'
          obtain ⟨z, h3, h4⟩ := atI_rep h2 qd
          exact .inl (.inr (.inl ⟨p, vs, i, z, rfl, rfl, h1, h3, fin z h4⟩))
        | _ => cases qd
      | scr ns => cases dy with
        | int i =>
          cases ry
          obtain ⟨p, rfl, h1⟩ := rx'
          obtain ⟨j, h3, rfl⟩ := Option.map_eq_some_iff.mp qd
          exact .inl (.inl ⟨p, _, i, .int j, rfl, rfl, rp.gs.seq h1, by rw [atI_map, h3]; rfl, fin _ rfl⟩)
        | _ => cases qd
      | str z => cases dy with
        | int i =>
          cases rx'
          cases ry
          have qd : (if z.length ≤ line then (L2.atI z.cps.toList i).map fun c => D.str ⟨#[c]⟩ else none) = some d := qd
          split at qd
          · obtain ⟨j, h3, rfl⟩ := Option.map_eq_some_iff.mp qd
            exact .inl (.inr (.inr ⟨z, i, j, rfl, rfl, by rw [sline]; assumption, h3, fin _ rfl⟩))
          · cases qd
        | _ => cases qd
      | dct k =>
        have qd : (if keyD dy = true then lookD dy k else none) = some d := by cases dy <;> exact qd
        split at qd
        · rename_i hk
          obtain ⟨p, ks, rfl, h1, h2⟩ := rx'
          obtain ⟨o, h3, h4, h5⟩ := dget_of (v := w) hk (RdV.of rp.gs ry) h1 h2
          rcases h5 with ⟨h5, _⟩ | ⟨d', z, h5, h6, h7⟩
          · rw [h5] at qd; cases qd
          · rw [h5] at qd
            cases qd
            subst h6
            exact .inr ⟨p, z, rfl, h3, fin z h7⟩
        · cases qd
      | _ => cases dy <;> cases qd
end
end R
end
section
set_option linter.all false
set_option maxRecDepth 100000
set_option maxHeartbeats 4000000
/-! RG: defs called where no repr is under way (needed for repr of lists and tuples within a def). -/
namespace R
open PySem PySem.Spec PyProof.Rows L2
abbrev Calm (A : Around) : Prop := A.guards = some []
/-- how a call may end: handed back, or an exception of which Ex holds -/
abbrev Fex := List PySem.Env → Hp → Shared → Value → Shared → Prop
structure FnG (P : Program) (w : World) (K : PySem.W.Frag) (mg : Str → Option Value) (base : Heap) (k : Nat) (f : Addr) (fd : FuncData) (ps : List Str) (sp : Sp) : Prop where
  many : ∀ vs H Q E, sp vs H Q E → vs.length = ps.length
  go : ∀ {A : Around} {above : List PySem.Env} {s : Shared} {H : Hp} {args : Args} {us : List Value} {vs : List V} {Q : VK}, Calm A → Room k A → Env0 P w K mg base A above s H → BindsTo s fd args (ps.zip us) → Vals vs us →
    sp vs H Q E0 → codeAny (model P w) A (.call (.ref f) args) (CR CX0 above P w H s Q E0) s
section
variable {P : Program} {w : World} {K : PySem.W.Frag} {mg : Str → Option Value} {base : Heap} {j k : Nat} {f : Addr} {fd : FuncData} {ps : List Str} {sp sp' : Sp}
theorem FnG.more (F : FnG P w K mg base j f fd ps sp) (h : j ≤ k) : FnG P w K mg base k f fd ps sp := ⟨F.many, fun c r => F.go c (r.mono h)⟩
theorem FnG.imp (F : FnG P w K mg base k f fd ps sp) (h : ∀ vs H Q E, sp' vs H Q E → sp vs H Q E) : FnG P w K mg base k f fd ps sp' :=
  ⟨fun vs H Q E z => F.many vs H Q E (h _ _ _ _ z), fun c r e b v z => F.go c r e b v (h _ _ _ _ z)⟩
end
/-! calls of such a def -/
section
variable {X : Cx} {k : Nat} {f C : Addr} {fd : FuncData} {ps : List Str} {sp : Sp} {ds : List Value} {x m : Str} {p pos apos : Pos} {e o : Expr} {es : List Expr} {ta : TE} {t : TA}
theorem back_of {pins : List (Addr × Obj)} {σ : L2.St} {H : Hp} {s s' : Shared} {Q : VK} {r : Result} (I : Inv X pins σ H s) (z : CR CX0 X.stack X.prog X.w H s Q E0 r s') : ∃ u, r = .ok (.ret u) ∧ EP X pins σ Q u s' := by
  cases r with
  | error er => exact z.elim
  | ok fl => cases fl with
    | ret u => exact ⟨u, rfl, I.after z⟩
    | next => exact z.elim
    | brk => exact z.elim
    | cont => exact z.elim
theorem goF {pins : List (Addr × Obj)} {σ : L2.St} {H : Hp} {s : Shared} {Q : VK} {us : List Value} {vs : List V} {args : Args} (F : FnG X.prog X.w X.K X.mg X.base k f fd ps sp) (cA : Calm X.A) (hr : Room k X.A) (I : Inv X pins σ H s)
    (hb : BindsTo s fd args (ps.zip us)) (r : Vals vs us) (h : sp vs H Q E0) : codeAny (model X.prog X.w) X.A (.call (.ref f) args) (fun rr s' => ∃ u, rr = .ok (.ret u) ∧ EP X pins σ Q u s') s :=
  codeAny_mono (F.go cA hr I.env0 hb r h) fun _ _ z => back_of I z
theorem goPos {pins : List (Addr × Obj)} {σ : L2.St} {H : Hp} {s : Shared} {Q : VK} {us : List Value} {vs : List V} (F : FnG X.prog X.w X.K X.mg X.base k f fd ps sp) (cA : Calm X.A) (hr : Room k X.A) (I : Inv X pins σ H s)
    (hb : Binds X.K fd ps []) (r : Vals vs us) (h : sp vs H Q E0) : wpAny (model X.prog X.w) X.A (call (.ref f) us) (EP X pins σ Q) X.xe s := by
  have lq : (us ++ ([] : List Value)).length = ps.length := by rw [List.append_nil, ← r.length]; exact F.many _ _ _ _ h
  have bb := hb s us I.kIn lq
  rw [List.append_nil] at bb
  refine wpAny_call (codeAny_mono (goF F cA hr I bb r h) fun rr s' z => ?_)
  obtain ⟨u, rfl, z⟩ := z
  exact z
theorem pe_go (F : FnG X.prog X.w X.K X.mg X.base k f fd ps sp) (cA : Calm X.A) (hr : Room k X.A) (hg : Gl X x) (hm : X.mg x = some (.ref f)) (hk : PySem.W.keepIn X.K (.ref f) = true) (hb : Binds X.K fd ps []) (ha : PA X (e :: es) t)
    (hdb : (x == ("__debug__" : Str)) = false) (he : starEach (e :: es) X.env = (false, eval e X.env) :: starEach es X.env) (hpl : (backTo pos (starEach es X.env)).any (·.1) = false) : PE X (.Call (.Name x p) (e :: es) [] pos) (fun σ H Q => t σ H fun vs H1 => sp vs H1 Q E0) := by
  constructor
  intro pins s σ H Q I h
  exact wpAny_Call_Name_kw (ld_glob I hg hm (PySem.W.callWith_K (h₀ := X.base) I.ok.mod.kin hk (thn (ha.run pos pins s σ H _ I h) fun us s1 ⟨vs, H1, I1, rr, q⟩ => ⟨I1.kIn, goPos F cA hr I1 hb rr q⟩) he hpl) hdb)
theorem pe_go0 (F : FnG X.prog X.w X.K X.mg X.base k f fd ps sp) (cA : Calm X.A) (hr : Room k X.A) (hg : Gl X x) (hm : X.mg x = some (.ref f)) (hk : PySem.W.keepIn X.K (.ref f) = true) (hb : Binds X.K fd ps [])
    (hdb : (x == ("__debug__" : Str)) = false) : PE X (.Call (.Name x p) [] [] pos) (fun _ H Q => sp [] H Q E0) := by
  constructor
  intro pins s σ H Q I h
  exact wpAny_Call_Name_kw (ld_glob I hg hm (PySem.W.callWith_K0 I.kIn hk (goPos (us := []) F cA hr I hb .nil h)) hdb)
/-- how keywords alone, named ks, bind: g puts their values in the parameters' order -/
structure KwB (K : PySem.W.Frag) (fd : FuncData) (ps ks : List Str) (perm : List Nat) (skip : Nat) : Prop where
  ok : ∀ (s : Shared) (us ws : List Value), K.In s.heap → us.length = skip → ws.length = ks.length → BindsTo s fd ⟨us, ks.zip ws⟩ (ps.zip (us ++ perm.filterMap fun i => ws[i]?))
theorem vals_perm {vs : List V} {us : List Value} (h : Vals vs us) : ∀ perm : List Nat, Vals (perm.filterMap fun i => vs[i]?) (perm.filterMap fun i => us[i]?)
  | [] => .nil
  | i :: perm => by
    rw [List.filterMap_cons, List.filterMap_cons]
    cases q : vs[i]? with
    | none => rw [h.none_of q]; exact vals_perm h perm
    | some v =>
      obtain ⟨u, h1, h2⟩ := h.get q
      rw [h1]
      exact .cons h2 (vals_perm h perm)
theorem goKw {pins : List (Addr × Obj)} {σ : L2.St} {H : Hp} {s : Shared} {Q : VK} {us : List Value} {vs : List V} {ks : List Str} {perm : List Nat} (F : FnG X.prog X.w X.K X.mg X.base k f fd ps sp) (cA : Calm X.A) (hr : Room k X.A) (I : Inv X pins σ H s)
    (hb : KwB X.K fd ps ks perm 0) (r : Vals vs us) (hl : vs.length = ks.length) (h : sp (perm.filterMap fun i => vs[i]?) H Q E0) : wpAny (model X.prog X.w) X.A (call (.ref f) [] (ks.zip us)) (EP X pins σ Q) X.xe s := by
  have bb := hb.ok s [] us I.kIn rfl (by rw [← r.length]; exact hl)
  refine wpAny_call (codeAny_mono (goF F cA hr I bb (vals_perm r perm) h) fun rr s' z => ?_)
  obtain ⟨u, rfl, z⟩ := z
  exact z
/-- keywords alone -/
theorem pe_goK {ks : List Str} {perm : List Nat} {kws : List Keyword} {tk : TA} (F : FnG X.prog X.w X.K X.mg X.base k f fd ps sp) (cA : Calm X.A) (hr : Room k X.A) (hg : Gl X x) (hm : X.mg x = some (.ref f)) (hk : PySem.W.keepIn X.K (.ref f) = true)
    (hb : KwB X.K fd ps ks perm 0) (hkw : PK X kws tk) (hall : (backToKw pos (keywordEach kws X.env)).all (·.1.isSome) = true) (hks : (backToKw pos (keywordEach kws X.env)).filterMap (·.1) = ks) (hdb : (x == ("__debug__" : Str)) = false)
    (hnone : ((backTo pos (starEach [] X.env)).any (·.1) || (backToKw pos (keywordEach kws X.env)).any (·.1.isNone)) = false) :
    PE X (.Call (.Name x p) [] kws pos) (fun σ H Q => tk σ H fun vs H1 => vs.length = ks.length ∧ sp (perm.filterMap fun i => vs[i]?) H1 Q E0) := by
  constructor
  intro pins s σ H Q I h
  refine wpAny_Call_Name_kw (ld_glob I hg hm (PySem.W.callWith_KW0 (h₀ := X.base) I.ok.mod.kin hk hall (thn (hkw.run pos pins s σ H _ I h) fun us s2 ⟨vs, H2, I2, rr, hl, q⟩ => ⟨I2.kIn, ?_⟩) hnone) hdb)
  rw [hks]
  exact goKw F cA hr I2 hb rr hl q
theorem pe_goM {pl : Sem Bool} (he : PE X o ta) (c : Cls X.K C) (hm : Meth X.K C m f) (F : FnG X.prog X.w X.K X.mg X.base k f fd ps sp) (cA : Calm X.A) (hr : Room k X.A) (hb : Binds X.K fd ps []) (ha : PA X (e :: es) t)
    (hst : starEach (e :: es) X.env = (false, eval e X.env) :: starEach es X.env) (hpl : (backTo pos (starEach es X.env)).any (·.1) = false)
    (ht : eval (.Call (.Attribute o m apos) (e :: es) [] pos) X.env = (eval o X.env >>= fun ov => (standAt apos.atName >>= fun _ => (holding [ov] (getMethod ov m pl) >>= fun fm => callWith pos fm.1 fm.2 (backTo pos (starEach (e :: es) X.env)) (backToKw pos (keywordEach [] X.env)))))) :
    PE X (.Call (.Attribute o m apos) (e :: es) [] pos) (fun σ H Q => ta σ H fun y H1 => ∃ a dx fs, y = .ref a ∧ H1 a = some (.ins C dx fs) ∧ fs.lookup m = none ∧ t σ H1 fun vs H2 => sp (y :: vs) H2 Q E0) := by
  constructor
  intro pins s σ H Q I h
  refine PySem.W.methodCall_KW (pl := pl) (thn (he.run pins s σ H _ I h) fun u s1 ⟨y, H1, I1, ry, a, dx, fs, ey, ea, l, q⟩ => ?_) ht
  cases ey
  cases ry
  exact getmeth_ok I1 ea c hm l (PySem.W.callWith_K (first := [.ref a]) (h₀ := X.base) I.ok.mod.kin hm.kp (thn (ha.run pos pins s1 σ H1 _ I1 q) fun us s2 ⟨vs, H2, I2, rr, q2⟩ => ⟨I2.kIn, goPos (us := .ref a :: us) (vs := .ref a :: vs) F cA hr I2 hb (.cons rfl rr) q2⟩) hst hpl)
theorem pe_goM0 {pl : Sem Bool} (he : PE X o ta) (c : Cls X.K C) (hm : Meth X.K C m f) (F : FnG X.prog X.w X.K X.mg X.base k f fd ps sp) (cA : Calm X.A) (hr : Room k X.A) (hb : Binds X.K fd ps [])
    (ht : eval (.Call (.Attribute o m apos) [] [] pos) X.env = (eval o X.env >>= fun ov => (standAt apos.atName >>= fun _ => (holding [ov] (getMethod ov m pl) >>= fun fm => callWith pos fm.1 fm.2 (backTo pos (starEach [] X.env)) (backToKw pos (keywordEach [] X.env)))))) :
    PE X (.Call (.Attribute o m apos) [] [] pos) (fun σ H Q => ta σ H fun y H1 => ∃ a dx fs, y = .ref a ∧ H1 a = some (.ins C dx fs) ∧ fs.lookup m = none ∧ sp [y] H1 Q E0) := by
  constructor
  intro pins s σ H Q I h
  refine PySem.W.methodCall_KW (pl := pl) (thn (he.run pins s σ H _ I h) fun u s1 ⟨y, H1, I1, ry, a, dx, fs, ey, ea, l, q⟩ => ?_) ht
  cases ey
  cases ry
  exact getmeth_ok I1 ea c hm l (PySem.W.callWith_K0 (first := [.ref a]) I1.kIn hm.kp (goPos (us := [.ref a]) (vs := [.ref a]) F cA hr I1 hb (.cons rfl .nil) q))
theorem calm_make {A : Around} {C : Addr} {us : List Value} {kw : List (Str × Value)} (h : Calm A) : Calm (A.under (.builtin "type.__call__" ⟨.ref C :: us, kw⟩)) := by
  first | exact h | (simpa [Calm, Around.under, Code.guards, Code.isGuard, guardIds, pushGuards] using h)
theorem goMake {pins : List (Addr × Obj)} {σ : L2.St} {H : Hp} {s : Shared} {Q : VK} {us : List Value} {vs : List V} (M : Mk X.K C f) (F : FnG X.prog X.w X.K X.mg X.base k f fd ps sp) (cA : Calm X.A) (hr : Room (k + 1) X.A) (hb : Binds X.K fd ps [])
    (I : Inv X pins σ H s) (r : Vals vs us) (h : ∀ y dx, H y = none → H dx = none → dx ≠ y → sp (.ref y :: vs) (upd (upd H dx (.own y)) y (.ins C dx [])) (fun v H2 => v = .non ∧ Q (.ref y) H2) E0) :
    wpAny (model X.prog X.w) X.A (call (.ref C) us) (EP X pins σ Q) X.xe s := by
  have z := h (s.heap.objs.size + 1) s.heap.objs.size (I.hok.fresh (Nat.le_succ _)) (I.hok.fresh (Nat.le_refl _)) (Nat.ne_of_lt (Nat.lt_succ_self _))
  have J := Inv.made (C := C) I
  have rr : Vals (V.ref (s.heap.objs.size + 1) :: vs) (Value.ref (s.heap.objs.size + 1) :: us) := .cons rfl r
  have lq : ((Value.ref (s.heap.objs.size + 1) :: us) ++ ([] : List Value)).length = ps.length := by
    rw [List.append_nil, ← rr.length]
    exact F.many _ _ _ _ z
  have bb := hb _ (Value.ref (s.heap.objs.size + 1) :: us) J.kIn lq
  rw [List.append_nil] at bb
  refine wpAny_call (make_map (f := f) I.kIn M.makes M.init (beq_iff_eq.mp M.fn) (codeAny_mono (F.go (calm_make cA) (hr.make C us []) (J.env0.make C us []) bb rr z) fun rt s' y => ?_))
  obtain ⟨u, rfl, v, H', I3, rv, ev, q3⟩ := back_of J y
  subst ev
  exact ⟨rv, ⟨V.ref (s.heap.objs.size + 1), H', I3, rfl, q3⟩⟩
theorem pe_goMake (M : Mk X.K C f) (F : FnG X.prog X.w X.K X.mg X.base k f fd ps sp) (cA : Calm X.A) (hr : Room (k + 1) X.A) (hg : Gl X x) (hm : X.mg x = some (.ref C)) (hb : Binds X.K fd ps []) (ha : PA X (e :: es) t)
    (hdb : (x == ("__debug__" : Str)) = false) (he : starEach (e :: es) X.env = (false, eval e X.env) :: starEach es X.env) (hpl : (backTo pos (starEach es X.env)).any (·.1) = false) :
    PE X (.Call (.Name x p) (e :: es) [] pos) (fun σ H Q => t σ H fun vs H1 => ∀ y dx, H1 y = none → H1 dx = none → dx ≠ y → sp (.ref y :: vs) (upd (upd H1 dx (.own y)) y (.ins C dx [])) (fun v H2 => v = .non ∧ Q (.ref y) H2) E0) := by
  constructor
  intro pins s σ H Q I h
  exact wpAny_Call_Name_kw (ld_glob I hg hm (PySem.W.callWith_K (h₀ := X.base) I.ok.mod.kin M.kp (thn (ha.run pos pins s σ H _ I h) fun us s1 ⟨vs, H1, I1, rr, q⟩ => ⟨I1.kIn, goMake M F cA hr hb I1 rr q⟩) he hpl) hdb)
theorem pe_goMakeK {ks : List Str} {perm : List Nat} {kws : List Keyword} {tk : TA} (M : Mk X.K C f) (F : FnG X.prog X.w X.K X.mg X.base k f fd ps sp) (cA : Calm X.A) (hr : Room (k + 1) X.A) (hg : Gl X x) (hm : X.mg x = some (.ref C))
    (hb : KwB X.K fd ps ks perm 1) (hkw : PK X kws tk) (hall : (backToKw pos (keywordEach kws X.env)).all (·.1.isSome) = true) (hks : (backToKw pos (keywordEach kws X.env)).filterMap (·.1) = ks) (hdb : (x == ("__debug__" : Str)) = false)
    (hnone : ((backTo pos (starEach [] X.env)).any (·.1) || (backToKw pos (keywordEach kws X.env)).any (·.1.isNone)) = false) :
    PE X (.Call (.Name x p) [] kws pos) (fun σ H Q => tk σ H fun vs H1 => vs.length = ks.length ∧ ∀ y dx, H1 y = none → H1 dx = none → dx ≠ y → sp (.ref y :: perm.filterMap fun i => vs[i]?) (upd (upd H1 dx (.own y)) y (.ins C dx [])) (fun v H2 => v = .non ∧ Q (.ref y) H2) E0) := by
  constructor
  intro pins s σ H Q I h
  refine wpAny_Call_Name_kw (ld_glob I hg hm (PySem.W.callWith_KW0 (h₀ := X.base) I.ok.mod.kin M.kp hall (thn (hkw.run pos pins s σ H _ I h) fun us s2 ⟨vs, H2, I2, rr, hl, q⟩ => ⟨I2.kIn, ?_⟩) hnone) hdb)
  rw [hks]
  have z := q (s2.heap.objs.size + 1) s2.heap.objs.size (I2.hok.fresh (Nat.le_succ _)) (I2.hok.fresh (Nat.le_refl _)) (Nat.ne_of_lt (Nat.lt_succ_self _))
  have J := Inv.made (C := C) I2
  have r2 : Vals (V.ref (s2.heap.objs.size + 1) :: perm.filterMap fun i => vs[i]?) (Value.ref (s2.heap.objs.size + 1) :: perm.filterMap fun i => us[i]?) := .cons rfl (vals_perm rr perm)
  have bb := hb.ok _ [Value.ref (s2.heap.objs.size + 1)] us J.kIn rfl (by rw [← rr.length]; exact hl)
  refine wpAny_call (make_map (f := f) I2.kIn M.makes M.init (beq_iff_eq.mp M.fn) (codeAny_mono (F.go (us := Value.ref (s2.heap.objs.size + 1) :: perm.filterMap fun i => us[i]?) (calm_make cA) (hr.make C [] _) (J.env0.make C [] _) bb r2 z) fun rt s' y => ?_))
  obtain ⟨u, rfl, v, H', I3, rv, ev, q3⟩ := back_of J y
  subst ev
  exact ⟨rv, ⟨V.ref (s2.heap.objs.size + 1), H', I3, rfl, q3⟩⟩
/-- a property of an own class -/
theorem pe_goProp {pr : Addr} (he : PE X e ta) (c : Cls X.K C) (hp : PropOf X.K C m pr f) (F : FnG X.prog X.w X.K X.mg X.base k f fd ps sp) (cA : Calm X.A) (hr : Room (k + 1) X.A) (hb : Binds X.K fd ps [])
    (hab : attributeBase e m X.env (eval e X.env) = eval e X.env) : PE X (.Attribute e m pos) (fun σ H Q => ta σ H fun y H1 => ∃ a dx fs, y = .ref a ∧ H1 a = some (.ins C dx fs) ∧ sp [y] H1 Q E0) := by
  constructor
  intro pins s σ H Q I h
  refine attr_of hab (thn (he.run pins s σ H _ I h) fun u s1 ⟨y, H1, I1, ry, a, dx, fs, ey, ea, q⟩ => ?_)
  cases ey
  cases ry
  obtain ⟨mA, O, _⟩ := ins_get I1.hok ea
  obtain ⟨od, J, _⟩ := O.look
  obtain ⟨rest, hrec⟩ := hp.rec_
  have I2 := I1.tok (s1.toks + 1)
  have hc : (PySem.W.clsIn X.K C).isSome = true := by
    obtain ⟨cd, hc, _⟩ := PySem.W.any_some c.hd
    rw [hc]; rfl
  have lq : ([Value.ref a] ++ ([] : List Value)).length = ps.length := by
    have z := F.many _ _ _ _ q
    exact z
  have bb := hb _ [.ref a] I2.kIn lq
  refine PySem.W.get_bind I1.kIn J (PySem.W.plainGet_of (c.get m)).1 (PySem.W.findObj_data hc hp.at_ hp.get hp.tak) (PySem.W.plainGet_of (c.get m)).2 (wpAny_call (PySem.W.prop_get (s := { s1 with toks := s1.toks + 1 }) I1.kIn hrec ?_))
  refine codeAny_mono (F.go (A := X.A.in1) (us := [.ref a]) (vs := [.ref a]) cA hr.in1 I2.env0.in1 bb (.cons rfl .nil) q) fun rt s' z => ?_
  obtain ⟨u, rfl, v, H', I3, rv, q3⟩ := back_of I2 z
  show wpAny _ _ (handedOut u) _ _ _
  rw [PySem.W.handedOut_of (handed_of rv)]
  exact wpAny_pure ⟨v, H', I3, rv, q3⟩
end
/-! a def's body -/
theorem fnG_of {P : Program} {w : World} {K : PySem.W.Frag} {mg : Str → Option Value} {base : Heap} {k : Nat} {x qual : Str} {params : Arguments} {body : List Stmt} {scope : Scope} {f : Addr} {fd : FuncData} {N ps : List Str} {sp : Sp}
    (F : FunD K x qual params body scope [] [] f fd) (S : FnScope N ps scope) (len : ∀ vs H Q E, sp vs H Q E → vs.length = ps.length)
    (hbody : ∀ (cdv : Value) (A : Around) (above : List PySem.Env) (s : Shared) (H : Hp) (vs : List V) (Q : VK), Calm A → Room k (A.deeper (envOfC qual scope s.heap.objs.size f cdv)) → sp vs H Q E0 →
      ∃ t, PSs (cxOf CX0 P w K mg base N qual scope f cdv A above s H E0).nox body t ∧ t { nx := fun _ H' => Q .non H', rt := Q } (L2.start N vs) H) : FnG P w K mg base (k + 1) f fd ps sp := by
  obtain ⟨oc, od, dV, kV, doc, pm, an, cdv, ct, osl, rfl, lk, hcd, _, _⟩ := F.ex
  refine ⟨len, fun {A above s H args us vs Q} cA hr e0 hb r hsp => ?_⟩
  have many := len _ _ _ _ hsp
  have inK : K.In s.heap := e0.mod.kin.keeps fun b o z => (e0.bs b o z).1
  have lim : s.heap.NoLimit := e0.mod.nolimit.keeps fun b o z => (e0.bs b o z).1
  have kinds : ∀ y ∈ ps.zip us, scope.names.lookup y.1 = some .local ∨ (scope.names.lookup y.1 = some .cell ∧ ((cellsFrom (s.heap.objs.size + 1) scope.names []).lookup y.1).isSome = true) := by
    intro y hy
    rcases S.par y.1 (List.of_mem_zip (show (y.1, y.2) ∈ ps.zip us from hy)).1 with z | z
    · exact .inl z
    · exact .inr ⟨z, PySem.W.cellsFrom_some _ _ _ (.inl z)⟩
  refine codeAny_call_function hr.depth (inK _ _ lk) rfl S.co S.gen rfl (PySem.W.codeRec_of inK hcd) (hb _ _ _ _ (wpAny_newFunctionEnv_cells S.kind kinds fun env he s1 y => ?_))
  subst he
  refine ⟨lim.keeps y.toInCall.keep, codeAny_func ?_⟩
  obtain ⟨t, ht, hq⟩ := hbody cdv A above s H vs Q cA (hr.deeper _) hsp
  have I : Inv (cxOf CX0 P w K mg base N qual scope f cdv A above s H E0) [] (L2.start N vs) H s1 := inv_start S hr.hd e0 many r y
  refine wpAny_mono (ht.nox.run [] s1 (L2.start N vs) H _ I hq) (fun fl s' z => ?_) fun _ _ z => z
  cases fl with
  | ret u =>
    obtain ⟨v, _, H', J, rv, q⟩ := z
    exact ⟨v, H', J.os, J.bare, J.base, J.hok, rv, q⟩
  | next =>
    obtain ⟨_, H', J, q⟩ := z
    exact ⟨V.non, H', J.os, J.bare, J.base, J.hok, rfl, q⟩
  | brk =>
    obtain ⟨_, _, _, no⟩ := z
    exact no.elim
  | cont =>
    obtain ⟨_, _, _, no⟩ := z
    exact no.elim
end R
end
section
set_option linter.all false
set_option maxRecDepth 100000
set_option maxHeartbeats 4000000
/-! R6: slices, built-in functions and methods. -/
namespace R
open PySem PySem.Spec PyProof.Rows L2
section
variable {X : Cx} {cl : Nat → Addr} {e a b c : Expr} {es : List Expr} {pos : Pos} {C : CallF} {r ra rb : RE} {rs : REs}
/-! slices -/
abbrev SO (X : Cx) (cl : Nat → Addr) (e : Option Expr) (f : Env → Sto → Res (Option Int)) : Prop := PO X e (tX X.K cl ROp f)
theorem po_by {e : Option Expr} {t t' : TO} (h : PO X e t') (k : ∀ σ H Q, t σ H Q → t' σ H Q) : PO X e t := ⟨fun pins s σ H Q I hq => h.run pins s σ H Q I (k _ _ _ hq)⟩
theorem so_none : SO X cl none (evalO C .non) := by
  refine po_by po_none fun σ H Q h => ?_
  obtain ⟨env, S, G, ι, rp, re, po⟩ := h
  rw [evalO] at po
  exact po none H G ι rp .refl rfl
theorem so_some (h : SE X cl e (evalE C r)) : SO X cl (some e) (evalO C (.som r)) := by
  refine po_by (po_some h) fun σ H Q h => ?_
  obtain ⟨env, S, G, ι, rp, re, po⟩ := h
  rw [evalO] at po
  refine ⟨env, S, G, ι, rp, re, ?_⟩
  refine Post.seq po fun x S1 v H1 G1 ι1 e1 rp1 ex1 r1 po1 => ?_
  cases x with
  | l n => exact po1.elim
  | p d => cases d with
    | int i => cases r1; exact ⟨i, rfl, po1 _ H1 G1 ι1 rp1 ex1 rfl⟩
    | _ => exact po1.elim
theorem cut_rep {K : PySem.W.Frag} {G : Hp} {xs : List D} {vs : List V} (h : Reps K cl G xs vs) (lo hi : Option Int) : Reps K cl G (cutD xs lo hi) (cutV vs lo hi) := by
  unfold cutD cutV
  rw [h.length]
  exact Reps.of (Paired.take (Paired.drop h.pair _) _)
theorem cut_len {α : Type} (xs : List α) (lo hi : Option Int) (h : HT.sIx xs.length 0 lo = 0 ∧ HT.sIx xs.length xs.length hi = xs.length) : cutD xs lo hi = xs := by
  unfold cutD
  rw [h.1, h.2]
  simp
theorem cut_map {α β : Type} (f : α → β) (xs : List α) (lo hi : Option Int) : (cutD xs lo hi).map f = cutD (xs.map f) lo hi := by
  unfold cutD
  simp
theorem reps_ints {K : PySem.W.Frag} {G : Hp} : ∀ ns : List Int, Reps K cl G (ns.map D.int) (ns.map V.int)
  | [] => rfl
  | n :: ns => ⟨.int n, _, rfl, rfl, reps_ints ns⟩
theorem reps_strs {K : PySem.W.Frag} {G : Hp} : ∀ ns : List Str, Reps K cl G (ns.map D.str) (ns.map V.str)
  | [] => rfl
  | n :: ns => ⟨.str n, _, rfl, rfl, reps_strs ns⟩
def rSlX (K : PySem.W.Frag) : V → Option Int → Option Int → Hp → VK → Prop := fun x lo hi H Q => rSlL K x lo hi H Q ∨ rSlA K x lo hi H Q
theorem post_sl {K : PySem.W.Frag} {G H : Hp} {ι : List Addr} {S : Sto} {x : SV} {v : V} {l h : Option Int} {Q : VK} (rp : RpH K cl S G ι H) (rx : RepS K cl G ι x v) (po : Post K cl (RSv K cl) G ι H Q (match rd S x with
    | some dx => (ofO (slD dx l h) S).bind fun d S => .ok (.p d) S
    | _ => .bad)) : rSlX K v l h H Q := by
  cases qx : rd S x with
  | none => simp only [qx] at po; exact po.elim
  | some dx =>
    simp only [qx] at po
    obtain ⟨d, qd, po⟩ := post_ofO po
    have rx' := rd_rep rp rx qx
    have lay : ∀ p o, H p = none → Rep K cl (upd G p o) d (.ref p) → Q (.ref p) (upd H p o) := fun p o hp hv => po _ _ _ _ (rp.lay hp) (Ext.lay rp.gs hp) hv
    have keep : ∀ {p : Addr} {o : HO}, H p = none → Same G (upd G p o) := fun hp => (Ext.lay (ι := ι) rp.gs hp).g
    cases dx with
    | lst xs =>
      cases qd
      obtain ⟨a, vs, rfl, ha, pa⟩ := rx'
      exact .inl ⟨a, vs, rfl, .inl (.inl ha), fun p hp => lay p _ hp ⟨p, _, rfl, upd_same, cut_rep (pa.up' (keep hp)) _ _⟩⟩
    | tup xs =>
      cases qd
      obtain ⟨a, vs, rfl, ha, pa⟩ := RepT.sq rp.gs rx'
      refine .inr ⟨a, vs, rfl, ha, fun hw => ?_, fun hw p hp => lay p _ hp ⟨p, _, rfl, .inl (.inl upd_same), cut_rep (pa.up' (keep hp)) _ _⟩⟩
      refine po _ H G ι rp .refl ?_
      rw [← pa.length] at hw
      rw [cut_len xs _ _ hw]
      exact rx'
    | scr ns =>
      cases qd
      obtain ⟨a, rfl, ha⟩ := rx'
      refine .inl ⟨a, _, rfl, rp.gs.seq ha, fun p hp => lay p _ hp ⟨p, _, rfl, upd_same, ?_⟩⟩
      rw [cut_map]
      refine cut_rep ?_ _ _
      exact reps_ints ns
    | _ => cases qd
theorem se_sl {lo hi : Option Expr} {rl rh : RO} {p2 : Pos} (ha : SE X cl a (evalE C ra)) (hl : SO X cl lo (evalO C rl)) (hh : SO X cl hi (evalO C rh)) : SE X cl (.Subscript a (.Slice lo hi none p2) pos) (evalE C (.sl ra rl rh)) := by
  refine pe_by (pe_slice (r := rSlX X.K) (sl_list.or sl_tupA) ha hl hh) fun σ H Q h => ?_
  obtain ⟨env, S, G, ι, rp, re, po⟩ := h
  rw [evalE] at po
  refine ⟨env, S, G, ι, rp, re, ?_⟩
  refine Post.seq po fun x S1 v H1 G1 ι1 e1 rp1 ex1 r1 po1 => ?_
  refine ⟨env, S1, G1, ι1, rp1, re.up ex1, ?_⟩
  refine Post.seq (Post.up po1 ex1 (fun _ _ _ _ _ h => h)) fun l S2 l' H2 G2 ι2 e2 rp2 ex2 r2 po2 => ?_
  refine ⟨env, S2, G2, ι2, rp2, (re.up ex1).up ex2, ?_⟩
  refine Post.seq (Post.up po2 ex2 (fun _ _ _ _ _ h => h)) fun h S3 h' H3 G3 ι3 e3 rp3 ex3 r3 po3 => ?_
  cases r2
  cases r3
  exact post_sl rp3 (RepS.up (RepS.up r1 ex2) ex3) (Post.up po3 ex3 (fun _ _ _ _ _ h => h))
/-! built-in functions -/
def rBi (K : PySem.W.Frag) (cl : Nat → Addr) (g : List D → Option D) : List V → Hp → VK → Prop := fun vs H Q => ∃ S G ι ds d, RpH K cl S G ι H ∧ Paired (RdV K cl G H) ds vs ∧ g ds = some d ∧
  ∀ v H' G' ι', RpH K cl S G' ι' H' → Ext G H ι G' H' ι' → Rep K cl G' d v → Q v H'
def rBN (K : PySem.W.Frag) (cl : Nat → Addr) (g : List D → Option D) : List V → Hp → VK → Prop := fun vs H Q => ∃ S G ι ds d, RpH K cl S G ι H ∧ Paired (RdV K cl G H) ds vs ∧ g ds = some d ∧
  ∀ v H' G' ι', RpH K cl S G' ι' H' → Ext G H ι G' H' ι' → RNw K cl H G' H' ι' (.p d) v → Q v H'
theorem call_by {f : Value} {r r' : List V → Hp → VK → Prop} (h : CallR X f r') (k : ∀ vs H Q, r vs H Q → r' vs H Q) : CallR X f r := fun pins s σ H xs us Q I rv q => h pins s σ H xs us Q I rv (k _ _ _ q)
theorem ints_of {K : PySem.W.Frag} {G : Hp} : ∀ {xs : List D} {ns : List Int} {vs : List V}, intsD xs = some ns → Reps K cl G xs vs → vs = ns.map V.int
  | [], _, _, e, h => by cases e; cases (show _ = [] from h); rfl
  | x :: xs, ns, _, e, h => by
    obtain ⟨v, r, rfl, h2, h3⟩ := h
    cases x with
    | int i =>
      obtain ⟨l, e1, rfl⟩ := Option.map_eq_some_iff.mp (show (intsD xs).map (i :: ·) = some ns from e)
      cases h2
      rw [ints_of e1 h3]
      rfl
    | _ => cases e
theorem strs_of {K : PySem.W.Frag} {G : Hp} : ∀ {xs : List D} {ns : List Str} {vs : List V}, strsD xs = some ns → Reps K cl G xs vs → vs = ns.map V.str
  | [], _, _, e, h => by cases e; cases (show _ = [] from h); rfl
  | x :: xs, ns, _, e, h => by
    obtain ⟨v, r, rfl, h2, h3⟩ := h
    cases x with
    | str i =>
      obtain ⟨l, e1, rfl⟩ := Option.map_eq_some_iff.mp (show (strsD xs).map (i :: ·) = some ns from e)
      cases h2
      rw [strs_of e1 h3]
      rfl
    | _ => cases e
theorem bls_of {K : PySem.W.Frag} {G : Hp} : ∀ {xs : List D} {ns : List Bool} {vs : List V}, blsD xs = some ns → Reps K cl G xs vs → vs = ns.map V.bl
  | [], _, _, e, h => by cases e; cases (show _ = [] from h); rfl
  | x :: xs, ns, _, e, h => by
    obtain ⟨v, r, rfl, h2, h3⟩ := h
    cases x with
    | bl i =>
      obtain ⟨l, e1, rfl⟩ := Option.map_eq_some_iff.mp (show (blsD xs).map (i :: ·) = some ns from e)
      cases h2
      rw [bls_of e1 h3]
      rfl
    | _ => cases e
theorem maxI_mem : ∀ (r : List Int) (m : Int), maxI m r ∈ m :: r ∧ ∀ y ∈ m :: r, y ≤ maxI m r
  | [], m => ⟨by simp [maxI], by simp [maxI]⟩
  | x :: r, m => by
    by_cases hh : m < x
    · obtain ⟨h1, h2⟩ := maxI_mem r x
      unfold maxI
      rw [if_pos hh]
      have h0 := h2 x (List.mem_cons_self)
      refine ⟨List.mem_cons_of_mem _ h1, fun y hy => ?_⟩
      rcases List.mem_cons.mp hy with z | z
      · subst z; omega
      · exact h2 y z
    · obtain ⟨h1, h2⟩ := maxI_mem r m
      unfold maxI
      rw [if_neg hh]
      have h0 := h2 m (List.mem_cons_self)
      refine ⟨?_, fun y hy => ?_⟩
      · rcases List.mem_cons.mp h1 with z | z
        · rw [z]; exact List.mem_cons_self
        · exact List.mem_cons_of_mem _ (List.mem_cons_of_mem _ z)
      · rcases List.mem_cons.mp hy with z | z
        · subst z; exact h0
        · rcases List.mem_cons.mp z with z | z
          · subst z; omega
          · exact h2 y (List.mem_cons_of_mem _ z)
theorem minI_mem : ∀ (r : List Int) (m : Int), minI m r ∈ m :: r ∧ ∀ y ∈ m :: r, minI m r ≤ y
  | [], m => ⟨by simp [minI], by simp [minI]⟩
  | x :: r, m => by
    by_cases hh : x < m
    · obtain ⟨h1, h2⟩ := minI_mem r x
      unfold minI
      rw [if_pos hh]
      have h0 := h2 x (List.mem_cons_self)
      refine ⟨List.mem_cons_of_mem _ h1, fun y hy => ?_⟩
      rcases List.mem_cons.mp hy with z | z
      · subst z; omega
      · exact h2 y z
    · obtain ⟨h1, h2⟩ := minI_mem r m
      unfold minI
      rw [if_neg hh]
      have h0 := h2 m (List.mem_cons_self)
      refine ⟨?_, fun y hy => ?_⟩
      · rcases List.mem_cons.mp h1 with z | z
        · rw [z]; exact List.mem_cons_self
        · exact List.mem_cons_of_mem _ (List.mem_cons_of_mem _ z)
      · rcases List.mem_cons.mp hy with z | z
        · subst z; exact h0
        · rcases List.mem_cons.mp z with z | z
          · subst z; omega
          · exact h2 y (List.mem_cons_of_mem _ z)
theorem pair1 {F : D → V → Prop} {ds : List D} {v : V} (h : Paired F ds [v]) : ∃ d, ds = [d] ∧ F d v := by
  cases h with
  | cons h1 h2 => cases h2; exact ⟨_, rfl, h1⟩
theorem pairL1 {F : D → V → Prop} {d : D} {vs : List V} (h : Paired F [d] vs) : ∃ v, vs = [v] ∧ F d v := by
  cases h with
  | cons h1 h2 => cases h2; exact ⟨_, rfl, h1⟩
theorem pairL2 {F : D → V → Prop} {d e : D} {vs : List V} (h : Paired F [d, e] vs) : ∃ v w, vs = [v, w] ∧ F d v ∧ F e w := by
  cases h with
  | cons h1 h2 => obtain ⟨w, rfl, h3⟩ := pairL1 h2; exact ⟨_, _, rfl, h1, h3⟩
theorem bi_len : CallR X (.builtin "len") (rBi X.K cl (biD .len)) := by
  refine call_by call_len fun vs H Q h => ?_
  obtain ⟨S, G, ι, ds, d, rp, pr, e, q⟩ := h
  match ds, pr, e with
  | [.lst xs], pr, e =>
    obtain ⟨v, rfl, a, ws, rfl, h1, h2⟩ := pairL1 pr
    cases e
    exact ⟨_, xs.length, rfl, .inl ⟨ws, .inl (.inl h1), h2.length⟩, q _ H G ι rp .refl rfl⟩
  | [.tup xs], pr, e =>
    obtain ⟨v, rfl, h0⟩ := pairL1 pr
    obtain ⟨a, ws, rfl, h1, h2⟩ := RepT.sq rp.gs h0
    cases e
    exact ⟨_, xs.length, rfl, .inr ⟨ws, h1, h2.length⟩, q _ H G ι rp .refl rfl⟩
  | [.scr xs], pr, e =>
    obtain ⟨v, rfl, a, rfl, h1⟩ := pairL1 pr
    cases e
    exact ⟨_, xs.length, rfl, .inl ⟨_, rp.gs.seq h1, by simp⟩, q _ H G ι rp .refl rfl⟩
  | [.str x], pr, e =>
    obtain ⟨v, rfl, h0⟩ := pairL1 pr
    cases h0
    have e : (if x.length ≤ line then some (D.int x.length) else none) = some d := e
    split at e
    · cases e
      exact ⟨_, x.length, rfl, ⟨by rw [sline]; assumption, rfl⟩, q _ H G ι rp .refl rfl⟩
    · cases e
theorem bi_int : CallR X (.type "int") (rBi X.K cl (biD .int)) := by
  intro pins s σ H xs us Q I rv h
  obtain ⟨S, G, ι, ds, d, rp, pr, e, q⟩ := h
  match ds, pr, e with
  | [.int i], pr, e =>
    obtain ⟨v, rfl, h0⟩ := pairL1 pr
    cases h0; cases e
    exact call_int1 pins s σ H _ us Q I rv (.inl ⟨i, rfl, q _ H G ι rp .refl rfl⟩)
  | [.bl i], pr, e =>
    obtain ⟨v, rfl, h0⟩ := pairL1 pr
    cases h0; cases e
    exact call_int1 pins s σ H _ us Q I rv (.inr ⟨i, rfl, q _ H G ι rp .refl rfl⟩)
  | [.str x], pr, e =>
    obtain ⟨v, rfl, h0⟩ := pairL1 pr
    cases h0
    have e : (if x.length ≤ 640 then (PySem.intText? x).map D.int else none) = some d := e
    split at e
    · obtain ⟨n, h1, rfl⟩ := Option.map_eq_some_iff.mp e
      exact call_int_str pins s σ H _ us Q I rv ⟨x, n, rfl, h1, by assumption, q _ H G ι rp .refl rfl⟩
    · cases e
theorem bi_str : CallR X (.type "str") (rBi X.K cl (biD .str)) := by
  intro pins s σ H xs us Q I rv h
  obtain ⟨S, G, ι, ds, d, rp, pr, e, q⟩ := h
  match ds, pr, e with
  | [.int i], pr, e =>
    obtain ⟨v, rfl, h0⟩ := pairL1 pr
    cases h0
    have e : (if i.natAbs.log2 < 1920 then some (D.str (toString i)) else none) = some d := e
    split at e
    · cases e
      exact call_str_int pins s σ H _ us Q I rv ⟨i, rfl, by assumption, q _ H G ι rp .refl rfl⟩
    · cases e
  | [.str x], pr, e =>
    obtain ⟨v, rfl, h0⟩ := pairL1 pr
    cases h0; cases e
    exact SkE.call_str_str pins s σ H _ us Q I rv ⟨x, rfl, q _ H G ι rp .refl rfl⟩
theorem bi_abs : CallR X (.builtin "abs") (rBi X.K cl (biD .abs)) := by
  refine call_by call_abs fun vs H Q h => ?_
  obtain ⟨S, G, ι, ds, d, rp, pr, e, q⟩ := h
  match ds, pr, e with
  | [.int i], pr, e =>
    obtain ⟨v, rfl, h0⟩ := pairL1 pr
    cases h0; cases e
    exact ⟨i, rfl, q _ H G ι rp .refl rfl⟩
theorem bi_bool : CallR X (.type "bool") (rBi X.K cl (biD .bool)) := by
  refine call_by call_bool1 fun vs H Q h => ?_
  obtain ⟨S, G, ι, ds, d, rp, pr, e, q⟩ := h
  match ds, pr, e with
  | [.bl i], pr, e =>
    obtain ⟨v, rfl, h0⟩ := pairL1 pr
    cases h0; cases e
    exact .inr ⟨i, rfl, q _ H G ι rp .refl rfl⟩
theorem bi_max (hc : X.calm = true) : CallR X (.builtin "max") (rBi X.K cl (biD .max)) := by
  intro pins s σ H xs us Q I rv h
  obtain ⟨S, G, ι, ds, d, rp, pr, e, q⟩ := h
  match ds, pr, e with
  | [.int i, .int j], pr, e =>
    obtain ⟨v, w, rfl, h0, h1⟩ := pairL2 pr
    cases h0; cases h1; cases e
    exact call_max2 hc pins s σ H _ us Q I rv ⟨i, j, rfl, q _ H G ι rp .refl rfl⟩
  | [.lst ys], pr, e =>
    obtain ⟨v, rfl, a, ws, rfl, h1, h2⟩ := pairL1 pr
    have e : (match intsD ys with | some (i :: r) => some (D.int (maxI i r)) | _ => none) = some d := e
    split at e
    · rename_i i r hi
      cases e
      have hw := ints_of hi h2
      subst hw
      refine cr_max hc pins s σ H _ us Q I rv ⟨a, i :: r, rfl, .inl (.inl h1), by simp, fun m h3 h4 => ?_⟩
      obtain ⟨h5, h6⟩ := maxI_mem r i
      have : m = maxI i r := Int.le_antisymm (h6 m h3) (h4 _ h5)
      rw [this]
      exact q _ H G ι rp .refl rfl
    · cases e
theorem bi_min (hc : X.calm = true) : CallR X (.builtin "min") (rBi X.K cl (biD .min)) := by
  intro pins s σ H xs us Q I rv h
  obtain ⟨S, G, ι, ds, d, rp, pr, e, q⟩ := h
  match ds, pr, e with
  | [.int i, .int j], pr, e =>
    obtain ⟨v, w, rfl, h0, h1⟩ := pairL2 pr
    cases h0; cases h1; cases e
    exact call_min2 hc pins s σ H _ us Q I rv ⟨i, j, rfl, q _ H G ι rp .refl rfl⟩
  | [.lst ys], pr, e =>
    obtain ⟨v, rfl, a, ws, rfl, h1, h2⟩ := pairL1 pr
    have e : (match intsD ys with | some (i :: r) => some (D.int (minI i r)) | _ => none) = some d := e
    split at e
    · rename_i i r hi
      cases e
      have hw := ints_of hi h2
      subst hw
      refine cr_min hc pins s σ H _ us Q I rv ⟨a, i :: r, rfl, .inl (.inl h1), by simp, fun m h3 h4 => ?_⟩
      obtain ⟨h5, h6⟩ := minI_mem r i
      have : m = minI i r := Int.le_antisymm (h4 _ h5) (h6 m h3)
      rw [this]
      exact q _ H G ι rp .refl rfl
    · cases e
theorem bi_sum (hc : X.calm = true) : CallR X (.builtin "sum") (rBi X.K cl (biD .sum)) := by
  refine call_by (cr_sum hc) fun vs H Q h => ?_
  obtain ⟨S, G, ι, ds, d, rp, pr, e, q⟩ := h
  match ds, pr, e with
  | [.lst ys], pr, e =>
    obtain ⟨v, rfl, a, ws, rfl, h1, h2⟩ := pairL1 pr
    obtain ⟨ns, hi, rfl⟩ := Option.map_eq_some_iff.mp (show (intsD ys).map (fun l => D.int l.sum) = some d from e)
    have hw := ints_of hi h2
    subst hw
    exact ⟨a, ns, rfl, .inl (.inl h1), q _ H G ι rp .refl rfl⟩
theorem bi_all (hc : X.calm = true) : CallR X (.builtin "all") (rBi X.K cl (biD .all)) := by
  refine call_by (cr_all hc) fun vs H Q h => ?_
  obtain ⟨S, G, ι, ds, d, rp, pr, e, q⟩ := h
  match ds, pr, e with
  | [.lst ys], pr, e =>
    obtain ⟨v, rfl, a, ws, rfl, h1, h2⟩ := pairL1 pr
    obtain ⟨ns, hi, rfl⟩ := Option.map_eq_some_iff.mp (show (blsD ys).map (fun l => D.bl (l.all id)) = some d from e)
    have hw := bls_of hi h2
    subst hw
    exact ⟨a, ns, rfl, .inl (.inl h1), q _ H G ι rp .refl rfl⟩
theorem bi_any (hc : X.calm = true) : CallR X (.builtin "any") (rBi X.K cl (biD .any)) := by
  refine call_by (cr_any hc) fun vs H Q h => ?_
  obtain ⟨S, G, ι, ds, d, rp, pr, e, q⟩ := h
  match ds, pr, e with
  | [.lst ys], pr, e =>
    obtain ⟨v, rfl, a, ws, rfl, h1, h2⟩ := pairL1 pr
    obtain ⟨ns, hi, rfl⟩ := Option.map_eq_some_iff.mp (show (blsD ys).map (fun l => D.bl (l.any id)) = some d from e)
    have hw := bls_of hi h2
    subst hw
    exact ⟨a, ns, rfl, .inl (.inl h1), q _ H G ι rp .refl rfl⟩
theorem bi_tuple : CallR X (.type "tuple") (rBi X.K cl (biD .tuple)) := by
  refine call_by call_tuple_of fun vs H Q h => ?_
  obtain ⟨S, G, ι, ds, d, rp, pr, e, q⟩ := h
  match ds, pr, e with
  | [.lst ys], pr, e =>
    obtain ⟨v, rfl, a, ws, rfl, h1, h2⟩ := pairL1 pr
    cases e
    exact ⟨a, ws, rfl, .inl ⟨.inl (.inl h1), fun p hp => q _ _ _ ι (rp.lay hp) (Ext.lay rp.gs hp) ⟨p, ws, rfl, .inl (.inl upd_same), Reps.up' h2 (Ext.lay (ι := ι) rp.gs hp).g⟩⟩⟩
  | [.tup ys], pr, e =>
    obtain ⟨v, rfl, h0⟩ := pairL1 pr
    obtain ⟨a, ws, rfl, h1, h2⟩ := RepT.sq rp.gs h0
    cases e
    exact ⟨a, ws, rfl, .inr ⟨h1, q _ H G ι rp .refl h0⟩⟩
theorem bn_list : CallR X (.type "list") (rBN X.K cl (biD .list)) := by
  refine call_by call_list_of fun vs H Q h => ?_
  obtain ⟨S, G, ι, ds, d, rp, pr, e, q⟩ := h
  match ds, pr, e with
  | [.lst ys], pr, e =>
    obtain ⟨v, rfl, a, ws, rfl, h1, h2⟩ := pairL1 pr
    cases e
    exact ⟨a, ws, rfl, .inl (.inl (.inl h1)), fun p hp => q _ _ G ι (rp.layH hp) (Ext.layH hp) (rnw_lay (ι0 := ι) rp (fun _ z => z) hp h2)⟩
  | [.tup ys], pr, e =>
    obtain ⟨v, rfl, h0⟩ := pairL1 pr
    obtain ⟨a, ws, rfl, h1, h2⟩ := RepT.sq rp.gs h0
    cases e
    exact ⟨a, ws, rfl, .inr h1, fun p hp => q _ _ G ι (rp.layH hp) (Ext.layH hp) (rnw_lay (ι0 := ι) rp (fun _ z => z) hp h2)⟩
theorem srtI_perm : ∀ l : List Int, (srtI l).Perm l ∧ (srtI l).Pairwise (· ≤ ·)
  | [] => ⟨.nil, .nil⟩
  | x :: r => by
    obtain ⟨h1, h2⟩ := srtI_perm r
    have ins : ∀ l : List Int, l.Pairwise (· ≤ ·) → (insI x l).Perm (x :: l) ∧ (insI x l).Pairwise (· ≤ ·) := by
      intro l
      induction l with
      | nil => intro _; exact ⟨.refl _, by simp [insI]⟩
      | cons y l ih =>
        intro hp
        obtain ⟨h3, h4⟩ := List.pairwise_cons.mp hp
        unfold insI
        by_cases hh : y < x
        · rw [if_pos hh]
          obtain ⟨h5, h6⟩ := ih h4
          refine ⟨(h5.cons y).trans (.swap x y l), List.pairwise_cons.mpr ⟨fun z hz => ?_, h6⟩⟩
          rcases List.mem_cons.mp (h5.mem_iff.mp hz) with e | e
          · subst e; omega
          · exact h3 z e
        · rw [if_neg hh]
          refine ⟨.refl _, List.pairwise_cons.mpr ⟨fun z hz => ?_, hp⟩⟩
          rcases List.mem_cons.mp hz with e | e
          · subst e; omega
          · have := h3 z e; omega
    obtain ⟨h3, h4⟩ := ins _ h2
    exact ⟨h3.trans (h1.cons x), h4⟩
theorem srtI_eq {l l' : List Int} (h : l'.Perm l) (hp : l'.Pairwise (· ≤ ·)) : l' = srtI l :=
  List.Perm.eq_of_pairwise (le := (· ≤ ·)) (fun a b _ _ h1 h2 => Int.le_antisymm h1 h2) hp (srtI_perm l).2 (h.trans (srtI_perm l).1.symm)
/-! sorted texts -/
abbrev leS (a b : Str) : Prop := ltCps b.cps.toList a.cps.toList = false
theorem lt_irr : ∀ a : List Nat, ltCps a a = false
  | [] => rfl
  | x :: a => by simp [ltCps, lt_irr a]
theorem lt_tri : ∀ a b : List Nat, ltCps a b = false → ltCps b a = false → a = b
  | [], [], _, _ => rfl
  | [], _ :: _, h, _ => by simp [ltCps] at h
  | _ :: _, [], _, h => by simp [ltCps] at h
  | x :: a, y :: b, h1, h2 => by
    simp [ltCps] at h1 h2
    have e : x = y := by omega
    subst e
    rw [lt_tri a b (h1.2 rfl) (h2.2 rfl)]
theorem lt_neg_trans : ∀ a b c : List Nat, ltCps b a = false → ltCps c b = false → ltCps c a = false
  | [], _, [], _, _ => rfl
  | [], [], _ :: _, _, h => by simp [ltCps]
  | [], _ :: _, _ :: _, _, _ => by simp [ltCps]
  | _ :: _, [], _, h, _ => by simp [ltCps] at h
  | _ :: _, _ :: _, [], _, h => by simp [ltCps] at h
  | x :: a, y :: b, z :: c, h1, h2 => by
    simp [ltCps] at h1 h2 ⊢
    refine ⟨by omega, fun e => ?_⟩
    have e1 : y = x := by omega
    have e2 : z = y := by omega
    exact lt_neg_trans a b c (h1.2 e1) (h2.2 e2)
theorem rising_pw : ∀ (r : List Str) (p : Str), risingS p r = true → (p :: r).Pairwise leS
  | [], p, _ => by simp
  | x :: r, p, h => by
    obtain ⟨h1, h2⟩ := Bool.and_eq_true_iff.mp (show (!ltCps x.cps.toList p.cps.toList && risingS x r) = true from h)
    have ih := rising_pw r x h2
    have h1 : leS p x := by simpa using h1
    refine List.pairwise_cons.mpr ⟨fun y hy => ?_, ih⟩
    rcases List.mem_cons.mp hy with e | e
    · subst e; exact h1
    · exact lt_neg_trans _ _ _ h1 ((List.pairwise_cons.mp ih).1 y e)
theorem srtS_perm : ∀ l : List Str, (srtS l).Perm l ∧ (srtS l).Pairwise leS
  | [] => ⟨.nil, .nil⟩
  | x :: r => by
    obtain ⟨h1, h2⟩ := srtS_perm r
    have ins : ∀ l : List Str, l.Pairwise leS → (insS x l).Perm (x :: l) ∧ (insS x l).Pairwise leS := by
      intro l
      induction l with
      | nil => intro _; exact ⟨.refl _, by simp [insS]⟩
      | cons y l ih =>
        intro hp
        obtain ⟨h3, h4⟩ := List.pairwise_cons.mp hp
        unfold insS
        by_cases hh : ltCps y.cps.toList x.cps.toList = true
        · rw [if_pos hh]
          obtain ⟨h5, h6⟩ := ih h4
          have yx : leS y x := by
            cases q : ltCps x.cps.toList y.cps.toList with
            | false => exact q
            | true =>
              have := lt_neg_trans x.cps.toList x.cps.toList x.cps.toList (lt_irr _) (lt_irr _)
              exact absurd hh (by
                have asym : ∀ a b : List Nat, ltCps a b = true → ltCps b a = true → False := by
                  intro a
                  induction a with
                  | nil => intro b h1 h2; cases b <;> simp [ltCps] at h1 h2
                  | cons u a iha =>
                    intro b h1 h2
                    cases b with
                    | nil => simp [ltCps] at h1
                    | cons v b =>
                      simp [ltCps] at h1 h2
                      rcases h1 with h1 | ⟨h1, h1'⟩
                      · rcases h2 with h2 | ⟨h2, _⟩ <;> omega
                      · rcases h2 with h2 | ⟨_, h2'⟩
                        · omega
                        · exact iha b h1' h2'
                exact fun z => asym _ _ z q)
          refine ⟨(h5.cons y).trans (.swap x y l), List.pairwise_cons.mpr ⟨fun z hz => ?_, h6⟩⟩
          rcases List.mem_cons.mp (h5.mem_iff.mp hz) with e | e
          · subst e; exact yx
          · exact h3 z e
        · rw [if_neg hh]
          have xy : leS x y := by simpa using hh
          refine ⟨.refl _, List.pairwise_cons.mpr ⟨fun z hz => ?_, hp⟩⟩
          rcases List.mem_cons.mp hz with e | e
          · subst e; exact xy
          · exact lt_neg_trans _ _ _ xy (h3 z e)
    obtain ⟨h3, h4⟩ := ins _ h2
    exact ⟨h3.trans (h1.cons x), h4⟩
theorem srtS_eq {l l' : List Str} (h : l'.Perm l) (hp : sortedS l' = true) : l' = srtS l := by
  have pw : l'.Pairwise leS := by
    cases l' with
    | nil => exact .nil
    | cons x r => exact rising_pw r x hp
  refine List.Perm.eq_of_pairwise (le := leS) (fun a b _ _ h1 h2 => ?_) pw (srtS_perm l).2 (h.trans (srtS_perm l).1.symm)
  have : a.cps = b.cps := Array.toList_inj.mp (lt_tri _ _ h2 h1)
  cases a; cases b
  simp at this
  rw [this]
theorem bn_sorted : CallR X (.builtin "sorted") (rBN X.K cl (biD .sorted)) := by
  intro pins s σ H xs us Q I rv h
  obtain ⟨S, G, ι, ds, d, rp, pr, e, q⟩ := h
  match ds, pr, e with
  | [.lst ys], pr, e =>
    obtain ⟨v, rfl, a, ws, rfl, h1, h2⟩ := pairL1 pr
    have e : (if ys.length < 64 then (match strsD ys with | some l => some (D.lst ((srtS l).map .str)) | none => (intsD ys).map fun l => D.lst ((srtI l).map .int)) else none) = some d := e
    split at e
    · rename_i h64
      cases qs : strsD ys with
      | some l =>
        rw [qs] at e
        cases e
        have hw := strs_of qs h2
        subst hw
        have hl : l.length < 64 := by have := h2.length; rw [List.length_map] at this; omega
        refine cr_sortedS pins s σ H _ us Q I rv ⟨a, l, rfl, .inl (.inl h1), hl, fun zs p hp hs hn => ?_⟩
        rw [srtS_eq hp hs]
        exact q _ _ G ι (rp.layH hn) (Ext.layH hn) (rnw_lay (ι0 := ι) rp (fun _ z => z) hn (reps_strs _))
      | none =>
        rw [qs] at e
        obtain ⟨l, qi, rfl⟩ := Option.map_eq_some_iff.mp e
        have hw := ints_of qi h2
        subst hw
        have hl : l.length < 64 := by have := h2.length; rw [List.length_map] at this; omega
        refine cr_sorted pins s σ H _ us Q I rv ⟨a, l, rfl, .inl (.inl h1), hl, fun zs p hp hs hn => ?_⟩
        rw [srtI_eq hp hs]
        exact q _ _ G ι (rp.layH hn) (Ext.layH hn) (rnw_lay (ι0 := ι) rp (fun _ z => z) hn (reps_ints _))
    · cases e
theorem RepK.merge {K : PySem.W.Frag} {G : Hp} : ∀ {more : List (D × D)} {mk : List (Key × V)} {kvs : List (D × D)} {ks : List (Key × V)}, RepK K cl G more mk → RepK K cl G kvs ks → RepK K cl G (mergeD kvs more) (mergeK ks mk)
  | [], _, _, _, h, h0 => by cases (show _ = [] from h); exact h0
  | (k, d) :: r, _, kvs, ks, h, h0 => by
    obtain ⟨κ, v, s, rfl, h2, h3, h4⟩ := h
    exact RepK.merge (more := r) (mk := s) (kvs := putD k d kvs) (ks := putK ks κ v) h4 (RepK.put h2 h3 h0)
theorem dictP_of {K : PySem.W.Frag} {G H : Hp} (gs : Same G H) : ∀ {xs : List D} {l : List (D × D)} {vs : List V}, dictP xs = some l → Reps K cl G xs vs →
    ∃ (ps : List Addr) (kvs : List (Key × V)), vs = ps.map V.ref ∧ Paired (fun p kv => SqT K H p [kV kv.1, kv.2]) ps kvs ∧ RepK K cl G l kvs
  | [], _, _, e, h => by cases e; cases (show _ = [] from h); exact ⟨[], [], rfl, .nil, rfl⟩
  | x :: xs, l, _, e, h => by
    obtain ⟨v, r, rfl, h2, h3⟩ := h
    match x, e, h2 with
    | .tup [k, d], e, h2 =>
      have e : (if keyD k = true then (dictP xs).map ((k, d) :: ·) else none) = some l := e
      split at e
      · rename_i hk
        obtain ⟨l', e1, rfl⟩ := Option.map_eq_some_iff.mp e
        obtain ⟨ps, kvs, e2, h4, h5⟩ := dictP_of gs e1 h3
        obtain ⟨a, vs, e3, h6, w, r', e4, h7, w', r'', e5, h8, e6⟩ := h2
        obtain ⟨κ, hκ⟩ := keyRep.of hk
        have : w = kV κ := hκ.kV h7
        subst e2 e3 e4 e5 e6 this
        exact ⟨a :: ps, (κ, w') :: kvs, rfl, .cons (SqT.up h6 gs) h4, κ, w', kvs, rfl, hκ, h8, h5⟩
      · cases e
theorem bn_dict (hc : X.calm = true) : CallR X (.type "dict") (rBN X.K cl (biD .dict)) := by
  refine call_by (call_dictP hc) fun vs H Q h => ?_
  obtain ⟨S, G, ι, ds, d, rp, pr, e, q⟩ := h
  match ds, pr, e with
  | [.lst ys], pr, e =>
    obtain ⟨v, rfl, a, ws, rfl, h1, h2⟩ := pairL1 pr
    obtain ⟨l, e1, rfl⟩ := Option.map_eq_some_iff.mp (show (dictP ys).map (fun l => D.dct (mergeD [] l)) = some d from e)
    obtain ⟨ps, kvs, rfl, h4, h5⟩ := dictP_of rp.gs e1 h2
    refine ⟨a, ps, kvs, rfl, .inl (.inl h1), h4, fun p hp => q _ _ G ι (rp.layH hp) (Ext.layH hp) (rnw_layD (ι0 := ι) rp (fun _ z => z) hp (RepK.merge h5 rfl))⟩
theorem pairs_reads {P : Program} {w : World} {K : PySem.W.Frag} {G : Hp} {h : Heap} : ∀ {kvs : List (D × D)} {ks : List (Key × V)} {vs : List (Key × Value)} {es : List DictEntry} {l : List (PyData × PyData)}, RepK K cl G kvs ks → KV ks vs → Pairs (mixKind P w) es vs → flatKV kvs = some l →
    ReadsAll h (es.map (·.key)) (l.map (·.1)) [] ∧ ReadsAll h (es.map (·.val)) (l.map (·.2)) []
  | [], _, _, _, _, h1, h2, h3, e => by
    cases e
    cases (show _ = [] from h1)
    cases h2
    cases h3
    exact ⟨.nil, .nil⟩
  | (k, d) :: r, _, _, _, l, h1, h2, h3, e => by
    obtain ⟨κ, v, s, rfl, a1, a2, a3⟩ := h1
    cases h2 with
    | @cons _ q _ vs' rq rt =>
    obtain ⟨κ', u⟩ := q
    obtain ⟨e1, ru⟩ := rq
    cases h3 with
    | @cons en _ es' _ b1 b2 b3 =>
    have b2 : en.val = u := b2
    have e1 : κ = κ' := e1
    subst e1
    have key : ∀ (d1 : PyData) (d2 : PyData) (l' : List (PyData × PyData)), flatKV r = some l' → Reads h en.key d1 [] → Reads h en.val d2 [] → l = (d1, d2) :: l' → ReadsAll h ((en :: es').map (·.key)) (l.map (·.1)) [] ∧ ReadsAll h ((en :: es').map (·.val)) (l.map (·.2)) [] := fun d1 d2 l' f1 f2 f3 f4 => by
      subst f4
      obtain ⟨g1, g2⟩ := pairs_reads a3 rt b3 f1
      exact ⟨.cons f2 g1, .cons f3 g2⟩
    have kk : keyIs κ en.key = true := b1
    have rk : ∀ x, κ = .inr x → Reads h en.key (.str x) [] := fun x z => by
      subst z
      obtain ⟨i, t, z, _⟩ | ⟨x', t, z, hz⟩ := keyIs_shape kk
      · cases z
      · cases z; rw [hz]; exact .str _ _
    have ri : ∀ x, κ = .inl x → Reads h en.key (.int x) [] := fun x z => by
      subst z
      obtain ⟨i, t, z, hz⟩ | ⟨x', t, z, _⟩ := keyIs_shape kk
      · cases z; rw [hz]; exact .int _ _
      · cases z
    have us : ∀ x, v = .str x → Reads h en.val (.str x) [] := fun x z => by
      subst z
      obtain ⟨t, hz⟩ := (show ∃ t, u = Value.str x t from ru)
      rw [b2, hz]; exact .str _ _
    have ui : ∀ x, v = .int x → Reads h en.val (.int x) [] := fun x z => by
      subst z
      obtain ⟨t, hz⟩ := (show ∃ t, u = Value.int x t from ru)
      rw [b2, hz]; exact .int _ _
    cases k <;> cases d <;> first
      | (cases e; done)
      | (obtain ⟨l', f1, f2⟩ := Option.map_eq_some_iff.mp (show (flatKV r).map _ = some l from e)
         refine key _ _ l' f1 ?_ ?_ f2.symm
         · first | exact rk _ a1 | exact ri _ a1
         · first | exact us _ a2 | exact ui _ a2)
theorem bi_repr {k : Nat} (cA : Calm X.A) (hr : Room k X.A) : CallR X (.builtin "repr") (rBi X.K cl (biD .repr)) := by
  intro pins s σ H xs us Q I rv h
  obtain ⟨S, G, ι, ds, d, rp, pr, e, q⟩ := h
  match ds, pr, e with
  | [x], pr, e =>
    obtain ⟨v, rfl, h0⟩ := pairL1 pr
    by_cases hdc : ∃ kvs, x = .dct kvs
    · obtain ⟨kvs, rfl⟩ := hdc
      have e : (match flatKV kvs with | some l => if (PyData.dict l).showable = true ∧ (PyData.dict l).depth ≤ 64 ∧ (PyData.dict l).shown.length ≤ line then some (D.str (PyData.dict l).shown) else none | none => none) = some d := e
      cases ql : flatKV kvs with
      | none => rw [ql] at e; cases e
      | some l =>
        rw [ql] at e
        simp only at e
        split at e
        · rename_i hh
          cases e
          obtain ⟨u, rfl, ru⟩ := vals1 rv
          obtain ⟨a, ks, rfl, ha, hk⟩ := h0
          cases (show u = Value.ref a from ru)
          obtain ⟨_, hne, vs, kv, o, es, ep, g1, g2, g3, g4, g5, g6⟩ := (show ObjOk X.prog X.w H s.heap a (.dK ks) from I.hok a _ ha)
          obtain ⟨r1, r2⟩ := pairs_reads (h := s.heap) hk kv g5 ql
          have rd : Reads s.heap (.ref a) (.dict l) [a] := .dict g1 g2.1 g3 r1 r2
          have hun := hr.un
          have hz : (PyData.dict l).shown.length ≤ sizeLine := by rw [sline]; exact hh.2.2
          refine repr_of_reads' rd hh.1 (fun _ => ?_) cA (by have := hh.2.1; omega) (fun _ _ z => z) (fun h' u tk hk => ⟨.str _, H, I.kept hk, ⟨_, rfl⟩, q _ H G ι rp .refl rfl⟩) hz
          intro hm
          have := List.mem_singleton.mp hm
          rw [← this] at hne
          simp at hne
        · cases e
    have e : (match x.py with | some p => if SeqAt.shaped p = true ∧ p.showable = true ∧ p.shown.length ≤ line then some (D.str p.shown) else none | none => none) = some d := by
      cases x <;> first | exact e | exact absurd ⟨_, rfl⟩ hdc
    cases qp : x.py with
    | none => rw [qp] at e; cases e
    | some p =>
      rw [qp] at e
      simp only at e
      split at e
      · rename_i hh
        cases e
        obtain ⟨u, rfl, ru⟩ := vals1 rv
        obtain ⟨as, rd⟩ := Dp.reads I p v u (h0.dp rp.gs qp) ru
        have hz : p.shown.length ≤ sizeLine := by rw [sline]; exact hh.2.2
        have fin : ∀ (h' : Heap) (t : Tok) (tk : Nat), (∀ b o, s.heap.get? b = some o → h'.get? b = some o) → EP X pins σ Q (.str p.shown t) { s with heap := h', toks := tk } := fun h' t tk hk => ⟨.str p.shown, H, I.kept hk, ⟨t, rfl⟩, q _ H G ι rp .refl rfl⟩
        have hd := SeqAt.depth_of_shaped hh.1
        have hun := hr.un
        have hnd : p.hasDict = true → sysModules ∉ as := fun e => by
          rw [PyData.hasDict_of_canLay p (SeqAt.canLay_of_shaped hh.1)] at e
          cases e
        cases rd with
        | none => exact P.repr_of_none (fin s.heap _ _ fun _ _ z => z)
        | bool b => exact P.repr_of_bool (fin s.heap _ _ fun _ _ z => z)
        | int i t => exact P.repr_of_int (of_decide_eq_true hh.2.1) (fin s.heap _ _ fun _ _ z => z)
        | str z t => exact P.repr_of_str (fin s.heap _ _ fun _ _ z => z) hz
        | list h1 h2 h3 h4 => exact repr_of_reads' (.list h1 h2 h3 h4) hh.2.1 hnd cA (by omega) (fun _ _ z => z) (fun h' u tk hk => fin h' u tk hk) hz
        | tuple h1 h2 h3 h4 => exact repr_of_reads' (.tuple h1 h2 h3 h4) hh.2.1 hnd cA (by omega) (fun _ _ z => z) (fun h' u tk hk => fin h' u tk hk) hz
        | dict h1 h2 h3 h4 h5 => exact repr_of_reads' (.dict h1 h2 h3 h4 h5) hh.2.1 hnd cA (by omega) (fun _ _ z => z) (fun h' u tk hk => fin h' u tk hk) hz
      · cases e
  | [], pr, e => cases e
  | x :: y :: r, pr, e => cases x <;> cases e
end
end R
end
section
set_option linter.all false
set_option maxRecDepth 100000
set_option maxHeartbeats 4000000
/-! R7: calls of built-in things as expressions. -/
namespace R
open PySem PySem.Spec PyProof.Rows L2
section
variable {X : Cx} {cl : Nat → Addr} {e a b c : Expr} {es : List Expr} {p pos : Pos} {C : CallF} {r ra rb : RE} {rs : REs}
def Bi.name : Bi → Str
  | .len => "len" | .int => "int" | .str => "str" | .abs => "abs" | .min => "min" | .max => "max" | .sum => "sum" | .sorted => "sorted" | .list => "list" | .tuple => "tuple" | .dict => "dict" | .all => "all" | .any => "any" | .repr => "repr" | .bool => "bool"
/-- what makes a new list or dict -/
def Bi.new : Bi → Bool
  | .list => true | .sorted => true | .dict => true | _ => false
theorem post_bi {K : PySem.W.Frag} {G H : Hp} {ι : List Addr} {S : Sto} {f : Bi} {svs : List SV} {vs : List V} {Z : RelA SV V} {Q : VK} (rp : RpH K cl S G ι H) (rx : Paired (RepS K cl G ι) svs vs)
    (po : Post K cl Z G ι H Q ((ofO (rds S svs) S).bind fun ds S => (ofO (biD f ds) S).bind fun d S => .ok (.p d) S)) : ∃ ds d, Paired (RdV K cl G H) ds vs ∧ biD f ds = some d ∧ ∀ v H' G' ι', RpH K cl S G' ι' H' → Ext G H ι G' H' ι' → Z H G' H' ι' (.p d) v → Q v H' := by
  obtain ⟨ds, h1, po⟩ := post_ofO po
  obtain ⟨d, h2, po⟩ := post_ofO po
  exact ⟨ds, d, rds_rep rp h1 rx, h2, po⟩
theorem sa_tx {Z : RelA SV V} {g : List SV → Sto → Res SV} {t : Env → Sto → Res SV} {σ : L2.St} {H : Hp} {Q : VK} {K : PySem.W.Frag} {fs : Env → Sto → Res (List SV)} {q : List V → Hp → Prop}
    (hZ : ∀ {H H1 G2 H2 : Hp} {G G1 : Hp} {ι ι1 ι2 : List Addr} {a : SV} {b : V}, Ext G H ι G1 H1 ι1 → Z H1 G2 H2 ι2 a b → Z H G2 H2 ι2 a b) (h : tX K cl Z t σ H Q) (ht : ∀ env S, t env S = (fs env S).bind fun vs S => g vs S)
    (k : ∀ S G ι H svs vs, RpH K cl S G ι H → Paired (RepS K cl G ι) svs vs → Post K cl Z G ι H Q (g svs S) → q vs H) : tX K cl (RLs K cl) fs σ H q := by
  obtain ⟨env, S, G, ι, rp, re, po⟩ := h
  rw [ht] at po
  refine ⟨env, S, G, ι, rp, re, ?_⟩
  refine Post.seq po fun x S1 v H1 G1 ι1 e1 rp1 ex1 r1 po1 => ?_
  exact k S1 G1 ι1 H1 x v rp1 r1 (Post.up po1 ex1 fun _ _ _ _ _ h => hZ ex1 h)
theorem se_bi {f : Bi} {u : Value} (hf : CallR X u (rBi X.K cl (biD f))) (hpe : ∀ {t : TA} {rr : List V → Hp → VK → Prop}, CallR X u rr → PA X es t → PE X e (tCB rr t)) (ha : SA X cl es (evalEs C rs)) : SE X cl e (evalE C (.bi f rs)) := by
  refine pe_by (hpe hf ha) fun σ H Q h => ?_
  refine sa_tx (Z := RSv X.K cl) (g := fun vs S => (ofO (rds S vs) S).bind fun ds S => (ofO (biD f ds) S).bind fun d S => .ok (.p d) S) (fun _ h => h) h (fun env S => by rw [evalE]) fun S G ι H svs vs rp rv po => ?_
  obtain ⟨ds, d, h1, h2, h3⟩ := post_bi rp rv po
  exact ⟨S, G, ι, ds, d, rp, h1, h2, h3⟩
theorem sn_bi {f : Bi} {u : Value} (hf : CallR X u (rBN X.K cl (biD f))) (hpe : ∀ {t : TA} {rr : List V → Hp → VK → Prop}, CallR X u rr → PA X es t → PE X e (tCB rr t)) (ha : SA X cl es (evalEs C rs)) : SN X cl e (evalE C (.bi f rs)) := by
  refine pe_by (hpe hf ha) fun σ H Q h => ?_
  refine sa_tx (Z := RNw X.K cl) (g := fun vs S => (ofO (rds S vs) S).bind fun ds S => (ofO (biD f ds) S).bind fun d S => .ok (.p d) S) (fun x h => RNw.up x h) h (fun env S => by rw [evalE]) fun S G ι H svs vs rp rv po => ?_
  obtain ⟨ds, d, h1, h2, h3⟩ := post_bi rp rv po
  exact ⟨S, G, ι, ds, d, rp, h1, h2, h3⟩
theorem boot_sortedS : bootBuiltins "sorted" = some (.builtin "sorted") := by decide +kernel
theorem boot_allS : bootBuiltins "all" = some (.builtin "all") := by decide +kernel
theorem boot_anyS : bootBuiltins "any" = some (.builtin "any") := by decide +kernel
theorem boot_absS : bootBuiltins "abs" = some (.builtin "abs") := by decide +kernel
theorem boot_reprS : bootBuiltins "repr" = some (.builtin "repr") := by decide +kernel
theorem boot_minS : bootBuiltins "min" = some (.builtin "min") := by decide +kernel
theorem boot_maxS : bootBuiltins "max" = some (.builtin "max") := by decide +kernel
theorem boot_sumS : bootBuiltins "sum" = some (.builtin "sum") := by decide +kernel
theorem boot_lenS : bootBuiltins "len" = some (.builtin "len") := by decide +kernel
theorem boot_intS : bootBuiltins "int" = some (.type "int") := by decide +kernel
theorem boot_strS : bootBuiltins "str" = some (.type "str") := by decide +kernel
theorem boot_boolS : bootBuiltins "bool" = some (.type "bool") := by decide +kernel
theorem boot_listS : bootBuiltins "list" = some (.type "list") := by decide +kernel
theorem boot_tupleS : bootBuiltins "tuple" = some (.type "tuple") := by decide +kernel
theorem boot_dictS : bootBuiltins "dict" = some (.type "dict") := by decide +kernel
theorem boot_isiS : bootBuiltins "isinstance" = some (.builtin "isinstance") := by decide +kernel
/-- a call of a built-in by its name -/
theorem se_bif {f : Bi} {k : Nat} (hn : f.new = false) (hc : X.calm = true) (cA : Calm X.A) (hr : Room k X.A) (hs : (e :: es).all noStar = true) (hg : Gl X f.name) (hm : X.mg f.name = none) (ha : SA X cl (e :: es) (evalEs C rs)) : SE X cl (.Call (.Name f.name p) (e :: es) [] pos) (evalE C (.bi f rs)) := by
  obtain ⟨h1, h2⟩ := Bool.and_eq_true_iff.mp (show (noStar e && es.all noStar) = true from hs)
  cases f with
  | len => exact se_bi bi_len (fun h ht => pe_callB h hg hm boot_lenS ht (by decide) (by decide) (starEach_of h1) (plain_of h2)) ha
  | int => exact se_bi bi_int (fun h ht => pe_callTy h hg hm boot_intS ht (by decide) (by decide) (starEach_of h1) (plain_of h2)) ha
  | str => exact se_bi bi_str (fun h ht => pe_callTy h hg hm boot_strS ht (by decide) (by decide) (starEach_of h1) (plain_of h2)) ha
  | abs => exact se_bi bi_abs (fun h ht => pe_callB h hg hm boot_absS ht (by decide) (by decide) (starEach_of h1) (plain_of h2)) ha
  | min => exact se_bi (bi_min hc) (fun h ht => pe_callB h hg hm boot_minS ht (by decide) (by decide) (starEach_of h1) (plain_of h2)) ha
  | max => exact se_bi (bi_max hc) (fun h ht => pe_callB h hg hm boot_maxS ht (by decide) (by decide) (starEach_of h1) (plain_of h2)) ha
  | sum => exact se_bi (bi_sum hc) (fun h ht => pe_callB h hg hm boot_sumS ht (by decide) (by decide) (starEach_of h1) (plain_of h2)) ha
  | tuple => exact se_bi bi_tuple (fun h ht => pe_callTy h hg hm boot_tupleS ht (by decide) (by decide) (starEach_of h1) (plain_of h2)) ha
  | all => exact se_bi (bi_all hc) (fun h ht => pe_callB h hg hm boot_allS ht (by decide) (by decide) (starEach_of h1) (plain_of h2)) ha
  | any => exact se_bi (bi_any hc) (fun h ht => pe_callB h hg hm boot_anyS ht (by decide) (by decide) (starEach_of h1) (plain_of h2)) ha
  | repr => exact se_bi (bi_repr cA hr) (fun h ht => pe_callB h hg hm boot_reprS ht (by decide) (by decide) (starEach_of h1) (plain_of h2)) ha
  | bool => exact se_bi bi_bool (fun h ht => pe_callTy h hg hm boot_boolS ht (by decide) (by decide) (starEach_of h1) (plain_of h2)) ha
  | _ => cases hn
theorem sn_bif {f : Bi} (hn : f.new = true) (hc : X.calm = true) (hs : (e :: es).all noStar = true) (hg : Gl X f.name) (hm : X.mg f.name = none) (ha : SA X cl (e :: es) (evalEs C rs)) : SN X cl (.Call (.Name f.name p) (e :: es) [] pos) (evalE C (.bi f rs)) := by
  obtain ⟨h1, h2⟩ := Bool.and_eq_true_iff.mp (show (noStar e && es.all noStar) = true from hs)
  cases f with
  | sorted => exact sn_bi bn_sorted (fun h ht => pe_callB h hg hm boot_sortedS ht (by decide) (by decide) (starEach_of h1) (plain_of h2)) ha
  | list => exact sn_bi bn_list (fun h ht => pe_callTy h hg hm boot_listS ht (by decide) (by decide) (starEach_of h1) (plain_of h2)) ha
  | dict => exact sn_bi (bn_dict hc) (fun h ht => pe_callTy h hg hm boot_dictS ht (by decide) (by decide) (starEach_of h1) (plain_of h2)) ha
  | _ => cases hn
/-! list(range(..)), list(d.items()) -/
theorem rg_rep {K : PySem.W.Frag} {G : Hp} (lo hi : Int) : Reps K cl G (rangeD lo hi) (rgV lo hi) := by
  unfold rangeD rgV
  refine Reps.of ?_
  generalize (List.range (hi - lo).toNat) = l
  induction l with
  | nil => exact .nil
  | cons x l ih => exact .cons rfl ih
theorem sn_lrg (hc : X.calm = true) (h1 : Gl X "list") (h2 : X.mg "list" = none) (h3 : Gl X "range") (h4 : X.mg "range" = none) (hs : noStar a = true) (ha : SE X cl a (evalE C ra)) {p2 pos2 : Pos} :
    SN X cl (.Call (.Name "list" p) [.Call (.Name "range" p2) [a] [] pos2] [] pos) (evalE C (.lrg ra)) := by
  refine pe_by (pe_listRg hc h1 h2 (prg_1 h3 h4 ha (starEach_of hs)) rfl) fun σ H Q h => ?_
  obtain ⟨env, S, G, ι, rp, re, po⟩ := h
  rw [evalE] at po
  refine ⟨env, S, G, ι, rp, re, ?_⟩
  refine Post.seq po fun x S1 v H1 G1 ι1 e1 rp1 ex1 r1 po1 => ?_
  cases x with
  | l n => exact po1.elim
  | p d => cases d with
    | int i =>
      cases r1
      simp only at po1
      split at po1
      · rename_i hh
        refine ⟨i, rfl, .of_le (by omega) (by have := hh.2; unfold line at this; omega) (by omega) hh.1, fun q hq => ?_⟩
        exact po1 _ _ G1 ι1 (rp1.layH hq) (ex1.trans (Ext.layH hq)) (rnw_lay (ι0 := ι) rp1 ex1.hn hq (rg_rep 0 i))
      · exact po1.elim
    | _ => exact po1.elim
theorem sn_lrg2 (hc : X.calm = true) (h1 : Gl X "list") (h2 : X.mg "list" = none) (h3 : Gl X "range") (h4 : X.mg "range" = none) (hs : noStar a = true) (hs' : noStar b = true) (ha : SE X cl a (evalE C ra)) (hb : SE X cl b (evalE C rb)) {p2 pos2 : Pos} :
    SN X cl (.Call (.Name "list" p) [.Call (.Name "range" p2) [a, b] [] pos2] [] pos) (evalE C (.lrg2 ra rb)) := by
  refine pe_by (pe_listRg hc h1 h2 (prg_2 h3 h4 ha hb (starEach_of hs) (starEach_of hs') (plain_of (by simp [hs']))) rfl) fun σ H Q h => ?_
  obtain ⟨env, S, G, ι, rp, re, po⟩ := h
  rw [evalE] at po
  refine ⟨env, S, G, ι, rp, re, ?_⟩
  refine Post.seq po fun x S1 v H1 G1 ι1 e1 rp1 ex1 r1 po1 => ?_
  refine ⟨env, S1, G1, ι1, rp1, re.up ex1, ?_⟩
  refine Post.seq (Post.up po1 ex1 (fun _ _ _ _ _ h => RNw.up ex1 h)) fun y S2 w H2 G2 ι2 e2 rp2 ex2 r2 po2 => ?_
  cases x with
  | l n => exact po2.elim
  | p d => cases d with
    | int i => cases y with
      | l n => exact po2.elim
      | p d' => cases d' with
        | int j =>
          cases r1
          cases r2
          simp only at po2
          split at po2
          · rename_i hh
            obtain ⟨g1, g2, g3, g4⟩ := hh
            unfold line at g2 g4
            refine ⟨i, j, rfl, rfl, .of_le g1 (by omega) (by omega) g3, fun q hq => ?_⟩
            exact po2 _ _ G2 ι2 (rp2.layH hq) (ex2.trans (Ext.layH hq)) (rnw_lay (ι0 := ι) rp2 ex2.hn hq (rg_rep i j))
          · exact po2.elim
        | _ => exact po2.elim
    | _ => exact po2.elim
end
end R
end
section
set_option linter.all false
set_option maxRecDepth 100000
set_option maxHeartbeats 4000000
/-! R8: isinstance, methods of built-in types, dict displays. -/
namespace R
open PySem PySem.Spec PyProof.Rows L2
section
variable {K : PySem.W.Frag} {cl : Nat → Addr} {G G' H H' : Hp} {ι ι' : List Addr} {S : Sto}
theorem RpH.grow (h : RpH K cl S G ι H) (hs : Same H H') (g1 : Same G G') (g2 : Same G' H') (g3 : ∀ a, G' a ≠ none → G a = G' a ∨ H a = none) : RpH K cl S G' ι H' ∧ Ext G H ι G' H' ι := by
  have hn : ∀ a, H' a = none → H a = none := fun a e => by
    cases q : H a with
    | none => rfl
    | some o => rw [hs a o q] at e; cases e
  refine ⟨⟨g2, h.len, h.nd, fun a ha => fun e => h.inh a ha (hn a e), fun n a c e1 e2 => ?_⟩, g1, ⟨[], by simp⟩, fun a o e _ => hs a o e, fun a z => .inl z, fun a o e => ?_, hn⟩
  · refine (h.cel n a c e1 e2).upG g1 (fun q => ?_) fun o q => hs a o q
    cases q' : G' a with
    | none => rfl
    | some o =>
      rcases g3 a (by rw [q']; simp) with z | z
      · rw [q, q'] at z; cases z
      · exact absurd z (h.inh a (List.mem_of_getElem? e1))
  · rcases g3 a (by rw [e]; simp) with z | z
    · rw [e] at z; exact .inl z
    · exact .inr (.inl z)
end
section
variable {X : Cx} {cl : Nat → Addr} {e a b c : Expr} {es : List Expr} {p pos : Pos} {C : CallF} {r ra rb : RE} {rs : REs}
def Ty.nm : Ty → Str
  | .int => "int" | .str => "str" | .bool => "bool" | .tuple => "tuple" | .cls _ => ""
def Ty.id : Ty → String
  | .int => "int" | .str => "str" | .bool => "bool" | .tuple => "tuple" | .cls _ => ""
def Ty.own : Ty → Bool
  | .cls _ => true
  | _ => false
theorem tyx_tup {K : PySem.W.Frag} {H : Hp} {a : Addr} {vs : List V} (h : SqT K H a vs) : TyX K H (.ref a) (.type "tuple") := by
  rcases h with (h | ⟨o, h⟩) | ⟨o, its, n, h1, h2, _⟩
  · exact .base (.tup h)
  · exact .fTuple h
  · exact .kTuple h1 h2
theorem kit_b {n m : String} {x : Bool} (h : kitB n m = some x) (K : PySem.W.Frag) : PySem.W.kitOne K (.type n) (.type m) = some x := kit_ty h
def dTy : D → String
  | .non => "NoneType" | .bl _ => "bool" | .int _ => "int" | .str _ => "str" | .tup _ => "tuple" | .lst _ => "list" | .dct _ => "dict" | _ => ""
theorem tyx_of {K : PySem.W.Frag} {G H : Hp} {d : D} {v : V} (gs : Same G H) (h : RdV K cl G H d v) (hd : dTy d ≠ "") : TyX K H v (.type (dTy d)) := by
  cases d with
  | non => cases h; exact .base .non
  | bl b => cases h; exact .base (.bl b)
  | int i => cases h; exact .base (.int i)
  | str x => cases h; exact .base (.str x)
  | tup xs => obtain ⟨a, vs, rfl, h1, _⟩ := RepT.sq gs h; exact tyx_tup h1
  | lst xs => obtain ⟨a, vs, rfl, h1, _⟩ := h; exact .base (.lst h1)
  | dct k => obtain ⟨a, vs, rfl, h1, _⟩ := h; exact .base (.dK h1)
  | obj c fs => exact absurd rfl hd
  | scr ns => exact absurd rfl hd
  | err c v => exact absurd rfl hd
def isiK (t : Ty) (n : String) : Bool := match t with
  | .int => n == "int" || n == "bool"
  | .str => n == "str"
  | .bool => n == "bool"
  | .tuple => n == "tuple"
  | .cls _ => false
theorem kit_tab : (["NoneType", "bool", "int", "str", "tuple", "list", "dict"].all fun n => [Ty.int, Ty.str, Ty.bool, Ty.tuple].all fun t => kitB n t.id == some (isiK t n)) = true := by decide +kernel
theorem kit_all (t : Ty) (ht : t.own = false) (d : D) (hd : dTy d ≠ "") (b : Bool) (e : isiD t d = some b) : kitB (dTy d) t.id = some b := by
  have h1 : dTy d ∈ ["NoneType", "bool", "int", "str", "tuple", "list", "dict"] := by cases d <;> simp [dTy] at hd ⊢
  have h2 : t ∈ [Ty.int, Ty.str, Ty.bool, Ty.tuple] := by
    cases t with
    | cls c => cases ht
    | _ => simp
  have h3 := List.all_eq_true.mp (List.all_eq_true.mp kit_tab _ h1) t h2
  rw [eq_of_beq h3]
  cases t with
  | cls c => cases ht
  | _ => cases d <;> first | exact absurd rfl hd | (cases e; rfl)
theorem ty_boot (t : Ty) (ht : t.own = false) : bootBuiltins t.nm = some (.type t.id) := by
  cases t with
  | cls c => cases ht
  | _ => decide +kernel
theorem ty_dbg (t : Ty) (ht : t.own = false) : t.nm ≠ "__name__" ∧ (t.nm == ("__debug__" : Str)) = false := by
  cases t with
  | cls c => cases ht
  | _ => decide +kernel
theorem pa_two {ta tb : TE} (hs : noStar a = true) (hs' : noStar b = true) (ha : PE X a ta) (hb : PE X b tb) : PA X [a, b] (tCons ta (tCons tb tNil)) := pa_cons ha (pa_cons hb pa_nil (starEach_of hs')) (starEach_of hs)
theorem se_isi {t : Ty} {p2 : Pos} (ht : t.own = false) (hs : noStar a = true) (hg : Gl X "isinstance") (hm : X.mg "isinstance" = none) (hg2 : Gl X t.nm) (hm2 : X.mg t.nm = none) (ha : SE X cl a (evalE C ra)) :
    SE X cl (.Call (.Name "isinstance" p) [a, .Name t.nm p2] [] pos) (evalE C (.isi ra t)) := by
  have hb : PE X (.Name t.nm p2) (tC (.ty t.id)) := pe_bltn (v := .ty t.id) hg2 hm2 (ty_boot t ht) rfl (ty_dbg t ht).1 (ty_dbg t ht).2
  refine pe_by (pe_callB call_isi hg hm boot_isiS (pa_two hs rfl ha hb) (by decide) (by decide) (starEach_of hs) (plain_of rfl)) fun σ H Q h => ?_
  obtain ⟨env, S, G, ι, rp, re, po⟩ := h
  rw [evalE] at po
  refine ⟨env, S, G, ι, rp, re, ?_⟩
  refine Post.seq po fun x S1 v H1 G1 ι1 e1 rp1 ex1 r1 po1 => ?_
  cases qx : rd S1 x with
  | none => simp only [qx] at po1; exact po1.elim
  | some d =>
    simp only [qx] at po1
    obtain ⟨bb, qb, po1⟩ := post_ofO po1
    by_cases hd : dTy d = ""
    · cases d with
      | obj c fs => cases t with
        | cls c => cases ht
        | _ => cases qb
      | scr ns => cases qb
      | err c v => cases qb
      | _ => simp [dTy] at hd
    · exact ⟨v, .ty t.id, _, _, bb, rfl, .ty t.id, tyx_of rp1.gs (rd_rep rp1 r1 qx) hd, kit_b (kit_all t ht d hd bb qb) X.K, po1 _ H1 G1 ι1 rp1 ex1 rfl⟩
/-! methods of built-in types -/
theorem superless {o : Expr} {m : Str} {env : PySem.Env} (h : (match o with | .Call _ _ _ _ => false | _ => true) = true) : attributeBase o m env (eval o env) = eval o env := by
  cases o <;> first | rfl | cases h
def noCall : Expr → Bool
  | .Call _ es _ _ => !es.isEmpty
  | _ => true
theorem base_of {o : Expr} {m : Str} {env : PySem.Env} (h : noCall o = true) : attributeBase o m env (eval o env) = eval o env := by
  cases o with
  | Call f es ks p =>
    cases es with
    | nil => cases h
    | cons e es => cases f <;> rfl
  | _ => rfl
theorem few_ok {es : List Expr} {env : PySem.Env} {pos : Pos} (h : es.all noStar = true) (hl : es.length < 20) : ((backTo pos (starEach es env)).all (fun x => !x.1) && (backToKw pos (keywordEach [] env)).all (fun x => x.1.isSome)
      && decide (es.length + ([] : List Keyword).length + (if ([] : List Keyword).isEmpty then 0 else 1) < 30)) = true := by
  rw [few_of h]
  have : decide (es.length + ([] : List Keyword).length + (if ([] : List Keyword).isEmpty then 0 else 1) < 30) = true := by
    simp
    omega
  rw [this]
  rfl
def Mm.name : Mm → Str
  | .append => "append" | .extend => "extend" | .pop => "pop"
def rMm (K : PySem.W.Frag) (cl : Nat → Addr) (m : Mm) : V → List V → Hp → VK → Prop := fun x vs H Q => ∃ S G ι n p c c' ds d, RpH K cl S G ι H ∧ ι[n]? = some p ∧ x = .ref p ∧ S[n]? = some c ∧ Reps K cl G ds vs ∧ mmC m c ds = some (d, c') ∧
  ∀ v H' G' ι', RpH K cl (S.set n c') G' ι' H' → Ext G H ι G' H' ι' → Rep K cl G' d v → Q v H'
theorem put_fin {K : PySem.W.Frag} {S : Sto} {G H : Hp} {ι : List Addr} {n : Nat} {p : Addr} {xs : List D} {vs : List V} (rp : RpH K cl S G ι H) (hn : ι[n]? = some p) (hg : G p = none) (h : Reps K cl G xs vs) : RpH K cl (S.set n (.lst xs)) G ι (upd H p (.lst vs)) ∧ Ext G H ι G (upd H p (.lst vs)) ι :=
  ⟨rp.put hn hg ⟨hg, vs, upd_same, h⟩, Ext.put hn⟩
theorem mm_append : MtR X "list.append" (rMm X.K cl .append) := by
  intro pins s σ H x vs v us Q I rx rv h
  obtain ⟨S, G, ι, n, p, c, c', ds, d, rp, h1, rfl, h2, h3, h4, q⟩ := h
  have z := rp.cel n p c h1 h2
  match c, ds, h3, h4, z with
  | .lst xs, [y], h3, h4, z =>
    obtain ⟨z0, ws, z1, z2⟩ := z
    obtain ⟨w, r, rfl, h5, h6⟩ := h3
    cases (show r = [] from h6)
    have h4 : (if xs.length < line then some (D.non, Cell.lst (xs ++ [y])) else none) = some (d, c') := h4
    split at h4
    · cases h4
      obtain ⟨k1, k2⟩ := put_fin rp h1 z0 (xs := xs ++ [y]) (vs := ws ++ [w]) (Reps.of (Paired.append z2.pair (.cons h5 .nil)))
      exact mt_append pins s σ H _ _ v us Q I rx rv ⟨p, ws, w, rfl, rfl, z1, by rw [sline, ← z2.length]; assumption, q _ _ G ι k1 k2 rfl⟩
    · cases h4
theorem mmC_ext {c c' : Cell} {ds : List D} {d : D} (h : mmC .extend c ds = some (d, c')) : ∃ xs ys, c = .lst xs ∧ ds = [.lst ys] ∧ xs.length + ys.length ≤ line ∧ d = .non ∧ c' = .lst (xs ++ ys) := by
  cases c with
  | lst xs =>
    cases ds with
    | nil => cases h
    | cons y r =>
      cases r with
      | cons _ _ => cases y <;> cases h
      | nil =>
        cases y with
        | lst ys =>
          have h : (if xs.length + ys.length ≤ line then some (D.non, Cell.lst (xs ++ ys)) else none) = some (d, c') := h
          by_cases hh : xs.length + ys.length ≤ line
          · rw [if_pos hh] at h
            cases h
            exact ⟨xs, ys, rfl, rfl, hh, rfl, rfl⟩
          · rw [if_neg hh] at h; cases h
        | _ => cases h
  | _ => cases ds <;> cases h
theorem mmC_pop {c c' : Cell} {ds : List D} {d : D} (h : mmC .pop c ds = some (d, c')) : ∃ xs, c = .lst xs ∧ ((ds = [] ∧ xs[xs.length - 1]? = some d ∧ c' = .lst xs.dropLast) ∨ ∃ i : Int, ds = [.int i] ∧ 0 ≤ i ∧ i < 16777216 ∧ xs[i.toNat]? = some d ∧ c' = .lst (xs.eraseIdx i.toNat)) := by
  cases c with
  | lst xs =>
    cases ds with
    | nil =>
      have h : (match xs[xs.length - 1]? with | some y => some (y, Cell.lst xs.dropLast) | none => none) = some (d, c') := h
      cases q : xs[xs.length - 1]? with
      | none => rw [q] at h; cases h
      | some y => rw [q] at h; cases h; exact ⟨xs, rfl, .inl ⟨rfl, q, rfl⟩⟩
    | cons y r =>
      cases r with
      | cons _ _ => cases y <;> cases h
      | nil =>
        cases y with
        | int i =>
          have h : (if 0 ≤ i ∧ i < 16777216 then (match xs[i.toNat]? with | some y => some (y, Cell.lst (xs.eraseIdx i.toNat)) | none => none) else none) = some (d, c') := h
          by_cases hh : 0 ≤ i ∧ i < 16777216
          · rw [if_pos hh] at h
            cases q : xs[i.toNat]? with
            | none => rw [q] at h; cases h
            | some y => rw [q] at h; cases h; exact ⟨xs, rfl, .inr ⟨i, rfl, hh.1, hh.2, q, rfl⟩⟩
          · rw [if_neg hh] at h; cases h
        | _ => cases h
  | _ => cases ds <;> cases h
theorem mm_extend : MtR X "list.extend" (rMm X.K cl .extend) := by
  intro pins s σ H x vs v us Q I rx rv h
  obtain ⟨S, G, ι, n, p, c, c', ds, d, rp, h1, rfl, h2, h3, h4, q⟩ := h
  have z := rp.cel n p c h1 h2
  obtain ⟨xs, ys, rfl, rfl, hl, rfl, rfl⟩ := mmC_ext h4
  obtain ⟨z0, ws, z1, z2⟩ := z
  obtain ⟨w, r, rfl, h5, h6⟩ := h3
  cases (show r = [] from h6)
  obtain ⟨b, zs, rfl, hb, h5⟩ := h5
  obtain ⟨k1, k2⟩ := put_fin rp h1 z0 (xs := xs ++ ys) (vs := ws ++ zs) (Reps.of (Paired.append z2.pair h5.pair))
  exact mt_extend pins s σ H _ _ v us Q I rx rv ⟨p, b, ws, zs, rfl, rfl, z1, rp.gs _ _ hb, by rw [sline, ← z2.length, ← h5.length]; exact hl, q _ _ G ι k1 k2 rfl⟩
theorem mm_pop : MtR X "list.pop" (rMm X.K cl .pop) := by
  intro pins s σ H x vs v us Q I rx rv h
  obtain ⟨S, G, ι, n, p, c, c', ds, d, rp, h1, rfl, h2, h3, h4, q⟩ := h
  have z := rp.cel n p c h1 h2
  have hq := mmC_pop h4
  clear h4
  obtain ⟨xs, rfl, h4⟩ := hq
  obtain ⟨z0, ws, z1, z2⟩ := z
  rcases h4 with ⟨rfl, hy, rfl⟩ | ⟨i, rfl, i0, i1, hy, rfl⟩
  · cases (show vs = [] from h3)
    obtain ⟨w, h5, h6⟩ := Paired.get z2.pair hy
    obtain ⟨k1, k2⟩ := put_fin rp h1 z0 (xs := xs.dropLast) (vs := ws.dropLast) (Reps.of (Paired.dropLast z2.pair))
    exact mt_pop pins s σ H _ _ v us Q I rx rv ⟨p, ws, w, rfl, rfl, z1, by rw [← z2.length]; exact h5, q _ _ G ι k1 k2 h6⟩
  · obtain ⟨w0, r, rfl, h5, h6⟩ := h3
    cases (show r = [] from h6)
    cases (show w0 = V.int i from h5)
    obtain ⟨w, h5, h6⟩ := Paired.get z2.pair hy
    obtain ⟨k1, k2⟩ := put_fin rp h1 z0 (xs := xs.eraseIdx i.toNat) (vs := ws.eraseIdx i.toNat) (Reps.of (Paired.erase z2.pair _))
    have hlt := (List.getElem?_eq_some_iff.mp h5).1
    exact mt_popAt pins s σ H _ _ v us Q I rx rv ⟨p, ws, i, i.toNat, w, rfl, rfl, z1, by omega, by omega, seqIndex_of i0 (by omega), h5, q _ _ G ι k1 k2 h6⟩
theorem mt_by {id : String} {r r' : V → List V → Hp → VK → Prop} (h : MtR X id r') (k : ∀ x vs H Q, r x vs H Q → r' x vs H Q) : MtR X id r := fun pins s σ H x xs v us Q I rx rv q => h pins s σ H x xs v us Q I rx rv (k _ _ _ _ q)
/-- x.append(e), x.extend(e), x.pop(..), x a local list -/
theorem se_mm {m : Mm} {i : Nat} {x : Str} {px apos cpos : Pos} (hN : X.N[i]? = some x) (hv : Vis X.env.scope x) (hd : (x == ("__debug__" : Str)) = false) (hcd : (x == ("__classdict__" : Str)) = false) (hs : (e :: es).all noStar = true) (hl : (e :: es).length < 20)
    (hline : (apos.endLine == cpos.line) = true) (ha : SA X cl (e :: es) (evalEs C rs)) : SE X cl (.Call (.Attribute (.Name x px) m.name apos) (e :: es) [] cpos) (evalE C (.mm m i rs)) := by
  obtain ⟨s1, s2⟩ := Bool.and_eq_true_iff.mp (show (noStar e && es.all noStar) = true from hs)
  have key : ∀ σ H Q, tX X.K cl (RSv X.K cl) (evalE C (.mm m i rs)) σ H Q → tBM X.K "list" (rMm X.K cl m) (tVar i) (tX X.K cl (RLs X.K cl) (evalEs C rs)) σ H Q := by
    intro σ H Q h
    obtain ⟨env, S, G, ι, rp, re, po⟩ := h
    rw [evalE] at po
    split at po
    · rename_i hL
      unfold isL at hL
      cases qe : env.get i with
      | none => rw [qe] at hL; cases hL
      | some sv =>
        cases sv with
        | p d => rw [qe] at hL; cases hL
        | l n =>
          simp only [qe] at hL
          cases qn : S[n]? with
          | none => simp only [qn] at hL; cases hL
          | some c =>
            cases c with
            | lst xs =>
              obtain ⟨v, h1, a, h2, rfl⟩ := re.at_ i _ (env_get qe)
              have z := rp.cel n a _ h2 qn
              obtain ⟨z0, ws, z1, z2⟩ := z
              refine ⟨.ref a, h1, .inl ⟨rfl, ws, .inl (.inl z1)⟩, env, S, G, ι, rp, re, ?_⟩
              refine Post.seq po fun ys S1 v H1 G1 ι1 e1 rp1 ex1 r1 po1 => ?_
              obtain ⟨ds, qd, po1⟩ := post_ofO po1
              have po1 := Post.up po1 ex1 (fun _ _ _ _ _ h => h)
              rw [qe] at po1
              unfold mmS at po1
              cases qm : S1[n]? with
              | none => simp only [qm] at po1; exact po1.elim
              | some c' =>
                simp only [qm] at po1
                cases qq : mmC m c' ds with
                | none => simp only [qq] at po1; exact po1.elim
                | some dc =>
                  obtain ⟨d, c''⟩ := dc
                  simp only [qq] at po1
                  obtain ⟨t, ht⟩ := ex1.i
                  refine ⟨S1, G1, ι1, n, a, c', c'', ds, d, rp1, ?_, rfl, qm, purs_rep qd r1, qq, po1⟩
                  rw [ht, List.getElem?_append_left (List.getElem?_eq_some_iff.mp h2).1]
                  exact h2
            | _ => simp only [qn] at hL; cases hL
    · exact po.elim
  cases m with
  | append => exact pe_by (pe_bm PySem.F.plainAttrs_list PySem.F.slot_list_append PySem.F.type_list_append mm_append (pe_var hN hv hd hcd) ha (base_of rfl) (few_ok hs hl) hline (starEach_of s1) (plain_of s2)) key
  | extend => exact pe_by (pe_bm PySem.F.plainAttrs_list PySem.F.slot_list_extend PySem.F.type_list_extend mm_extend (pe_var hN hv hd hcd) ha (base_of rfl) (few_ok hs hl) hline (starEach_of s1) (plain_of s2)) key
  | pop => exact pe_by (pe_bm PySem.F.plainAttrs_list PySem.F.slot_list_pop PySem.F.type_list_pop mm_pop (pe_var hN hv hd hcd) ha (base_of rfl) (few_ok hs hl) hline (starEach_of s1) (plain_of s2)) key
end
end R
end
section
set_option linter.all false
set_option maxRecDepth 100000
set_option maxHeartbeats 1000000
/-! R9: index, get, split, join; dict displays; list(d.items()). -/
namespace R
open PySem PySem.Spec PyProof.Rows L2
section
variable {X : Cx} {cl : Nat → Addr} {e a b c : Expr} {es : List Expr} {p pos : Pos} {C : CallF} {r ra rb : RE} {rs : REs}
def rMe (K : PySem.W.Frag) (cl : Nat → Addr) (m : Me) : V → List V → Hp → VK → Prop := fun x vs H Q => ∃ S G ι dx ds d, RpH K cl S G ι H ∧ RdV K cl G H dx x ∧ Reps K cl G ds vs ∧ meD m dx ds = some d ∧
  ∀ v H' G' ι', RpH K cl S G' ι' H' → Ext G H ι G' H' ι' → Rep K cl G' d v → Q v H'
theorem idxP_ok {d : PyData} : ∀ {zs : List PyData} {n k : Nat}, idxP d zs n = some k → ∃ j z, k = n + j ∧ zs[j]? = some z ∧ PyData.eqv z d = true ∧ ∀ m z', m < j → zs[m]? = some z' → PyData.eqv z' d = false
  | [], _, _, h => by cases h
  | z :: zs, n, k, h => by
    unfold idxP at h
    by_cases hh : PyData.eqv z d = true
    · rw [if_pos hh] at h
      cases h
      exact ⟨0, z, rfl, rfl, hh, fun m z' hm => by omega⟩
    · rw [if_neg hh] at h
      obtain ⟨j, z', h1, h2, h3, h4⟩ := idxP_ok h
      refine ⟨j + 1, z', by omega, h2, h3, fun m y hm hy => ?_⟩
      cases m with
      | zero => simp at hy; subst hy; simpa using hh
      | succ m => exact h4 m y (by omega) (by simpa using hy)
theorem me_index (hu : X.A.units + 65 < cLine) : MtR X "list.index" (rMe X.K cl .index) := by
  intro pins s σ H x vs v us Q I rx rv h
  obtain ⟨S, G, ι, dx, ds, d, rp, h1, h2, h3, q⟩ := h
  cases dx with
  | lst xs =>
    cases ds with
    | nil => cases h3
    | cons y r =>
      cases r with
      | cons _ _ => cases h3
      | nil =>
        have h3 : (indexD y xs).map (fun n : Nat => D.int (n : Int)) = some d := h3
        obtain ⟨k, e1, rfl⟩ := Option.map_eq_some_iff.mp h3
        obtain ⟨w, r, rfl, hw, hr⟩ := h2
        cases (show r = [] from hr)
        obtain ⟨a, ws, rfl, ha, hz⟩ := h1
        unfold indexD at e1
        cases q1 : y.py with
        | none => rw [q1] at e1; cases e1
        | some py =>
          cases q2 : pys xs with
          | none => rw [q1, q2] at e1; cases e1
          | some ps =>
            rw [q1, q2] at e1
            simp only at e1
            split at e1
            · rename_i hh
              obtain ⟨j, z, e2, e3, e4, e5⟩ := idxP_ok e1
              have e6 : k = j := by omega
              subst e6
              exact mt_indexD hu pins s σ H _ _ v us Q I rx rv ⟨a, w, py, ps, k, z, rfl, rfl, .lst (.inl (.inl ha)) (Reps.dp rp.gs xs ws ps hz q2), Rep.dp rp.gs y w py hw q1, hh.2, hh.1, e3, e4, e5, q _ H G ι rp .refl rfl⟩
            · cases e1
  | dct k => cases ds <;> cases h3
  | _ => cases ds <;> cases h3
theorem me_count (hu : X.A.units + 65 < cLine) : MtR X "list.count" (rMe X.K cl .count) := by
  intro pins s σ H x vs v us Q I rx rv h
  obtain ⟨S, G, ι, dx, ds, d, rp, h1, h2, h3, q⟩ := h
  cases dx with
  | lst xs =>
    cases ds with
    | nil => cases h3
    | cons y r =>
      cases r with
      | cons _ _ => cases h3
      | nil =>
        have h3 : (countD y xs).map (fun n : Nat => D.int (n : Int)) = some d := h3
        obtain ⟨k, e1, rfl⟩ := Option.map_eq_some_iff.mp h3
        obtain ⟨w, r, rfl, hw, hr⟩ := h2
        cases (show r = [] from hr)
        obtain ⟨a, ws, rfl, ha, hz⟩ := h1
        unfold countD at e1
        cases q1 : y.py with
        | none => rw [q1] at e1; cases e1
        | some py =>
          cases q2 : pys xs with
          | none => rw [q1, q2] at e1; cases e1
          | some ps =>
            rw [q1, q2] at e1
            simp only at e1
            split at e1
            · rename_i hh
              cases e1
              cases (show v = Value.ref a from rx)
              obtain ⟨u, rfl, ru⟩ := vals1 rv
              obtain ⟨bs, rd⟩ := Dp.reads I py w u (Rep.dp rp.gs y w py hw q1) ru
              obtain ⟨its, rvs, ⟨o, n, ho, hc, hd0, hdt⟩, hlen⟩ := I.list (.inl (.inl ha))
              obtain ⟨as, ra⟩ := Dp.readsAll I ps ws its (Reps.dp rp.gs xs ws ps hz q2) rvs
              refine SeqAt.count_list_data (vs := its.toArray) ⟨o, ho, hc, n, hdt⟩ ra rd hh.2.1 hh.1 (by have := hh.2.2; omega) ?_
              exact ⟨.int _, H, I.kept (fun _ _ z => z), ⟨_, rfl⟩, q _ H G ι rp .refl rfl⟩
            · cases e1
  | dct k => cases ds <;> cases h3
  | _ => cases ds <;> cases h3
theorem me_split : MtR X "str.split" (rMe X.K cl .split) := by
  refine mt_by mt_split fun x vs H Q h => ?_
  obtain ⟨S, G, ι, dx, ds, d, rp, h1, h2, h3, q⟩ := h
  cases dx with
  | str z =>
    cases h1
    cases ds with
    | nil => cases h3
    | cons y r =>
      cases r with
      | cons _ _ => cases y <;> cases h3
      | nil =>
        cases y with
        | str w =>
          have h3 : (if w.length ≠ 0 ∧ z.length + 2 ≤ line then some (D.lst ((Txt.split z w).map .str)) else none) = some d := h3
          obtain ⟨w', r, rfl, hw, hr⟩ := h2
          cases (show r = [] from hr)
          cases hw
          by_cases hh : w.length ≠ 0 ∧ z.length + 2 ≤ line
          · rw [if_pos hh] at h3
            cases h3
            refine ⟨z, w, rfl, rfl, by simpa using hh.1, by rw [sline]; exact hh.2, fun p hp => q _ _ _ ι (rp.lay hp) (Ext.lay rp.gs hp) ⟨p, _, rfl, upd_same, reps_strs _⟩⟩
          · rw [if_neg hh] at h3; cases h3
        | _ => cases h3
  | dct k => cases ds <;> cases h3
  | lst k => cases ds <;> cases h3
  | _ => cases ds <;> cases h3
theorem me_join : MtR X "str.join" (rMe X.K cl .join) := by
  refine mt_by mt_join fun x vs H Q h => ?_
  obtain ⟨S, G, ι, dx, ds, d, rp, h1, h2, h3, q⟩ := h
  cases dx with
  | str z =>
    cases h1
    cases ds with
    | nil => cases h3
    | cons y r =>
      cases r with
      | cons _ _ => cases y <;> cases h3
      | nil =>
        obtain ⟨w', r, rfl, hw, hr⟩ := h2
        cases (show r = [] from hr)
        cases y with
        | lst xs =>
          have h3 : (match strsD xs with | some ys => if joinOk z ys = true then some (D.str (Txt.join z ys)) else none | none => none) = some d := h3
          cases qs : strsD xs with
          | none => rw [qs] at h3; cases h3
          | some ys =>
            rw [qs] at h3
            simp only at h3
            split at h3
            · rename_i hh
              cases h3
              obtain ⟨a, ws, rfl, ha, hz⟩ := hw
              have := strs_of qs hz
              subst this
              exact ⟨z, a, ys, rfl, rfl, .inl (.inl (.inl (rp.gs _ _ ha))), of_decide_eq_true hh, q _ H G ι rp .refl rfl⟩
            · cases h3
        | tup xs =>
          have h3 : (match strsD xs with | some ys => if joinOk z ys = true then some (D.str (Txt.join z ys)) else none | none => none) = some d := h3
          cases qs : strsD xs with
          | none => rw [qs] at h3; cases h3
          | some ys =>
            rw [qs] at h3
            simp only at h3
            split at h3
            · rename_i hh
              cases h3
              obtain ⟨a, ws, rfl, ha, hz⟩ := hw
              have := strs_of qs hz
              subst this
              exact ⟨z, a, ys, rfl, rfl, .inr (SqT.up ha rp.gs), of_decide_eq_true hh, q _ H G ι rp .refl rfl⟩
            · cases h3
        | _ => cases h3
  | dct k => cases ds <;> cases h3
  | lst k => cases ds <;> cases h3
  | _ => cases ds <;> cases h3
theorem trees_of1 {env : PySem.Env} {pos : Pos} (h : noStar e = true) : backTo pos (starEach [e] env) = [(false, eval e env)] := by
  rw [starEach_of h]; rfl
theorem trees_of2 {env : PySem.Env} {pos : Pos} (h : noStar e = true) (h' : noStar a = true) : backTo pos (starEach [e, a] env) = [(false, eval e env), (false, eval a env)] := by
  rw [starEach_of h, starEach_of h']; rfl
/-- what a method's call asks -/
theorem me_tx {K : PySem.W.Frag} {m : Me} {σ : L2.St} {H : Hp} {Q : VK} (h : tX K cl (RSv K cl) (evalE C (.me m r rs)) σ H Q) : tX K cl (RSv K cl) (evalE C r) σ H (fun x H1 => (∃ S G ι sv d, RpH K cl S G ι H1 ∧ RepS K cl G ι sv x ∧ rd S sv = some d ∧ okK m (some d) = true ∧ RdV K cl G H1 d x) ∧
    tX K cl (RLs K cl) (evalEs C rs) σ H1 fun vs H2 => rMe K cl m x vs H2 Q) := by
  obtain ⟨env, S, G, ι, rp, re, po⟩ := h
  rw [evalE] at po
  refine ⟨env, S, G, ι, rp, re, ?_⟩
  refine Post.seq po fun x S1 v H1 G1 ι1 e1 rp1 ex1 r1 po1 => ?_
  split at po1
  · rename_i hk
    cases qx : rd S1 x with
    | none => rw [qx] at hk; cases hk
    | some d0 =>
      rw [qx] at hk
      refine ⟨⟨S1, G1, ι1, x, d0, rp1, r1, qx, hk, rd_rep rp1 r1 qx⟩, env, S1, G1, ι1, rp1, re.up ex1, ?_⟩
      refine Post.seq (Post.up po1 ex1 (fun _ _ _ _ _ h => h)) fun ys S2 vs H2 G2 ι2 e2 rp2 ex2 r2 po2 => ?_
      have po2 := Post.up po2 ex2 (fun _ _ _ _ _ h => h)
      cases qy : rd S2 x with
      | none => simp only [qy] at po2; exact po2.elim
      | some d =>
        cases qp : purs ys with
        | none => simp only [qy, qp] at po2; exact po2.elim
        | some ds =>
          simp only [qy, qp] at po2
          obtain ⟨dd, qd, po2⟩ := post_ofO po2
          exact ⟨S2, G2, ι2, d, ds, dd, rp2, rd_rep rp2 (RepS.up r1 ex2) qy, purs_rep qp r2, qd, po2⟩
  · exact po1.elim
theorem okK_lst {m : Me} {d : D} (h : okK m (some d) = true) : (m = .index ∨ m = .count → ∃ xs, d = .lst xs) ∧ (m = .get → ∃ k, d = .dct k) ∧ (m = .split ∨ m = .join → ∃ z, d = .str z) := by
  cases d <;> cases m <;> first | (simp [okK] at h; done) | (refine ⟨fun z => ?_, fun z => ?_, fun z => ?_⟩ <;> first | exact ⟨_, rfl⟩ | (rcases z with z | z <;> cases z) | cases z)
def Me.name : Me → Str
  | .index => "index" | .get => "get" | .split => "split" | .join => "join" | .count => "count"
theorem one_arg_tx {K : PySem.W.Frag} {σ : L2.St} {H : Hp} {q : List V → Hp → Prop} (h : tX K cl (RLs K cl) (evalEs C (.cons r .nil)) σ H q) : tX K cl (RSv K cl) (evalE C r) σ H fun y H2 => q [y] H2 := by
  obtain ⟨env, S, G, ι, rp, re, po⟩ := h
  rw [evalEs] at po
  refine ⟨env, S, G, ι, rp, re, ?_⟩
  refine Post.seq po fun x S1 v H1 G1 ι1 e1 rp1 ex1 r1 po1 => ?_
  rw [evalEs] at po1
  exact po1 _ H1 G1 ι1 rp1 ex1 (.cons r1 .nil)
theorem two_arg_tx {K : PySem.W.Frag} {σ : L2.St} {H : Hp} {q : List V → Hp → Prop} (h : tX K cl (RLs K cl) (evalEs C (.cons r (.cons ra .nil))) σ H q) : tX K cl (RSv K cl) (evalE C r) σ H fun y H2 => tX K cl (RSv K cl) (evalE C ra) σ H2 fun z H3 => q [y, z] H3 := by
  obtain ⟨env, S, G, ι, rp, re, po⟩ := h
  rw [evalEs] at po
  refine ⟨env, S, G, ι, rp, re, ?_⟩
  refine Post.seq po fun x S1 v H1 G1 ι1 e1 rp1 ex1 r1 po1 => ?_
  rw [evalEs] at po1
  refine ⟨env, S1, G1, ι1, rp1, re.up ex1, ?_⟩
  have po1 := Post.up po1 ex1 (fun _ _ _ _ _ h => h)
  cases q1 : evalE C ra env S1 with
  | exc _ _ _ => rw [q1] at po1; exact po1.elim
  | bad => rw [q1] at po1; exact po1.elim
  | ok y S2 =>
    rw [q1] at po1
    intro w H2 G2 ι2 rp2 ex2 r2
    simp only [Res.bind_ok, evalEs] at po1
    exact po1 _ H2 G2 ι2 rp2 ex2 (.cons (RepS.up r1 ex2) (.cons r2 .nil))
theorem se_meIndex {apos cpos : Pos} {k : Nat} (hr : Room k X.A) (hb : noCall a = true) (hs : noStar e = true) (hline : (apos.endLine == cpos.line) = true) (ho : SE X cl a (evalE C ra)) (he : SE X cl e (evalE C r)) :
    SE X cl (.Call (.Attribute a "index" apos) [e] [] cpos) (evalE C (.me .index ra (.cons r .nil))) := by
  refine pe_by (pe_bm PySem.F.plainAttrs_list PySem.F.slot_list_index PySem.F.type_list_index (me_index (cl := cl) (by have := hr.un; omega)) ho (pa_cons he pa_nil (starEach_of hs)) (base_of hb) (few_ok (by simp [hs]) (by simp)) hline (starEach_of hs) (plain_of rfl)) fun σ H Q h => ?_
  obtain ⟨env, S, G, ι, rp, re, po⟩ := me_tx h
  refine ⟨env, S, G, ι, rp, re, Post.mono po fun x H1 z => ?_⟩
  obtain ⟨⟨S1, G1, ι1, sv, d, rp1, r1, qd, hk, hv⟩, z⟩ := z
  obtain ⟨xs, rfl⟩ := (okK_lst hk).1 (.inl rfl)
  obtain ⟨a', vs, rfl, h1, h2⟩ := hv
  exact ⟨.inl ⟨rfl, vs, .inl (.inl h1)⟩, one_arg_tx z⟩
theorem se_meCount {apos cpos : Pos} {k : Nat} (hr : Room k X.A) (hb : noCall a = true) (hs : noStar e = true) (hline : (apos.endLine == cpos.line) = true) (ho : SE X cl a (evalE C ra)) (he : SE X cl e (evalE C r)) :
    SE X cl (.Call (.Attribute a "count" apos) [e] [] cpos) (evalE C (.me .count ra (.cons r .nil))) := by
  refine pe_by (pe_bm PySem.F.plainAttrs_list PySem.F.slot_list_count PySem.F.type_list_count (me_count (cl := cl) (by have := hr.un; omega)) ho (pa_cons he pa_nil (starEach_of hs)) (base_of hb) (few_ok (by simp [hs]) (by simp)) hline (starEach_of hs) (plain_of rfl)) fun σ H Q h => ?_
  obtain ⟨env, S, G, ι, rp, re, po⟩ := me_tx h
  refine ⟨env, S, G, ι, rp, re, Post.mono po fun x H1 z => ?_⟩
  obtain ⟨⟨S1, G1, ι1, sv, d, rp1, r1, qd, hk, hv⟩, z⟩ := z
  obtain ⟨xs, rfl⟩ := (okK_lst hk).1 (.inr rfl)
  obtain ⟨a', vs, rfl, h1, h2⟩ := hv
  exact ⟨.inl ⟨rfl, vs, .inl (.inl h1)⟩, one_arg_tx z⟩
theorem se_meStr {m : Me} {apos cpos : Pos} (hm : m = .split ∨ m = .join) (hb : noCall a = true) (hs : noStar e = true) (hline : (apos.endLine == cpos.line) = true) (ho : SE X cl a (evalE C ra)) (he : SE X cl e (evalE C r)) :
    SE X cl (.Call (.Attribute a m.name apos) [e] [] cpos) (evalE C (.me m ra (.cons r .nil))) := by
  have key : ∀ σ H Q, tX X.K cl (RSv X.K cl) (evalE C (.me m ra (.cons r .nil))) σ H Q → tM1 (rMe X.K cl m) (tX X.K cl (RSv X.K cl) (evalE C ra)) (tX X.K cl (RSv X.K cl) (evalE C r)) σ H Q := fun σ H Q h => by
    obtain ⟨env, S, G, ι, rp, re, po⟩ := me_tx h
    refine ⟨env, S, G, ι, rp, re, Post.mono po fun x H1 z => ?_⟩
    obtain ⟨⟨S1, G1, ι1, sv, d, rp1, r1, qd, hk, hv⟩, z⟩ := z
    obtain ⟨y, rfl⟩ := (okK_lst hk).2.2 hm
    exact ⟨⟨y, hv⟩, one_arg_tx z⟩
  have hst : starEach [e] X.env = [(false, eval e X.env)] := by rw [starEach_of hs]; rfl
  rcases hm with rfl | rfl
  · exact pe_by (pe_m1 PySem.F.slot_str_split PySem.F.type_str_split me_split ho he hst (base_of hb) hline) key
  · exact pe_by (pe_m1 PySem.F.slot_str_join PySem.F.type_str_join me_join ho he hst (base_of hb) hline) key
theorem get_of {K : PySem.W.Frag} {dx : D} {x y : V} {ds : List D} {d : D} {G H : Hp} (gs : Same G H) (h1 : RdV K cl G H dx x) (h3 : meD .get dx ds = some d) : ∃ k, dx = .dct k := by
  cases dx with
  | dct k => exact ⟨k, rfl⟩
  | lst k => cases ds <;> cases h3
  | str k => cases ds <;> cases h3
  | _ => cases ds <;> cases h3
theorem se_meGet1 {apos cpos : Pos} {k : Nat} (hr : Room k X.A) (hb : noCall a = true) (hs : noStar e = true) (hline : (apos.endLine == cpos.line) = true) (ho : SE X cl a (evalE C ra)) (he : SE X cl e (evalE C r)) :
    SE X cl (.Call (.Attribute a "get" apos) [e] [] cpos) (evalE C (.me .get ra (.cons r .nil))) := by
  refine pe_by (pe_dget1 (by have := hr.un; omega) ho he ⟨base_of hb, few_ok (by simp [hs]) (by simp), hline, trees_of1 hs⟩) fun σ H Q h => ?_
  obtain ⟨env, S, G, ι, rp, re, po⟩ := me_tx h
  refine ⟨env, S, G, ι, rp, re, Post.mono po fun x H1 z => ?_⟩
  obtain ⟨⟨S1, G1, ι1, sv, d, rp1, r1, qd, hk, hv⟩, z⟩ := z
  obtain ⟨kk, rfl⟩ := (okK_lst hk).2.1 rfl
  obtain ⟨a', ks, rfl, h1, h2⟩ := hv
  refine ⟨a', rfl, .inl ⟨ks, .inl h1⟩, ?_⟩
  obtain ⟨env2, S2, G2, ι2, rp2, re2, po2⟩ := one_arg_tx z
  refine ⟨env2, S2, G2, ι2, rp2, re2, Post.mono po2 fun y H3 z3 => ?_⟩
  obtain ⟨S3, G3, ι3, dx, ds, dd, rp3, w1, w2, w3, q⟩ := z3
  obtain ⟨k3, rfl⟩ := get_of (y := y) rp3.gs w1 w3
  cases ds with
  | nil => cases w3
  | cons dy r =>
    obtain ⟨v', r', e1, w4, w5⟩ := w2
    cases e1
    cases r with
    | cons _ _ => obtain ⟨_, _, e2, _⟩ := w5; cases e2
    | nil =>
      have w3 : (if keyD dy = true then some ((lookD dy k3).getD .non) else none) = some dd := w3
      by_cases hkd : keyD dy = true
      · rw [if_pos hkd] at w3
        cases w3
        obtain ⟨b3, ks3, e3, h5, h6⟩ := w1
        cases e3
        obtain ⟨o, h7, h8, h9⟩ := dget_of hkd (RdV.of rp3.gs w4) h5 h6
        refine ⟨o, h7, ?_⟩
        rcases h9 with ⟨h9, rfl⟩ | ⟨d9, v9, h9, rfl, h10⟩
        · rw [h9] at q; exact q _ H3 G3 ι3 rp3 .refl rfl
        · rw [h9] at q; exact q _ H3 G3 ι3 rp3 .refl h10
      · rw [if_neg hkd] at w3; cases w3
theorem se_meGet2 {apos cpos : Pos} {k : Nat} (hr : Room k X.A) (hb : noCall a = true) (hs : noStar e = true) (hs' : noStar b = true) (hline : (apos.endLine == cpos.line) = true) (ho : SE X cl a (evalE C ra)) (he : SE X cl e (evalE C r)) (hf : SE X cl b (evalE C rb)) :
    SE X cl (.Call (.Attribute a "get" apos) [e, b] [] cpos) (evalE C (.me .get ra (.cons r (.cons rb .nil)))) := by
  refine pe_by (pe_dget2 (by have := hr.un; omega) ho he hf ⟨base_of hb, few_ok (by simp [hs, hs']) (by simp), hline, trees_of2 hs hs'⟩) fun σ H Q h => ?_
  obtain ⟨env, S, G, ι, rp, re, po⟩ := me_tx h
  refine ⟨env, S, G, ι, rp, re, Post.mono po fun x H1 z => ?_⟩
  obtain ⟨⟨S1, G1, ι1, sv, d, rp1, r1, qd, hk, hv⟩, z⟩ := z
  obtain ⟨kk, rfl⟩ := (okK_lst hk).2.1 rfl
  obtain ⟨a', ks, rfl, h1, h2⟩ := hv
  refine ⟨a', rfl, .inl ⟨ks, .inl h1⟩, ?_⟩
  obtain ⟨env2, S2, G2, ι2, rp2, re2, po2⟩ := two_arg_tx z
  refine ⟨env2, S2, G2, ι2, rp2, re2, Post.mono po2 fun y H3 z3 => ?_⟩
  obtain ⟨env3, S3, G3, ι3, rp3, re3, po3⟩ := z3
  refine ⟨env3, S3, G3, ι3, rp3, re3, Post.mono po3 fun w H4 z4 => ?_⟩
  obtain ⟨S4, G4, ι4, dx, ds, dd, rp4, w1, w2, w3, q⟩ := z4
  obtain ⟨k3, rfl⟩ := get_of (y := y) rp4.gs w1 w3
  cases ds with
  | nil => cases w3
  | cons dy r =>
    obtain ⟨v', r', e1, w4, w5⟩ := w2
    cases e1
    cases r with
    | nil => cases (show [w] = [] from w5)
    | cons dz r =>
      obtain ⟨v2, r2, e2, w6, w7⟩ := w5
      cases e2
      cases r with
      | cons _ _ => obtain ⟨_, _, e2, _⟩ := w7; cases e2
      | nil =>
        have w3 : (if keyD dy = true then some ((lookD dy k3).getD dz) else none) = some dd := w3
        by_cases hkd : keyD dy = true
        · rw [if_pos hkd] at w3
          cases w3
          obtain ⟨b3, ks3, e3, h5, h6⟩ := w1
          cases e3
          obtain ⟨o, h7, h8, h9⟩ := dget_of hkd (RdV.of rp4.gs w4) h5 h6
          refine ⟨o, h7, ?_⟩
          rcases h9 with ⟨h9, rfl⟩ | ⟨d9, v9, h9, rfl, h10⟩
          · rw [h9] at q; exact q _ H4 G4 ι4 rp4 .refl w6
          · rw [h9] at q; exact q _ H4 G4 ι4 rp4 .refl h10
        · rw [if_neg hkd] at w3; cases w3
end
end R
end
section
set_option linter.all false
set_option maxRecDepth 100000
set_option maxHeartbeats 1000000
/-! R10: calls of defs, instances. -/
namespace R
open PySem PySem.Spec PyProof.Rows L2
/-- what a call of f asks -/
def spR (K : PySem.W.Frag) (cl : Nat → Addr) (C : CallF) (n f : Nat) : Sp := fun vs H Q _ => ∃ svs S G ι, RpH K cl S G ι H ∧ Paired (RepS K cl G ι) svs vs ∧ svs.length = n ∧ Post K cl (RSv K cl) G ι H Q (C f svs S)
def ArOk (C : CallF) (n f : Nat) : Prop := ∀ vs S a S', C f vs S = .ok a S' → vs.length = n
section
variable {X : Cx} {cl : Nat → Addr} {e a b c : Expr} {es : List Expr} {x m : Str} {p pos apos : Pos} {C : CallF} {r ra rb : RE} {rs : REs} {n f k : Nat} {fa : Addr} {fd : FuncData} {ps : List Str}
theorem sp_of {K : PySem.W.Frag} {S : Sto} {G G1 H H1 : Hp} {ι ι1 : List Addr} {svs : List SV} {vs : List V} {Q : VK} (ar : ArOk C n f) (rp : RpH K cl S G1 ι1 H1) (ex : Ext G H ι G1 H1 ι1) (rr : Paired (RepS K cl G1 ι1) svs vs)
    (h : Post K cl (RSv K cl) G ι H Q (C f svs S)) : spR K cl C n f vs H1 Q E0 := by
  refine ⟨svs, S, G1, ι1, rp, rr, ?_, Post.up h ex fun _ _ _ _ _ h => h⟩
  cases q : C f svs S with
  | ok a S' => exact ar _ _ _ _ q
  | exc c d S' => rw [q] at h; exact h.elim
  | bad => rw [q] at h; exact h.elim
theorem se_call (ar : ArOk C n f) (F : FnG X.prog X.w X.K X.mg X.base k fa fd ps (spR X.K cl C n f)) (cA : Calm X.A) (hr : Room k X.A) (hg : Gl X x) (hm : X.mg x = some (.ref fa)) (hk : PySem.W.keepIn X.K (.ref fa) = true) (hb : Binds X.K fd ps [])
    (hdb : (x == ("__debug__" : Str)) = false) (hs : (e :: es).all noStar = true) (ha : SA X cl (e :: es) (evalEs C rs)) : SE X cl (.Call (.Name x p) (e :: es) [] pos) (evalE C (.call f rs)) := by
  have hs' : noStar e = true ∧ es.all noStar = true := by simpa using hs
  refine pe_by (pe_go F cA hr hg hm hk hb ha hdb (starEach_of hs'.1) (plain_of hs'.2)) fun σ H Q h => ?_
  obtain ⟨env, S, G, ι, rp, re, po⟩ := h
  rw [evalE] at po
  exact ⟨env, S, G, ι, rp, re, Post.seq po fun svs S1 vs H1 G1 ι1 e1 rp1 ex1 r1 po1 => sp_of ar rp1 ex1 r1 po1⟩
theorem se_call0 (ar : ArOk C n f) (F : FnG X.prog X.w X.K X.mg X.base k fa fd ps (spR X.K cl C n f)) (cA : Calm X.A) (hr : Room k X.A) (hg : Gl X x) (hm : X.mg x = some (.ref fa)) (hk : PySem.W.keepIn X.K (.ref fa) = true) (hb : Binds X.K fd ps [])
    (hdb : (x == ("__debug__" : Str)) = false) : SE X cl (.Call (.Name x p) [] [] pos) (evalE C (.call f .nil)) := by
  refine pe_by (pe_go0 F cA hr hg hm hk hb hdb) fun σ H Q h => ?_
  obtain ⟨env, S, G, ι, rp, re, po⟩ := h
  rw [evalE, evalEs] at po
  exact sp_of ar rp .refl .nil po
theorem reps_perm {K : PySem.W.Frag} {G : Hp} {ι : List Addr} {svs : List SV} {vs : List V} (h : Paired (RepS K cl G ι) svs vs) : ∀ perm : List Nat, Paired (RepS K cl G ι) (permL perm svs) (perm.filterMap fun i => vs[i]?)
  | [] => .nil
  | i :: perm => by
    have ih := reps_perm h perm
    unfold permL at ih ⊢
    rw [List.filterMap_cons, List.filterMap_cons]
    cases q : svs[i]? with
    | none =>
      have q' : vs[i]? = none := by
        rw [List.getElem?_eq_none_iff] at q ⊢
        rw [← h.length]; exact q
      rw [q']; exact ih
    | some v =>
      obtain ⟨u, h1, h2⟩ := Paired.get h q
      rw [h1]
      exact .cons h2 ih
/-- an instance -/
theorem RepF.look {K : PySem.W.Frag} {G : Hp} {g : Str} {d : D} : ∀ {fs : List (Str × D)} {fv : List (Str × V)}, RepF K cl G fs fv → fs.lookup g = some d → ∃ v, fv.lookup g = some v ∧ Rep K cl G d v
  | [], _, _, h => by cases h
  | (q, w) :: r, _, h, e => by
    obtain ⟨v, s, rfl, h2, h3⟩ := h
    rw [List.lookup_cons] at e ⊢
    cases hq : (g == q) with
    | true => rw [hq] at e; cases e; exact ⟨v, rfl, h2⟩
    | false => rw [hq] at e; exact RepF.look h3 e
theorem RepF.lookN {K : PySem.W.Frag} {G : Hp} {g : Str} : ∀ {fs : List (Str × D)} {fv : List (Str × V)}, RepF K cl G fs fv → fs.lookup g = none → fv.lookup g = none
  | [], _, h, _ => by cases (show _ = [] from h); rfl
  | (q, w) :: r, _, h, e => by
    obtain ⟨v, s, rfl, h2, h3⟩ := h
    rw [List.lookup_cons] at e ⊢
    cases hq : (g == q) with
    | true => rw [hq] at e; cases e
    | false => rw [hq] at e; exact RepF.lookN h3 e
theorem isO_rep {K : PySem.W.Frag} {S : Sto} {G H : Hp} {ι : List Addr} {cn : Nat} {sv : SV} {v : V} {fs : List (Str × D)} (rp : RpH K cl S G ι H) (h : RepS K cl G ι sv v) (e : isO cn sv S = some fs) : ∃ a dx fv, v = .ref a ∧ H a = some (.ins (cl cn) dx fv) ∧ RepF K cl G fs fv := by
  cases sv with
  | p d =>
    cases d with
    | obj c' gs =>
      have e : (if c' = cn then some gs else none) = some fs := e
      by_cases hc : c' = cn
      · rw [if_pos hc] at e
        cases e
        subst hc
        obtain ⟨a, dx, fv, h1, h2, h3⟩ := h
        exact ⟨a, dx, fv, h1, rp.gs _ _ h2, h3⟩
      · rw [if_neg hc] at e; cases e
    | _ => cases e
  | l i =>
    obtain ⟨a, h1, rfl⟩ := h
    unfold isO at e
    cases q : S[i]? with
    | none => simp only [q] at e; cases e
    | some cc =>
      have z := rp.cel i a cc h1 q
      cases cc with
      | obj c' gs =>
        simp only [q] at e
        by_cases hc : c' = cn
        · rw [if_pos hc] at e
          cases e
          subst hc
          obtain ⟨_, dx, fv, h2, h3⟩ := z
          exact ⟨a, dx, fv, rfl, h2, h3⟩
        · rw [if_neg hc] at e; cases e
      | _ => simp only [q] at e; cases e
theorem se_fld {cn : Nat} {g : Str} (c1 : Cls X.K (cl cn)) (c2 : NoAttr X.K (cl cn) g) (he : SE X cl e (evalE C r)) (hb : attributeBase e g X.env (eval e X.env) = eval e X.env) : SE X cl (.Attribute e g pos) (evalE C (.fld cn r g)) := by
  refine pe_by (pe_fld he hb) fun σ H Q h => ?_
  obtain ⟨env, S, G, ι, rp, re, po⟩ := h
  rw [evalE] at po
  refine ⟨env, S, G, ι, rp, re, Post.seq po fun sv S1 v H1 G1 ι1 e1 rp1 ex1 r1 po1 => ?_⟩
  unfold fldS at po1
  cases q : isO cn sv S1 with
  | none => rw [q] at po1; exact po1.elim
  | some fs =>
    rw [q] at po1
    obtain ⟨d, qd, po1⟩ := post_ofO po1
    obtain ⟨a, dx, fv, h1, h2, h3⟩ := isO_rep rp1 r1 q
    obtain ⟨w, h4, h5⟩ := RepF.look h3 qd
    exact ⟨a, cl cn, dx, fv, w, h1, h2, c1, c2, h4, po1 w H1 G1 ι1 rp1 ex1 h5⟩
theorem se_prp {cn : Nat} {g : Str} {pr : Addr} (ar : ArOk C n f) (F : FnG X.prog X.w X.K X.mg X.base k fa fd ps (spR X.K cl C n f)) (cA : Calm X.A) (hr : Room (k + 1) X.A) (hb : Binds X.K fd ps []) (c1 : Cls X.K (cl cn)) (hp : PropOf X.K (cl cn) g pr fa)
    (he : SE X cl e (evalE C r)) (hab : attributeBase e g X.env (eval e X.env) = eval e X.env) : SE X cl (.Attribute e g pos) (evalE C (.prp cn f r)) := by
  refine pe_by (pe_goProp he c1 hp F cA hr hb hab) fun σ H Q h => ?_
  obtain ⟨env, S, G, ι, rp, re, po⟩ := h
  rw [evalE] at po
  refine ⟨env, S, G, ι, rp, re, Post.seq po fun sv S1 v H1 G1 ι1 e1 rp1 ex1 r1 po1 => ?_⟩
  cases q : isO cn sv S1 with
  | none => rw [q] at po1; exact po1.elim
  | some fs =>
    rw [q] at po1
    obtain ⟨a, dx, fv, h1, h2, h3⟩ := isO_rep rp1 r1 q
    exact ⟨a, dx, fv, h1, h2, sp_of ar rp1 ex1 (.cons r1 .nil) po1⟩
theorem mth_post {K : PySem.W.Frag} {S1 : Sto} {G H G1 H1 : Hp} {ι ι1 : List Addr} {cn : Nat} {sv : SV} {v : V} {Q : VK} {g : Res SV} (rp1 : RpH K cl S1 G1 ι1 H1) (r1 : RepS K cl G1 ι1 sv v)
    (h : Post K cl (RSv K cl) G ι H Q (if mthS cn m sv S1 = true then g else .bad)) : (∃ a dx fv, v = .ref a ∧ H1 a = some (.ins (cl cn) dx fv) ∧ fv.lookup m = none) ∧ Post K cl (RSv K cl) G ι H Q g := by
  by_cases hh : mthS cn m sv S1 = true
  · rw [if_pos hh] at h
    refine ⟨?_, h⟩
    unfold mthS at hh
    cases q : isO cn sv S1 with
    | none => rw [q] at hh; cases hh
    | some fs =>
      rw [q] at hh
      obtain ⟨a, dx, fv, h1, h2, h3⟩ := isO_rep rp1 r1 q
      exact ⟨a, dx, fv, h1, h2, RepF.lookN h3 (Option.isNone_iff_eq_none.mp hh)⟩
  · rw [if_neg hh] at h; exact h.elim
theorem se_meth {cn : Nat} {pl : Sem Bool} (ar : ArOk C n f) (F : FnG X.prog X.w X.K X.mg X.base k fa fd ps (spR X.K cl C n f)) (cA : Calm X.A) (hr : Room k X.A) (hb : Binds X.K fd ps []) (c1 : Cls X.K (cl cn)) (hm : Meth X.K (cl cn) m fa)
    (ho : SE X cl a (evalE C ra)) (hs : (e :: es).all noStar = true) (ha : SA X cl (e :: es) (evalEs C rs))
    (ht : eval (.Call (.Attribute a m apos) (e :: es) [] pos) X.env = (eval a X.env >>= fun ov => (standAt apos.atName >>= fun _ => (holding [ov] (getMethod ov m pl) >>= fun fm => callWith pos fm.1 fm.2 (backTo pos (starEach (e :: es) X.env)) (backToKw pos (keywordEach [] X.env)))))) :
    SE X cl (.Call (.Attribute a m apos) (e :: es) [] pos) (evalE C (.meth cn m f ra rs)) := by
  have hs' : noStar e = true ∧ es.all noStar = true := by simpa using hs
  refine pe_by (pe_goM ho c1 hm F cA hr hb ha (starEach_of hs'.1) (plain_of hs'.2) ht) fun σ H Q h => ?_
  obtain ⟨env, S, G, ι, rp, re, po⟩ := h
  rw [evalE] at po
  refine ⟨env, S, G, ι, rp, re, Post.seq po fun sv S1 v H1 G1 ι1 e1 rp1 ex1 r1 po1 => ?_⟩
  obtain ⟨⟨a, dx, fv, h1, h2, h3⟩, po1⟩ := mth_post rp1 r1 po1
  refine ⟨a, dx, fv, h1, h2, h3, env, S1, G1, ι1, rp1, re.up ex1, ?_⟩
  refine Post.seq (Post.up po1 ex1 fun _ _ _ _ _ h => h) fun svs S2 vs H2 G2 ι2 e2 rp2 ex2 r2 po2 => ?_
  exact sp_of ar rp2 ex2 (.cons (RepS.up r1 ex2) r2) po2
theorem se_meth0 {cn : Nat} {pl : Sem Bool} (ar : ArOk C n f) (F : FnG X.prog X.w X.K X.mg X.base k fa fd ps (spR X.K cl C n f)) (cA : Calm X.A) (hr : Room k X.A) (hb : Binds X.K fd ps []) (c1 : Cls X.K (cl cn)) (hm : Meth X.K (cl cn) m fa)
    (ho : SE X cl a (evalE C ra))
    (ht : eval (.Call (.Attribute a m apos) [] [] pos) X.env = (eval a X.env >>= fun ov => (standAt apos.atName >>= fun _ => (holding [ov] (getMethod ov m pl) >>= fun fm => callWith pos fm.1 fm.2 (backTo pos (starEach [] X.env)) (backToKw pos (keywordEach [] X.env)))))) :
    SE X cl (.Call (.Attribute a m apos) [] [] pos) (evalE C (.meth cn m f ra .nil)) := by
  refine pe_by (pe_goM0 ho c1 hm F cA hr hb ht) fun σ H Q h => ?_
  obtain ⟨env, S, G, ι, rp, re, po⟩ := h
  rw [evalE] at po
  refine ⟨env, S, G, ι, rp, re, Post.seq po fun sv S1 v H1 G1 ι1 e1 rp1 ex1 r1 po1 => ?_⟩
  obtain ⟨⟨a, dx, fv, h1, h2, h3⟩, po1⟩ := mth_post rp1 r1 po1
  rw [evalEs] at po1
  exact ⟨a, dx, fv, h1, h2, h3, sp_of ar rp1 ex1 (.cons r1 .nil) po1⟩
/-! making instances -/
theorem RpH.made {K : PySem.W.Frag} {S : Sto} {G H : Hp} {ι : List Addr} {y dx : Addr} {cn : Nat} (rp : RpH K cl S G ι H) (h1 : H y = none) (h2 : H dx = none) (h3 : dx ≠ y) :
    RpH K cl (S ++ [.obj cn []]) G (ι ++ [y]) (upd (upd H dx (.own y)) y (.ins (cl cn) dx [])) ∧ Ext G H ι G (upd (upd H dx (.own y)) y (.ins (cl cn) dx [])) (ι ++ [y]) := by
  have h1' : (upd H dx (.own y)) y = none := by rw [upd_ne (Ne.symm h3)]; exact h1
  have rp1 := rp.layH (o := .own y) h2
  have rp2 := rp1.layH (o := .ins (cl cn) dx []) h1'
  have gy : G y = none := by
    cases q : G y with
    | none => rfl
    | some o => rw [rp.gs _ _ q] at h1; cases h1
  have ny : y ∉ ι := fun z => rp.inh y z h1
  exact ⟨rp2.cell (c := .obj cn []) (by rw [upd_same]; simp) ny ⟨gy, dx, [], upd_same, rfl⟩, ((Ext.layH h2).trans (Ext.layH h1')).cell h1⟩
theorem mk_post {K : PySem.W.Frag} {S : Sto} {G H G0 H0 : Hp} {ι ι0 : List Addr} {svs : List SV} {vs : List V} {Q : VK} {y dx : Addr} {cn : Nat} (ar : ArOk C n f) (rp : RpH K cl S G ι H) (ex : Ext G0 H0 ι0 G H ι) (rr : Paired (RepS K cl G ι) svs vs) (h1 : H y = none) (h2 : H dx = none) (h3 : dx ≠ y)
    (h : Post K cl (RSv K cl) G0 ι0 H0 Q (mkS C cn f svs S)) : spR K cl C n f (.ref y :: vs) (upd (upd H dx (.own y)) y (.ins (cl cn) dx [])) (fun v H2 => v = .non ∧ Q (.ref y) H2) E0 := by
  obtain ⟨rp1, ex1⟩ := RpH.made (cn := cn) rp h1 h2 h3
  have ly : (ι ++ [y])[S.length]? = some y := by rw [← rp.len]; simp
  have ry : RepS K cl G (ι ++ [y]) (.l S.length) (.ref y) := ⟨y, ly, rfl⟩
  refine sp_of ar rp1 .refl (.cons ry (PySem.Paired.mono (fun _ _ z => RepS.up z ex1) rr)) ?_
  unfold mkS at h
  cases q : C f (.l S.length :: svs) (S ++ [.obj cn []]) with
  | exc _ _ _ => rw [q] at h; exact h.elim
  | bad => rw [q] at h; exact h.elim
  | ok w S' =>
    rw [q] at h
    intro v H2 G2 ι2 rp2 ex2 r2
    cases w with
    | l i => exact h.elim
    | p d =>
      cases d with
      | non =>
        cases r2
        exact ⟨rfl, h _ H2 G2 ι2 rp2 (ex.trans (ex1.trans ex2)) (RepS.up ry ex2)⟩
      | _ => exact h.elim
theorem mkf_post {K : PySem.W.Frag} {S : Sto} {G H G0 H0 : Hp} {ι ι0 : List Addr} {svs : List SV} {vs : List V} {Q : VK} {y dx : Addr} {cn : Nat} (ar : ArOk C n f) (rp : RpH K cl S G ι H) (ex : Ext G0 H0 ι0 G H ι) (rr : Paired (RepS K cl G ι) svs vs) (h1 : H y = none) (h2 : H dx = none) (h3 : dx ≠ y)
    (h : Post K cl (RSv K cl) G0 ι0 H0 Q (mkfS C cn f svs S)) : spR K cl C n f (.ref y :: vs) (upd (upd H dx (.own y)) y (.ins (cl cn) dx [])) (fun v H2 => v = .non ∧ Q (.ref y) H2) E0 := by
  obtain ⟨rp1, ex1⟩ := RpH.made (cn := cn) rp h1 h2 h3
  have ly : (ι ++ [y])[S.length]? = some y := by rw [← rp.len]; simp
  have ry : RepS K cl G (ι ++ [y]) (.l S.length) (.ref y) := ⟨y, ly, rfl⟩
  have ny : y ∉ ι := fun z => rp.inh y z h1
  refine sp_of ar rp1 .refl (.cons ry (PySem.Paired.mono (fun _ _ z => RepS.up z ex1) rr)) ?_
  unfold mkfS at h
  cases q : C f (.l S.length :: svs) (S ++ [.obj cn []]) with
  | exc _ _ _ => rw [q] at h; exact h.elim
  | bad => rw [q] at h; exact h.elim
  | ok w S' =>
    rw [q] at h
    intro v H2 G2 ι2 rp2 ex2 r2
    cases w with
    | l i => exact h.elim
    | p d =>
      cases d with
      | non =>
        cases r2
        refine ⟨rfl, ?_⟩
        simp only [Res.bind_ok] at h
        cases qc : S'[S.length]? with
        | none => rw [qc] at h; exact h.elim
        | some cc =>
          rw [qc] at h
          cases cc with
          | obj c' fs =>
            simp only at h
            by_cases hcl : (S'.take S.length).all (ownIn S.length) = true
            case neg => rw [if_neg hcl] at h; exact h.elim
            rw [if_pos hcl] at h
            obtain ⟨t, ht⟩ := ex2.i
            have lι2 : ι2[S.length]? = some y := by
              rw [ht, List.getElem?_append_left (List.getElem?_eq_some_iff.mp ly).1]; exact ly
            obtain ⟨g0, dx2, fv, g1, g2⟩ := rp2.cel _ _ _ lι2 qc
            have tk : ι2.take S.length = ι := by rw [ht, ← rp.len, List.append_assoc, List.take_left']; rfl
            have sub : ∀ a ∈ ι, a ∈ ι2 := fun a ha => by rw [ht]; simp [ha]
            have rp3 : RpH K cl (S'.take S.length) G2 ι H2 := by
              refine ⟨rp2.gs, ?_, rp.nd, fun a ha => rp2.inh a (sub a ha), fun i a c' e1 e2 => ?_⟩
              · have hz := rp.len
                rw [List.length_take, ← rp2.len, ht]; simp; omega
              · have li : i < ι.length := (List.getElem?_eq_some_iff.mp e1).1
                have own := List.all_eq_true.mp hcl c' (List.mem_of_getElem? e2)
                have z := rp2.cel i a c' (by rw [ht, List.append_assoc, List.getElem?_append_left li]; exact e1) (by
                  rw [List.getElem?_take] at e2
                  split at e2
                  · exact e2
                  · cases e2)
                rw [ht, List.append_assoc] at z
                exact z.less (by rw [rp.len]; exact own)
            obtain ⟨rp4, sg⟩ := rp3.freeze g1 g0 ny
            have ex3 : Ext G H ι (upd G2 y (.ins (cl c') dx2 fv)) H2 ι := by
              have z := ex1.trans ex2
              refine ⟨z.g.trans sg, ⟨[], by simp⟩, z.fr, fun a ha => .inl ha, fun a u e => ?_, z.hn⟩
              by_cases hb : a = y
              · subst hb; exact .inr (.inl h1)
              · rw [upd_ne hb] at e; exact z.gn a u e
            exact h (.ref y) H2 _ ι rp4 (ex.trans ex3) ⟨y, dx2, fv, rfl, upd_same, RepF.up sg _ _ g2⟩
          | _ => exact h.elim
      | _ => exact h.elim
theorem se_make {cn : Nat} (ar : ArOk C n f) (M : Mk X.K (cl cn) fa) (F : FnG X.prog X.w X.K X.mg X.base k fa fd ps (spR X.K cl C n f)) (cA : Calm X.A) (hr : Room (k + 1) X.A) (hg : Gl X x) (hm : X.mg x = some (.ref (cl cn))) (hb : Binds X.K fd ps [])
    (hdb : (x == ("__debug__" : Str)) = false) (hs : (e :: es).all noStar = true) (ha : SA X cl (e :: es) (evalEs C rs)) : SE X cl (.Call (.Name x p) (e :: es) [] pos) (evalE C (.make cn f rs)) := by
  have hs' : noStar e = true ∧ es.all noStar = true := by simpa using hs
  refine pe_by (pe_goMake M F cA hr hg hm hb ha hdb (starEach_of hs'.1) (plain_of hs'.2)) fun σ H Q h => ?_
  obtain ⟨env, S, G, ι, rp, re, po⟩ := h
  rw [evalE] at po
  exact ⟨env, S, G, ι, rp, re, Post.seq po fun svs S1 vs H1 G1 ι1 e1 rp1 ex1 r1 po1 y dx h1 h2 h3 => mk_post ar rp1 ex1 r1 h1 h2 h3 po1⟩
theorem se_mkf {cn : Nat} (ar : ArOk C n f) (M : Mk X.K (cl cn) fa) (F : FnG X.prog X.w X.K X.mg X.base k fa fd ps (spR X.K cl C n f)) (cA : Calm X.A) (hr : Room (k + 1) X.A) (hg : Gl X x) (hm : X.mg x = some (.ref (cl cn))) (hb : Binds X.K fd ps [])
    (hdb : (x == ("__debug__" : Str)) = false) (hs : (e :: es).all noStar = true) (ha : SA X cl (e :: es) (evalEs C rs)) : SE X cl (.Call (.Name x p) (e :: es) [] pos) (evalE C (.mkf cn f rs)) := by
  have hs' : noStar e = true ∧ es.all noStar = true := by simpa using hs
  refine pe_by (pe_goMake M F cA hr hg hm hb ha hdb (starEach_of hs'.1) (plain_of hs'.2)) fun σ H Q h => ?_
  obtain ⟨env, S, G, ι, rp, re, po⟩ := h
  rw [evalE] at po
  exact ⟨env, S, G, ι, rp, re, Post.seq po fun svs S1 vs H1 G1 ι1 e1 rp1 ex1 r1 po1 y dx h1 h2 h3 => mkf_post ar rp1 ex1 r1 h1 h2 h3 po1⟩
/-! keywords alone: their values from the left -/
abbrev SK (X : Cx) (cl : Nat → Addr) (es : List Keyword) (f : Env → Sto → Res (List SV)) : Prop := PK X es (tX X.K cl (RLs X.K cl) f)
def RE.len : REs → Nat
  | .nil => 0
  | .cons _ r => RE.len r + 1
  | .star _ r => RE.len r + 1
def RE.plain : REs → Bool
  | .nil => true
  | .cons _ r => RE.plain r
  | .star _ _ => false
theorem evalEs_len {C : CallF} {env : Env} : ∀ {rs : REs} {S S' : Sto} {vs : List SV}, RE.plain rs = true → evalEs C rs env S = .ok vs S' → vs.length = RE.len rs
  | .nil, _, _, _, _, h => by rw [evalEs] at h; cases h; rfl
  | .cons a r, S, S', vs, hp, h => by
    rw [evalEs] at h
    cases q : evalE C a env S with
    | exc _ _ _ => rw [q] at h; cases h
    | bad => rw [q] at h; cases h
    | ok v S1 =>
      rw [q] at h
      simp only [Res.bind_ok] at h
      cases q2 : evalEs C r env S1 with
      | exc _ _ _ => rw [q2] at h; cases h
      | bad => rw [q2] at h; cases h
      | ok ws S2 =>
        rw [q2] at h
        cases h
        show ws.length + 1 = RE.len r + 1
        rw [evalEs_len (rs := r) hp q2]
  | .star _ _, _, _, _, hp, _ => by cases hp
/-- a call by keywords alone -/
theorem se_callK {ks : List Str} {perm : List Nat} {kws : List Keyword} (ar : ArOk C n f) (F : FnG X.prog X.w X.K X.mg X.base k fa fd ps (spR X.K cl C n f)) (cA : Calm X.A) (hr : Room k X.A) (hg : Gl X x) (hm : X.mg x = some (.ref fa)) (hk : PySem.W.keepIn X.K (.ref fa) = true)
    (hb : KwB X.K fd ps ks perm 0) (hkw : SK X cl kws (evalEs C rs)) (hpl : RE.plain rs = true) (hln : RE.len rs = ks.length) (hall : (backToKw pos (keywordEach kws X.env)).all (·.1.isSome) = true) (hks : (backToKw pos (keywordEach kws X.env)).filterMap (·.1) = ks) (hdb : (x == ("__debug__" : Str)) = false)
    (hnone : ((backTo pos (starEach [] X.env)).any (·.1) || (backToKw pos (keywordEach kws X.env)).any (·.1.isNone)) = false) : SE X cl (.Call (.Name x p) [] kws pos) (evalE C (.callK f perm rs)) := by
  refine pe_by (pe_goK F cA hr hg hm hk hb hkw hall hks hdb hnone) fun σ H Q h => ?_
  obtain ⟨env, S, G, ι, rp, re, po⟩ := h
  rw [evalE] at po
  refine ⟨env, S, G, ι, rp, re, Post.seq po fun svs S1 vs H1 G1 ι1 e1 rp1 ex1 r1 po1 => ⟨?_, sp_of ar rp1 ex1 (reps_perm r1 perm) po1⟩⟩
  rw [← r1.length, evalEs_len hpl e1, hln]
theorem se_makeK {ks : List Str} {perm : List Nat} {kws : List Keyword} {cn : Nat} (ar : ArOk C n f) (M : Mk X.K (cl cn) fa) (F : FnG X.prog X.w X.K X.mg X.base k fa fd ps (spR X.K cl C n f)) (cA : Calm X.A) (hr : Room (k + 1) X.A) (hg : Gl X x) (hm : X.mg x = some (.ref (cl cn)))
    (hb : KwB X.K fd ps ks perm 1) (hkw : SK X cl kws (evalEs C rs)) (hpl : RE.plain rs = true) (hln : RE.len rs = ks.length) (hall : (backToKw pos (keywordEach kws X.env)).all (·.1.isSome) = true) (hks : (backToKw pos (keywordEach kws X.env)).filterMap (·.1) = ks) (hdb : (x == ("__debug__" : Str)) = false)
    (hnone : ((backTo pos (starEach [] X.env)).any (·.1) || (backToKw pos (keywordEach kws X.env)).any (·.1.isNone)) = false) : SE X cl (.Call (.Name x p) [] kws pos) (evalE C (.makeK cn f perm rs)) := by
  refine pe_by (pe_goMakeK M F cA hr hg hm hb hkw hall hks hdb hnone) fun σ H Q h => ?_
  obtain ⟨env, S, G, ι, rp, re, po⟩ := h
  rw [evalE] at po
  refine ⟨env, S, G, ι, rp, re, Post.seq po fun svs S1 vs H1 G1 ι1 e1 rp1 ex1 r1 po1 => ⟨?_, fun y dx h1 h2 h3 => mk_post ar rp1 ex1 (reps_perm r1 perm) h1 h2 h3 po1⟩⟩
  rw [← r1.length, evalEs_len hpl e1, hln]
theorem se_mkfK {ks : List Str} {perm : List Nat} {kws : List Keyword} {cn : Nat} (ar : ArOk C n f) (M : Mk X.K (cl cn) fa) (F : FnG X.prog X.w X.K X.mg X.base k fa fd ps (spR X.K cl C n f)) (cA : Calm X.A) (hr : Room (k + 1) X.A) (hg : Gl X x) (hm : X.mg x = some (.ref (cl cn)))
    (hb : KwB X.K fd ps ks perm 1) (hkw : SK X cl kws (evalEs C rs)) (hpl : RE.plain rs = true) (hln : RE.len rs = ks.length) (hall : (backToKw pos (keywordEach kws X.env)).all (·.1.isSome) = true) (hks : (backToKw pos (keywordEach kws X.env)).filterMap (·.1) = ks) (hdb : (x == ("__debug__" : Str)) = false)
    (hnone : ((backTo pos (starEach [] X.env)).any (·.1) || (backToKw pos (keywordEach kws X.env)).any (·.1.isNone)) = false) : SE X cl (.Call (.Name x p) [] kws pos) (evalE C (.mkfK cn f perm rs)) := by
  refine pe_by (pe_goMakeK M F cA hr hg hm hb hkw hall hks hdb hnone) fun σ H Q h => ?_
  obtain ⟨env, S, G, ι, rp, re, po⟩ := h
  rw [evalE] at po
  refine ⟨env, S, G, ι, rp, re, Post.seq po fun svs S1 vs H1 G1 ι1 e1 rp1 ex1 r1 po1 => ⟨?_, fun y dx h1 h2 h3 => mkf_post ar rp1 ex1 (reps_perm r1 perm) h1 h2 h3 po1⟩⟩
  rw [← r1.length, evalEs_len hpl e1, hln]
end
end R
end
section
set_option linter.all false
set_option maxRecDepth 100000
set_option maxHeartbeats 4000000
/-! RX1: errors of a class of the program, made and kept as values. -/
namespace R
open PySem PySem.Spec PyProof.Rows L2 NdefX
/-- the class at C of errors: its __init__ stands at fI, which says super() of the class at D -/
structure ExcF (K : PySem.W.Frag) (D fI C : Addr) : Prop where
  T : OexC K C
  iC : PySem.W.findIn K (.ref C) "__init__" = some (some (.ref fI))
  no : PySem.W.findIn K (.ref C) "value" = some none
  hg : PySem.W.findIn K (.ref C) "__getattribute__" = some (some (.builtin "BaseException.__getattribute__"))
  hk : PySem.W.findIn K (.ref C) "__getattr__" = some none
  hd : PySem.W.hasDictIn K C = true
  ha : PySem.W.findIn K (.ref C) "__class__" = some (some (.builtin "object.__class__"))
  hm : PySem.W.mroIn K C (.type "object") = some true
  hV : PySem.W.subIn K (.ref C) (.type "ValueError") = some true
  up : PySem.W.ks_superIn K C D "__init__" = some (some (.builtin "ValueError.__init__"))
  sub : PySem.W.mroIn K C (.ref D) = some true
  hn : PySem.W.specialIn K (.builtin "object.__class__") "__get__" = some (some (.builtin "getset_descriptor.__get__"))
  ht : PySem.W.takesIn K (.builtin "object.__class__") = some true
/-- the def at fI: def __init__(self, value): super().__init__(value); self.value = value -/
structure IniF (K : PySem.W.Frag) (prog : Program) (D fI : Addr) (fd : FuncData) : Prop where
  tI : PySem.W.typeIn K (.ref fI) = some (.type "function")
  op : PySem.W.nsIn K cStatics "thirdparty.any" = some none
  clD : (PySem.W.clsIn K D).isSome = true
  top : (prog.main.scope.names.lookup ("super" : Str)).isSome = false
  ex : ∃ (name qual : Str) (params : Arguments) (body : List Stmt) (scope : Scope) (dV kV doc pm ct : Value) (an : Option Addr) (cc cda : Addr) (p1 p2 p3 p4 p5 p6 p7 p8 p9 p10 : Pos) (oc : Value) (od : Option Addr) (osl : Array (Option Value)) (ar : Arg),
    fd = PySem.W.ksFn name qual params body scope dV kV doc pm an (.ref cda) ct cc ∧
    K.lookup fI = some ⟨oc, od, .func fd, osl⟩ ∧ PySem.W.codeIn K (.ref cda) qual = true ∧
    (∃ c1 c2 vs c4 file tf, K.lookup cda = some ⟨c1, c2, .fields vs, c4⟩ ∧ vs[2]? = some (.str file tf) ∧ ((prog.main.file : Str) == file) = true) ∧
    (∃ c1 c2 c4, K.lookup cc = some ⟨c1, c2, .cell (some (.ref D)), c4⟩) ∧
    (params.posonlyargs ++ params.args).head? = some ar ∧ ar.arg = ("self" : Str) ∧
    NScope ["self", "value", "__class__"] ["self", "value"] ["__class__"] scope ∧ scope.names.lookup ("super" : Str) = some .globalImplicit ∧ (p3.endLine == p5.line) = true ∧
    body = [.Expr (.Call (.Attribute (.Call (.Name "super" p1) [] [] p2) "__init__" p3) [.Name "value" p4] [] p5) p6, .Assign [.Attribute (.Name "self" p7) "value" p8] (.Name "value" p9) p10]
def spI (K : PySem.W.Frag) (D fI : Addr) : Sp := fun vs H Q _ => ∃ (a C : Addr) (y : V), vs = [.ref a, y] ∧ ExcF K D fI C ∧ H a = some (exo a C none) ∧
  ∀ t, H t = none → t ≠ a → Q .non (upd (upd H t (exd t [("value", y)])) a (exo a C (some t)))
section
variable {P : Program} {w : World} {K : PySem.W.Frag} {mg : Str → Option Value} {base : Heap} {D fI : Addr} {fd : FuncData}
theorem cell_ok {h : Heap} {cc : Addr} {c1 : Value} {c2 : Option Addr} {v : Option Value} {c4 : Array (Option Value)} (X : K.In h) (e : K.lookup cc = some ⟨c1, c2, .cell v, c4⟩) : h.IsCell cc v := ⟨_, X _ _ e, rfl⟩
/-- the built-in __init__ that is bound to an error -/
theorem call_mw {prog : Program} {A : Around} {E : Value → Shared → Prop} {s : Shared} {X : Cx} {pins : List (Addr × Obj)} {σ : L2.St} {H : Hp} {u a C : Addr} {rest : List Value} {Q : Value → Shared → Prop}
    (T : OexC X.K C) (I : Inv X pins σ H s) (e : H a = some (exo a C none)) (hu : s.heap.get? u = some (PySem.W.kxs_mw "ValueError.__init__" a)) (hl : rest.length ≤ sizeLine) (h : ∀ s', Inv X pins σ H s' → Q .none s') :
    wpAny (model X.prog X.w) A (call (.ref u) rest) Q E s := by
  obtain ⟨nm, q, N, bs, bm, hdct, sn, sub, ab, col, dd, k0, k1, k2, k3, hC, hbm⟩ := T.cls
  obtain ⟨t1, ho⟩ := exo_at I.hok e
  obtain ⟨hp, g, d, tk, os⟩ := s
  refine wpAny_call (codeAny_of_tree ?_)
  show wpAny _ A.in1 (callAny (.ref u) ⟨rest, []⟩) _ _ _
  simp only [callAny]
  refine wpAny_bind (wpAny_load hu ?_)
  simp only [PySem.W.kxs_mw, show (Value.type "method-wrapper" == Value.type "method" || Value.type "method-wrapper" == Value.type "builtin_function_or_method" || Value.type "method-wrapper" == Value.type "method-wrapper") = true by decide, if_true]
  refine PySem.W.KFB.if_so (by decide) ?_
  refine wpAny_bind (PySem.W.check_bound_init PySem.F.excBase_ValueError.toExcCallFacts (I.kIn _ _ hC) ho rfl ?_)
  refine wpAny_bind (wpAny_pure (wpAny_pure ?_))
  refine ⟨plainId_quiet PySem.F.excBase_ValueError.init.plain _, codeAny_builtin PySem.F.excBase_ValueError.initEntry ?_⟩
  refine PySem.W.exc_init_tree (cls := .ref C) (t0 := t1) (dv := none) (c2 := .none) (c3 := .none) (b4 := .bool false) ho hl fun h' k hx ht => ?_
  have J := I.write (t' := tk) (x := a) (e := a) (o := exo a C none) (by rw [e]; exact True.intro) (.inl rfl) k ⟨_, hx⟩ (exo_ok hx)
  have eu : upd H a (exo a C none) = H := by
    funext b
    by_cases hb : b = a
    · rw [hb, upd_same, e]
    · rw [upd_ne hb]
  rw [eu] at J
  exact h _ J

theorem boot_super : bootBuiltins "super" = some (.type "super") := by decide +kernel
theorem meth_he {l : Expr} {m : Str} {ap cp : Pos} {env : PySem.Env} {x : Str} {p : Pos} (h4 : (ap.endLine == cp.line) = true) :
    eval (.Call (.Attribute l m ap) [.Name x p] [] cp) env = (do
      let ov ← attributeBase l m env (eval l env)
      standAt ap.atName
      let (f, first) ← holding [ov] (getMethod ov m (do return (← importBound l env).getD true))
      callWith cp f first (backTo cp (starEach [.Name x p] env)) []) := by
  have e1 : _root_.PySem.eval (.Call (.Attribute l m ap) [.Name x p] [] cp) env = (attributeBase l m env (eval l env) >>= fun ov => (standAt ap.atName >>= fun _ => methodCall l m ap cp env ov (([.Name x p] : List Expr).length + ([] : List Keyword).length) (backTo cp (starEach [.Name x p] env)) (backToKw cp (keywordEach [] env)))) := rfl
  rw [e1]
  unfold methodCall
  have few : methodCallForm (([.Name x p] : List Expr).length + ([] : List Keyword).length) (backTo cp (starEach [.Name x p] env)) (backToKw cp (keywordEach [] env)) = true := rfl
  rw [few]
  unfold methodCallPos calleeOf
  rw [h4]
  rfl
theorem init_ok (i : IniF K P D fI fd) (hs : mg "super" = none) : FnG P w K mg base 1 fI fd ["self", "value"] (spI K D fI) := by
  refine ⟨fun vs H Q E z => ?_, fun {A above s H args us vs Q} cA hr e0 hb r hsp => ?_⟩
  · obtain ⟨a, C, y, rfl, _⟩ := z
    rfl
  obtain ⟨a, C, y, rfl, X, ea, q⟩ := hsp
  obtain ⟨name, qual, params, body, scope, dV, kV, doc, pm, ct, an, cc, cda, p1, p2, p3, p4, p5, p6, p7, p8, p9, p10, oc, od, osl, ar, rfl, lk, hcd, ⟨c1, c2, fvs, c4, file, tf, lc, hvs, hfile⟩, ⟨c5, c6, c7, lcc⟩, hp, har, S, hks, hli, rfl⟩ := i.ex
  have inK : K.In s.heap := e0.mod.kin.keeps fun b o z => (e0.bs b o z).1
  have lim : s.heap.NoLimit := e0.mod.nolimit.keeps fun b o z => (e0.bs b o z).1
  cases r with
  | @cons _ u0 _ ur ra rw' =>
  obtain rfl : u0 = Value.ref a := ra
  cases rw' with
  | @cons _ u1 _ ur ry rn =>
  cases rn
  have hC0 : CellsAt [("__class__", cc)] ["__class__"] [none] s.heap H := by
    refine ⟨rfl, fun y c e => ?_, fun x y c e1 e2 => ?_, fun i y e => ?_⟩
    · have hc : c = cc := by
        rw [List.lookup_cons] at e
        split at e
        · cases e; rfl
        · cases e
      subst hc
      exact ⟨(e0.bs _ _ (e0.mod.kin _ _ lcc)).2, _, cell_ok inK lcc⟩
    · rw [List.lookup_cons] at e1 e2
      split at e1
      · rename_i h1
        split at e2
        · rename_i h2
          rw [eq_of_beq h1, eq_of_beq h2]
        · cases e2
      · cases e1
    · cases i with
      | zero =>
        cases e
        exact ⟨cc, rfl, fun v e => by cases e⟩
      | succ i => cases i <;> cases e
  let F : NF := ⟨name, qual, params, [.Expr (.Call (.Attribute (.Call (.Name "super" p1) [] [] p2) "__init__" p3) [.Name "value" p4] [] p5) p6, .Assign [.Attribute (.Name "self" p7) "value" p8] (.Name "value" p9) p10], scope, [("__class__", cc)], cda⟩
  have hkc : scope.names.lookup ("__class__" : Str) = some .free := S.frk _ (by simp)
  have hkself : scope.names.lookup ("self" : Str) = some .local := S.par _ (by simp)
  have hkval : scope.names.lookup ("value" : Str) = some .local := S.par _ (by simp)
  refine PySem.ks_codeAny_call_defAt (fd := PySem.W.ksFn name qual params F.body scope dV kV doc pm an (.ref cda) ct cc) (body := F.body) (binds := (["self", "value"] : List Str).zip [Value.ref a, u1]) hr.depth (inK _ _ lk) rfl lim (PySem.W.codeRec_of inK hcd) rfl hb S.nocell (fun y hy => S.par y.1 (List.of_mem_zip (show (y.1, y.2) ∈ _ from hy)).1) (fun h₁ hns kp => ?_) S.co S.gen S.kind
  show _root_.PySem.wpAt (model P w) (A.deeper (envF F fI s.heap.objs.size)) (.func F.body (envF F fI s.heap.objs.size)) (_root_.PySem.execs F.body (envF F fI s.heap.objs.size)) _ _ _
  have I : Inv (ncx CX0 P w K mg base ["self", "value", "__class__"] F fI A above s H E0) [] (startF ["self", "value", "__class__"] [.ref a, y] [none]) H { s with heap := h₁, toks := s.toks + 2 } :=
    inv_startN S hr.hd e0 rfl (.cons rfl (.cons ry .nil)) hC0 hns kp
  have inK1 : K.In h₁ := fun b o z => kp _ _ (inK b o z)
  refine PySem.ks_wpAt_execs_cons ?_
  refine PySem.ks_wpAt_Expr_any ?_ (by show (scope.kind == .module && _) = false; rw [S.kind]; rfl)
  refine PySem.ks_wpAt_MethodCall (pl := (do return (← importBound (.Call (.Name "super" p1) [] [] p2) (envF F fI s.heap.objs.size)).getD true)) ?_ (meth_he hli)
  refine PySem.ks_wpAt_super_base hks hkc (by decide) rfl (kp _ _ (inK _ _ lk)) rfl hp rfl (inK1 _ _ lc) rfl hvs hfile i.top ?_
  obtain ⟨mb, b1, b2⟩ := I.mod.blt
  refine PySem.W.ks_loadName_global S.kind hks (Calls.loadGlobal_builtin (I.mod.glob.keeps I.bk) hs (b1.keeps I.bk) ((b2 "super" (by decide)).trans boot_super) ⟨rfl, ?_⟩)
  refine wpAny_loadName_free S.kind hkc rfl ⟨_, inK1 _ _ lcc, rfl⟩ ?_
  have lself : ((["self", "value"] : List Str).zip [Value.ref a, u1]).reverse.lookup ("self" : Str) = some (.ref a) := by rfl
  have lval : ((["self", "value"] : List Str).zip [Value.ref a, u1]).reverse.lookup ("value" : Str) = some u1 := by rfl
  rw [har]
  refine wpAny_loadName_local S.kind hkself hns lself ?_
  obtain ⟨cdD, hcD⟩ := Option.isSome_iff_exists.mp i.clD
  obtain ⟨oD, hD1, hD2⟩ : ∃ oD, h₁.get? D = some oD ∧ oD.data = .cls cdD := by
    unfold PySem.W.clsIn at hcD
    split at hcD
    · rename_i c d cd' sl ho
      cases hcD
      exact ⟨_, inK1 _ _ ho, rfl⟩
    · cases hcD
  refine PySem.ks_wpAny_isType_cls hD1 hD2 ⟨rfl, ?_⟩
  obtain ⟨t1, ho⟩ := exo_at I.hok ea
  have J0 : PySem.W.InstAt h₁ a _ C none := ⟨ho, rfl, rfl, trivial⟩
  refine PySem.ks_wpAny_call_super hD1 hD2 ho rfl (fun c e => by cases e) (PySem.W.looks_mroIn inK1 X.sub) (fun h2 e2 k2 => ?_)
  have I2 := I.kept (t' := s.toks + 2) (h' := h2) k2
  have ho2 := k2 _ _ ho
  have J2 : PySem.W.InstAt h2 a _ C none := ⟨ho2, rfl, rfl, trivial⟩
  obtain ⟨cd, hcd⟩ : ∃ cd, PySem.W.clsIn K C = some cd := by
    obtain ⟨cd, hc, _⟩ := PySem.W.any_some X.hd
    exact ⟨cd, hc⟩
  have hup := X.up
  unfold PySem.W.ks_superIn at hup
  rw [hcd] at hup
  have inK2 : K.In h2 := fun b o z => k2 _ _ (inK1 b o z)
  refine PySem.W.kxs_getMethod PySem.W.kxs_ValueError e2 (PySem.W.looks_opaque inK2 i.op) (l₀ := cd.mro) (fun A Q E s k q => wpAny_bind ((PySem.W.looks_clsIn inK2 hcd) A _ E s k (wpAny_pure q))) rfl inK2 hup (J2.type.andThen (PySem.W.looks_subIn inK2 X.hV)) (PySem.W.ks_ne inK2 J2 hcd) (by decide) ?_
  have k3 : ∀ b o, h2.get? b = some o → (h2.push (PySem.W.kxs_mw "ValueError.__init__" a)).get? b = some o := fun b o e => Heap.get?_push_of_some _ e
  have I3 := I2.kept (t' := s.toks + 2 + 1) (h' := h2.push (PySem.W.kxs_mw "ValueError.__init__" a)) k3
  have hu : (h2.push (PySem.W.kxs_mw "ValueError.__init__" a)).get? h2.objs.size = some (PySem.W.kxs_mw "ValueError.__init__" a) := Heap.get?_push_at rfl rfl
  refine PySem.W.kxs_callWith (i := "ValueError.__init__") (x := a) rfl (Calls.evalArgs_plain ?_)
  refine Calls.spliced_cons (wpAny_Name (wpAny_loadName_local S.kind hkval (hns.keeps fun b o z => k3 _ _ (k2 _ _ z)) lval ?_) (by decide))
  refine Calls.spliced_nil ⟨hu, ?_⟩
  refine call_mw (prog := P) X.T I3 ea hu (by show 1 ≤ sizeLine; rw [sizeLine_eq]; omega) fun s4 I4 => ?_
  refine _root_.PySem.wpAt_of_wpAny ?_
  have hp2 : PSs (ncx CX0 P w K mg base ["self", "value", "__class__"] F fI A above s H E0) [.Assign [.Attribute (.Name "self" p7) "value" p8] (.Name "value" p9) p10] (tOst K "value" (tVar 0) (tVar 1)) :=
    pss_one (ps_ost (pe_var (i := 0) rfl (.inl hkself)) (pe_var (i := 1) rfl (.inl hkval)))
  refine wpAny_mono (hp2.run [] s4 _ H { nx := fun _ H' => Q .non H', rt := Q } I4 ⟨y, rfl, .ref a, rfl, a, C, rfl, X.T, X.no, .inl ⟨ea, fun t h1 h2 => q t h1 h2⟩⟩) (fun fl s' z => ?_) fun e s' z => z
  cases fl with
  | ret u =>
    obtain ⟨v, _, H', J, rv, q⟩ := z
    exact ⟨v, H', J.os, J.bare, J.base, J.hok, rv, q⟩
  | next =>
    obtain ⟨_, H', J, q⟩ := z
    exact ⟨V.non, H', J.os, J.bare, J.base, J.hok, rfl, q⟩
  | brk =>
    obtain ⟨_, _, _, no⟩ := z
    exact no.elim
  | cont =>
    obtain ⟨_, _, _, no⟩ := z
    exact no.elim
end
end R
end
section
set_option linter.all false
set_option maxRecDepth 100000
set_option maxHeartbeats 1000000
/-! RX2: errors as values: C(e), err.value, isinstance(err, C). -/
namespace R
open PySem PySem.Spec PyProof.Rows L2
section
variable {X : Cx} {cl : Nat → Addr} {D fI C : Addr} {fd : FuncData} {k c : Nat} {x y : Str} {e a : Expr} {ta : TE} {p p2 pos : Pos} {Cf : CallF} {r : RE} {cs : List Nat} {bs : List (Nat × Bool)}
theorem pe_goExc (T : ExcF X.K D fI C) (tI : PySem.W.typeIn X.K (.ref fI) = some (.type "function")) (F : FnG X.prog X.w X.K X.mg X.base k fI fd ["self", "value"] (spI X.K D fI)) (cA : Calm X.A) (hr : Room (k + 1) X.A) (hb : Binds X.K fd ["self", "value"] [])
    (hg : Gl X x) (hm : X.mg x = some (.ref C)) (he : PE X e ta) (hdb : (x == ("__debug__" : Str)) = false) (hs : starEach [e] X.env = (false, eval e X.env) :: starEach [] X.env) (hpl : (backTo pos (starEach [] X.env)).any (·.1) = false) :
    PE X (.Call (.Name x p) [e] [] pos) (fun σ H Q => ta σ H fun y H1 => ∀ a t, H1 a = none → H1 t = none → t ≠ a → Q (.ref a) (upd (upd H1 t (exd t [("value", y)])) a (exo a C (some t)))) := by
  constructor
  intro pins s σ H Q I h
  obtain ⟨nm, q, N, bs, bm, sn, sub, ab, col, dd, k0, k1, k2, k3, k5, hC, hbm⟩ := T.T.cls
  have ha : PA X [e] (tCons ta tNil) := pa_cons he pa_nil hs
  refine wpAny_Call_Name_kw (ld_glob I hg hm ?_ hdb)
  refine PySem.W.callWith_K (h₀ := X.base) I.ok.mod.kin T.T.kC (thn (ha.run pos pins s σ H (fun vs H1 => match vs with
    | [y] => ∀ a t, H1 a = none → H1 t = none → t ≠ a → Q (.ref a) (upd (upd H1 t (exd t [("value", y)])) a (exo a C (some t)))
    | _ => False) I h) fun us s1 ⟨vs, H1, I1, r1, q1⟩ => ⟨I1.kIn, ?_⟩) hs hpl
  match vs, r1, q1 with
  | [y], r1, q1 =>
    show wpAny _ _ (call (.ref C) us) _ _ _
    obtain ⟨hp, g, dr, tk, os⟩ := s1
    have hsz : hp.objs.size ≤ hp.objs.size + 1 := Nat.le_succ _
    have hn : H1 (hp.objs.size + 1) = none := I1.hok.fresh hsz
    have kk : ∀ b o, hp.get? b = some o → ((hp.push (PySem.W.kdv_tup us)).push (PySem.HandSPX.excO C hp.objs.size)).get? b = some o := fun b o e => Heap.get?_push_of_some _ (Heap.get?_push_of_some _ e)
    have hget : ((hp.push (PySem.W.kdv_tup us)).push (PySem.HandSPX.excO C hp.objs.size)).get? (hp.objs.size + 1) = some (PySem.HandSPX.excO C hp.objs.size) := by heap_get
    have I2 : Inv X pins σ (upd H1 (hp.objs.size + 1) (exo (hp.objs.size + 1) C none)) ⟨(hp.push (PySem.W.kdv_tup us)).push (PySem.HandSPX.excO C hp.objs.size), g, dr, tk, os⟩ :=
      I1.laid (t' := tk) (a := hp.objs.size + 1) (o := exo (hp.objs.size + 1) C none) (h' := (hp.push (PySem.W.kdv_tup us)).push (PySem.HandSPX.excO C hp.objs.size)) kk hsz (exo_ok hget)
    have r2 : Vals (V.ref (hp.objs.size + 1) :: [y]) (Value.ref (hp.objs.size + 1) :: us) := .cons rfl r1
    have lu : us.length = 1 := r1.length.symm
    have hus : us.length ≤ sizeLine := by rw [lu, sizeLine_eq]; omega
    have bb := hb _ (Value.ref (hp.objs.size + 1) :: us) I2.kIn (by rw [List.append_nil, List.length_cons, lu]; rfl)
    rw [List.append_nil] at bb
    have hq : spI X.K D fI (V.ref (hp.objs.size + 1) :: [y]) (upd H1 (hp.objs.size + 1) (exo (hp.objs.size + 1) C none)) (fun v H2 => v = .non ∧ Q (.ref (hp.objs.size + 1)) H2) E0 := by
      refine ⟨_, C, y, rfl, T, upd_same, fun t h1 h2 => ⟨rfl, ?_⟩⟩
      rw [upd_ne h2] at h1
      have z := q1 (hp.objs.size + 1) t hn h1 h2
      have eu : upd (upd (upd H1 (hp.objs.size + 1) (exo (hp.objs.size + 1) C none)) t (exd t [("value", y)])) (hp.objs.size + 1) (exo (hp.objs.size + 1) C (some t)) = upd (upd H1 t (exd t [("value", y)])) (hp.objs.size + 1) (exo (hp.objs.size + 1) C (some t)) := by
        funext b
        by_cases h3 : b = hp.objs.size + 1
        · subst h3; rw [upd_same, upd_same]
        · rw [upd_ne h3, upd_ne h3]
          by_cases h4 : b = t
          · subst h4; rw [upd_same, upd_same]
          · rw [upd_ne h4, upd_ne h4, upd_ne h3]
      rw [eu]
      exact z
    refine wpAny_call (PySem.HandSPX.call_own PySem.F.excBase_ValueError (fun Y => PySem.HandSPX.refsVE_contains Y bm hbm) (I1.kIn _ _ hC) (PySem.W.looks_findIn I1.kIn T.iC) (fun self => PySem.W.bind_fn I1.kIn self tI) hus
      (codeAny_mono (F.go (calm_make cA) (hr.make C us []) (I2.env0.make C us []) bb r2 hq) fun rr s' hq' => ?_))
    obtain ⟨u, rfl, v, H', I3, rv, ev, q3⟩ := back_of I2 hq'
    subst ev
    exact ⟨rv, ⟨V.ref (hp.objs.size + 1), H', I3, rfl, q3⟩⟩
theorem se_exm (T : ExcF X.K D fI (cl c)) (tI : PySem.W.typeIn X.K (.ref fI) = some (.type "function")) (F : FnG X.prog X.w X.K X.mg X.base k fI fd ["self", "value"] (spI X.K D fI)) (cA : Calm X.A) (hr : Room (k + 1) X.A) (hb : Binds X.K fd ["self", "value"] [])
    (hg : Gl X x) (hm : X.mg x = some (.ref (cl c))) (hdb : (x == ("__debug__" : Str)) = false) (hs : noStar e = true) (he : SE X cl e (evalE Cf r)) : SE X cl (.Call (.Name x p) [e] [] pos) (evalE Cf (.exm c r)) := by
  refine pe_by (pe_goExc T tI F cA hr hb hg hm he hdb (starEach_of hs) (plain_of rfl)) fun σ H Q h => ?_
  obtain ⟨env, S, G, ι, rp, re, po⟩ := h
  rw [evalE] at po
  refine ⟨env, S, G, ι, rp, re, Post.seq po fun sv S1 v H1 G1 ι1 e1 rp1 ex1 r1 po1 => ?_⟩
  cases sv with
  | l n => exact po1.elim
  | p d =>
    intro a t ha ht ne
    have ha' : (upd H1 t (exd t [("value", v)])) a = none := by rw [upd_ne (Ne.symm ne)]; exact ha
    have rp2 := rp1.lay (o := exd t [("value", v)]) ht
    have rp3 := rp2.lay (o := exo a (cl c) (some t)) ha'
    have x2 := Ext.lay (ι := ι1) (o := exd t [("value", v)]) rp1.gs ht
    have x3 := Ext.lay (ι := ι1) (o := exo a (cl c) (some t)) rp2.gs ha'
    exact po1 (.ref a) _ _ ι1 rp3 (ex1.trans (x2.trans x3)) ⟨a, t, v, rfl, upd_same, by rw [upd_ne ne, upd_same], Rep.up (x2.trans x3).g d v r1⟩
theorem pe_erv (he : PE X e ta) (hb : attributeBase e "value" X.env (eval e X.env) = eval e X.env) :
    PE X (.Attribute e "value" pos) (fun σ H Q => ta σ H fun x H1 => ∃ a C t y, x = .ref a ∧ ExcF X.K D fI C ∧ H1 a = some (exo a C (some t)) ∧ H1 t = some (exd t [("value", y)]) ∧ Q y H1) := by
  constructor
  intro pins s σ H Q I h
  refine attr_of hb (thn (he.run pins s σ H _ I h) fun u s1 hh => ?_)
  obtain ⟨x, H1, I1, rx, a, C, t, y, ex, T, ea, et, q⟩ := hh
  subst ex
  obtain rfl : u = Value.ref a := rx
  obtain ⟨t1, ho⟩ := exo_at I1.hok ea
  obtain ⟨mA, hns, hr⟩ := exd_at I1.hok et
  obtain ⟨od, hod, hl⟩ := lookIn_ns hns
  obtain ⟨u, hu, ru⟩ := RelO.some_of (v := y) (o := mA "value") (hr "value")
  have J : PySem.W.InstAt s1.heap a _ C (some od) := ⟨ho, rfl, rfl, hod⟩
  exact HandSPX.exc_get I1.kIn J T.hg T.hk T.T.exC (PySem.W.findObj_own T.hd T.no rfl (by rw [hl, hu])) (handed_of ru) ⟨y, H1, I1.tok _, ru, q⟩
theorem se_erv (hcs : ∀ c ∈ cs, ExcF X.K D fI (cl c)) (he : SE X cl e (evalE Cf r)) (hb : attributeBase e "value" X.env (eval e X.env) = eval e X.env) : SE X cl (.Attribute e "value" pos) (evalE Cf (.erv cs r)) := by
  refine pe_by (pe_erv (D := D) (fI := fI) he hb) fun σ H Q h => ?_
  obtain ⟨env, S, G, ι, rp, re, po⟩ := h
  rw [evalE] at po
  refine ⟨env, S, G, ι, rp, re, Post.seq po fun sv S1 v H1 G1 ι1 e1 rp1 ex1 r1 po1 => ?_⟩
  cases sv with
  | l n => exact po1.elim
  | p d =>
    cases d with
    | err c d =>
      simp only at po1
      split at po1
      · rename_i hc
        obtain ⟨a, t, y, rfl, h1, h2, h3⟩ := r1
        exact ⟨a, cl c, t, y, rfl, hcs c (by simpa using hc), rp1.gs _ _ h1, rp1.gs _ _ h2, po1 y H1 G1 ι1 rp1 ex1 h3⟩
      · exact po1.elim
    | _ => exact po1.elim
theorem call_isX : CallR X (.builtin "isinstance") (fun xs H Q => ∃ a C t y c cv b, xs = [.ref a, c] ∧ (∀ u, RelV c u → u = cv) ∧ ExcF X.K D fI C ∧ H a = some (exo a C (some t)) ∧ H t = some (exd t [("value", y)]) ∧ PySem.W.kitOne X.K (.ref C) cv = some b ∧ Q (.bl b) H) := by
  intro pins s σ H xs us Q I r h
  obtain ⟨a, C, t, y, c, cv, b, rfl, hcv, T, ea, et, e, q⟩ := h
  obtain ⟨u1, u2, rfl, r1, r2⟩ := vals2 r
  obtain rfl : u1 = Value.ref a := r1
  have ec := hcv _ r2
  subst ec
  obtain ⟨t1, ho⟩ := exo_at I.hok ea
  obtain ⟨mA, hns, hr⟩ := exd_at I.hok et
  obtain ⟨od, hod, hl⟩ := lookIn_ns hns
  have J : PySem.W.InstAt s.heap a _ C (some od) := ⟨ho, rfl, rfl, hod⟩
  obtain ⟨cd, hc, _⟩ := PySem.W.any_some T.hd
  exact PySem.W.kia_one (PySem.W.kitx_exc (od := some od) (by rw [hc]; rfl) T.hg T.hk T.T.exC T.ha T.hn T.ht T.hm) I.kIn J e (fun z => nomatch z) fun tk => ⟨.bl b, H, I.kept (t' := tk) fun _ _ z => z, rfl, q⟩
theorem se_isE {tv : V} {cv : Value} (hs : noStar a = true) (hg : Gl X "isinstance") (hm : X.mg "isinstance" = none) (hb : PE X (.Name y p2) (tC tv)) (hcv : ∀ u, RelV tv u → u = cv) (hk : ∀ c b, bs.lookup c = some b → ExcF X.K D fI (cl c) ∧ PySem.W.kitOne X.K (.ref (cl c)) cv = some b)
    (ha : SE X cl a (evalE Cf r)) : SE X cl (.Call (.Name "isinstance" p) [a, .Name y p2] [] pos) (evalE Cf (.isE r bs y)) := by
  refine pe_by (pe_callB (call_isX (D := D) (fI := fI)) hg hm boot_isiS (pa_two hs rfl ha hb) (by decide) (by decide) (starEach_of hs) (plain_of rfl)) fun σ H Q h => ?_
  obtain ⟨env, S, G, ι, rp, re, po⟩ := h
  rw [evalE] at po
  refine ⟨env, S, G, ι, rp, re, ?_⟩
  refine Post.seq po fun sv S1 v H1 G1 ι1 e1 rp1 ex1 r1 po1 => ?_
  cases sv with
  | l n => exact po1.elim
  | p d =>
    cases d with
    | err c d =>
      obtain ⟨b, qb, po1⟩ := post_ofO po1
      obtain ⟨a, t, y, rfl, h1, h2, h3⟩ := r1
      obtain ⟨k1, k2⟩ := hk c b qb
      exact ⟨a, cl c, t, y, _, cv, b, rfl, hcv, k1, rp1.gs _ _ h1, rp1.gs _ _ h2, k2, po1 _ H1 G1 ι1 rp1 ex1 rfl⟩
    | _ => exact po1.elim
end
end R
end
section
set_option linter.all false
set_option maxRecDepth 100000
set_option maxHeartbeats 1000000
/-! R11: what loops walk. -/
namespace R
open PySem PySem.Spec PyProof.Rows L2
/-- J yields the data xs as long as what is frozen in G0 stands -/
structure IsW (K : PySem.W.Frag) (cl : Nat → Addr) (J : It) (xs : List D) (G0 : Hp) : Prop where
  go : ∀ (i : Nat) (H : Hp), i < xs.length → Same G0 H → J.go i H
  st : ∀ H : Hp, Same G0 H → J.stop xs.length H
  yl : ∀ (i : Nat) (H H' : Hp) (x : V) (d : D), xs[i]? = some d → Same G0 H → J.yld i H x H' → ∀ (S : Sto) (G : Hp) (ι : List Addr), Same G0 G → RpH K cl S G ι H → ∃ G', RpH K cl S G' ι H' ∧ Ext G H ι G' H' ι ∧ Rep K cl G' d x
abbrev RIt (K : PySem.W.Frag) (cl : Nat → Addr) : RelA (List D) It := fun _ G' _ _ xs J => IsW K cl J xs G'
abbrev SI (X : Cx) (cl : Nat → Addr) (tg e : Expr) (f : Env → Sto → Res (List D)) : Prop := PI X tg e (tX X.K cl (RIt X.K cl) f)
section
variable {X : Cx} {cl : Nat → Addr} {e a b c tg : Expr} {es : List Expr} {x m : Str} {p pos apos : Pos} {C : CallF} {r ra rb : RE} {rs : REs}
theorem pi_by {t t' : TI} (h : PI X tg e t') (k : ∀ σ H R, t σ H R → t' σ H R) : PI X tg e t := ⟨fun pins s σ H R I hq => h.run pins s σ H R I (k _ _ _ hq)⟩
/-- a list, a tuple or a text -/
def iAny (K : PySem.W.Frag) (te : TE) : TI := fun σ H R => te σ H fun v H1 => (∃ a, v = .ref a ∧ (∃ xs, SqL K H1 a xs) ∧ R (Itl K a) H1) ∨ (∃ a, v = .ref a ∧ (∃ xs, SqT K H1 a xs) ∧ R (Itt K a) H1) ∨ ∃ x, v = .str x ∧ R (Its x) H1
theorem pi_any {te : TE} (he : PE X e te) : PI X tg e (iAny X.K te) := by
  constructor
  intro pins s σ H R I h
  refine thn (he.run pins s σ H _ I h) fun u s1 hh => ?_
  obtain ⟨v, H1, I1, r1, hh⟩ := hh
  rcases hh with ⟨a, rfl, ⟨xs, hq⟩, q⟩ | ⟨a, rfl, ⟨xs, hq⟩, q⟩ | ⟨x, rfl, q⟩
  · cases r1
    obtain ⟨its, _, pl, _⟩ := I1.list hq
    exact wpAny_pyIter_list pl.isList (pi_one (tk := s1.toks) I1 _ (turn_list a _) ⟨_, Heap.get?_push_size _ rfl, rfl, rfl⟩ q)
  · cases r1
    obtain ⟨its, _, pl, _⟩ := I1.tuple hq
    exact wpAny_pyIter_tuple (show s1.heap.IsTuple a its.toArray from pl) (pi_one (tk := s1.toks) I1 _ (turn_tuple a _) ⟨_, Heap.get?_push_size _ rfl, rfl, rfl⟩ q)
  · obtain ⟨t, rfl⟩ := r1
    cases ha : x.cps.all (· < 128)
    · exact wpAny_pyIter_wide ha (pi_one (tk := s1.toks) I1 _ (turn_str _ x t "str_iterator" (Or.inr rfl)) ⟨_, Heap.get?_push_size _ rfl, rfl, rfl⟩ q)
    · exact wpAny_pyIter_ascii ha (pi_one (tk := s1.toks) I1 _ (turn_str _ x t "str_ascii_iterator" (Or.inl rfl)) ⟨_, Heap.get?_push_size _ rfl, rfl, rfl⟩ q)
theorem SqL.upS {K : PySem.W.Frag} {G H : Hp} {q : Addr} {vs : List V} (h : G q = some (.lst vs)) (s : Same G H) : SqL K H q vs := .inl (.inl (s _ _ h))
theorem isw_list {K : PySem.W.Frag} {G0 : Hp} {q : Addr} {vs : List V} {xs : List D} (h1 : ∀ H, Same G0 H → SqL K H q vs) (h2 : Reps K cl G0 xs vs) : IsW K cl (Itl K q) xs G0 := by
  have hl := h2.length
  refine ⟨fun i H hi s => ?_, fun H s => ⟨vs, h1 H s, by omega⟩, fun i H H' x d e1 s y S G ι sg rp => ?_⟩
  · exact ⟨vs, vs[i]'(by omega), h1 H s, by simp⟩
  · obtain ⟨rfl, y⟩ := y
    obtain ⟨v, h3, h4⟩ := Paired.get h2.pair e1
    have := y vs (h1 _ s)
    rw [h3] at this; cases this
    exact ⟨G, rp, .refl, Rep.up sg _ _ h4⟩
theorem isw_tup {K : PySem.W.Frag} {G0 : Hp} {q : Addr} {vs : List V} {xs : List D} (h1 : SqT K G0 q vs) (h2 : Reps K cl G0 xs vs) : IsW K cl (Itt K q) xs G0 := by
  have hl := h2.length
  refine ⟨fun i H hi s => ?_, fun H s => ⟨vs, SqT.up h1 s, by omega⟩, fun i H H' x d e1 s y S G ι sg rp => ?_⟩
  · exact ⟨vs, vs[i]'(by omega), SqT.up h1 s, by simp⟩
  · obtain ⟨rfl, y⟩ := y
    obtain ⟨v, h3, h4⟩ := Paired.get h2.pair e1
    have := y vs (SqT.up h1 s)
    rw [h3] at this; cases this
    exact ⟨G, rp, .refl, Rep.up sg _ _ h4⟩
theorem isw_str {K : PySem.W.Frag} {G0 : Hp} {z : Str} : IsW K cl (Its z) (z.cps.toList.map fun c => D.str ⟨#[c]⟩) G0 := by
  refine ⟨fun i H hi s => ?_, fun H s => ?_, fun i H H' x d e1 s y S G ι sg rp => ?_⟩
  · show i < z.cps.size
    simpa using hi
  · show z.cps.size ≤ _
    simp
  · obtain ⟨rfl, c, hc, rfl⟩ := y
    rw [List.getElem?_map, Array.getElem?_toList, hc] at e1
    cases e1
    exact ⟨G, rp, .refl, rfl⟩
theorem si_e (he : SE X cl e (evalE C r)) : SI X cl tg e (evalI C (.e r)) := by
  refine pi_by (pi_any he) fun σ H R h => ?_
  obtain ⟨env, S, G, ι, rp, re, po⟩ := h
  rw [evalI] at po
  refine ⟨env, S, G, ι, rp, re, Post.seq po fun sv S1 v H1 G1 ι1 e1 rp1 ex1 r1 po1 => ?_⟩
  cases sv with
  | l n => exact po1.elim
  | p d =>
    simp only at po1
    cases d with
    | lst xs =>
      obtain ⟨q, vs, rfl, h1, h2⟩ := r1
      exact .inl ⟨q, rfl, ⟨vs, SqL.upS h1 rp1.gs⟩, po1 _ H1 G1 ι1 rp1 ex1 (isw_list (fun H s => SqL.upS h1 s) h2)⟩
    | tup xs =>
      obtain ⟨q, vs, rfl, h1, h2⟩ := r1
      exact .inr (.inl ⟨q, rfl, ⟨vs, SqT.up h1 rp1.gs⟩, po1 _ H1 G1 ι1 rp1 ex1 (isw_tup h1 h2)⟩)
    | str z =>
      cases r1
      exact .inr (.inr ⟨z, rfl, po1 _ H1 G1 ι1 rp1 ex1 isw_str⟩)
    | _ => exact po1.elim
theorem isw_rng {K : PySem.W.Frag} {G0 : Hp} {lo hi : Int} : IsW K cl (Itr lo (hi - lo).toNat) (rangeD lo hi) G0 := by
  have hl : (rangeD lo hi).length = (hi - lo).toNat := by simp [rangeD]
  refine ⟨fun i H hi s => ?_, fun H s => ?_, fun i H H' x d e1 s y S G ι sg rp => ?_⟩
  · show i < _
    rw [← hl]; exact hi
  · show _ ≤ _
    rw [hl]; exact Nat.le_refl _
  · obtain ⟨rfl, rfl⟩ := y
    refine ⟨G, rp, .refl, ?_⟩
    unfold rangeD at e1
    rw [List.getElem?_map] at e1
    cases q : (List.range (hi - lo).toNat)[i]? with
    | none => rw [q] at e1; cases e1
    | some j =>
      rw [q] at e1
      cases e1
      obtain ⟨h1, h2⟩ := List.getElem?_eq_some_iff.mp q
      rw [List.getElem_range] at h2
      subst h2
      rfl
theorem si_rng1 (hg : Gl X "range") (hm : X.mg "range" = none) (hs : noStar a = true) (ha : SE X cl a (evalE C ra)) : SI X cl tg (.Call (.Name "range" p) [a] [] pos) (evalI C (.rng1 ra)) := by
  refine pi_by (pi_range1 hg hm (pa_cons ha pa_nil (starEach_of hs)) (starEach_of hs)) fun σ H R h => ?_
  obtain ⟨env, S, G, ι, rp, re, po⟩ := h
  rw [evalI] at po
  refine ⟨env, S, G, ι, rp, re, Post.seq po fun sv S1 v H1 G1 ι1 e1 rp1 ex1 r1 po1 => ?_⟩
  cases sv with
  | l n => exact po1.elim
  | p d =>
    cases d with
    | int i =>
      cases r1
      have po1 : Post X.K cl (RIt X.K cl) G ι H R (if i < 2 ^ 62 ∧ -(2 ^ 62) ≤ i then .ok (rangeD 0 i) S1 else .bad) := po1
      by_cases hh : i < 2 ^ 62 ∧ -(2 ^ 62) ≤ i
      · rw [if_pos hh] at po1
        have z := po1 (Itr 0 (i - 0).toNat) H1 G1 ι1 rp1 ex1 isw_rng
        rw [Int.sub_zero] at z
        exact ⟨i, rfl, hh.2, hh.1, z⟩
      · rw [if_neg hh] at po1; exact po1.elim
    | _ => exact po1.elim
theorem si_rng2 (hg : Gl X "range") (hm : X.mg "range" = none) (hs : noStar a = true) (hs' : noStar b = true) (ha : SE X cl a (evalE C ra)) (hb : SE X cl b (evalE C rb)) : SI X cl tg (.Call (.Name "range" p) [a, b] [] pos) (evalI C (.rng2 ra rb)) := by
  refine pi_by (pi_range2 hg hm (pa_cons ha (pa_cons hb pa_nil (starEach_of hs')) (starEach_of hs)) (by rw [starEach_of hs, starEach_of hs']; rfl) (starEach_of hs')) fun σ H R h => ?_
  obtain ⟨env, S, G, ι, rp, re, po⟩ := h
  rw [evalI] at po
  refine ⟨env, S, G, ι, rp, re, Post.seq po fun sv S1 v H1 G1 ι1 e1 rp1 ex1 r1 po1 => ⟨env, S1, G1, ι1, rp1, re.up ex1, ?_⟩⟩
  refine Post.seq (Post.up po1 ex1 (fun _ _ _ _ _ h => h)) fun sw S2 w H2 G2 ι2 e2 rp2 ex2 r2 po2 => ?_
  have po2 := Post.up po2 ex2 (fun _ _ _ _ _ h => h)
  cases sv with
  | l n => exact po2.elim
  | p d =>
    cases d with
    | int i =>
      cases sw with
      | l n => exact po2.elim
      | p d' =>
        cases d' with
        | int j =>
          cases r1
          cases r2
          have po2 : Post X.K cl (RIt X.K cl) G2 ι2 H2 R (if i < 2 ^ 62 ∧ -(2 ^ 62) ≤ i ∧ j < 2 ^ 62 ∧ -(2 ^ 62) ≤ j then .ok (rangeD i j) S2 else .bad) := po2
          by_cases hh : i < 2 ^ 62 ∧ -(2 ^ 62) ≤ i ∧ j < 2 ^ 62 ∧ -(2 ^ 62) ≤ j
          · rw [if_pos hh] at po2
            exact ⟨i, j, rfl, ⟨hh.2.1, hh.1, hh.2.2.2, hh.2.2.1⟩, po2 _ H2 G2 ι2 rp2 .refl isw_rng⟩
          · rw [if_neg hh] at po2; exact po2.elim
        | _ => exact po2.elim
    | _ => cases sw <;> exact po2.elim
/-! enumerate -/
theorem pair_new {K : PySem.W.Frag} {S : Sto} {G H : Hp} {ι : List Addr} {T : Addr} {dx dy : D} {vx vy : V} (rp : RpH K cl S G ι H) (hT : H T = none) (h1 : Rep K cl G dx vx) (h2 : Rep K cl G dy vy) :
    ∃ G', RpH K cl S G' ι (upd H T (.tup [vx, vy])) ∧ Ext G H ι G' (upd H T (.tup [vx, vy])) ι ∧ Rep K cl G' (.tup [dx, dy]) (.ref T) := by
  have ex := Ext.lay (ι := ι) (o := .tup [vx, vy]) rp.gs hT
  exact ⟨_, rp.lay hT, ex, T, [vx, vy], rfl, .inl (.inl upd_same), vx, [vy], rfl, Rep.up ex.g _ _ h1, vy, [], rfl, Rep.up ex.g _ _ h2, rfl⟩
theorem enumD_len : ∀ (n : Nat) (xs : List D), (enumD n xs).length = xs.length
  | _, [] => rfl
  | n, x :: xs => by simp [enumD, enumD_len (n + 1) xs]
theorem enumD_get : ∀ (n : Nat) (xs : List D) (i : Nat), (enumD n xs)[i]? = xs[i]?.map fun x => D.tup [.int ((n + i : Nat) : Int), x]
  | _, [], i => by simp [enumD]
  | n, x :: xs, 0 => by simp [enumD]
  | n, x :: xs, i + 1 => by
    rw [enumD, List.getElem?_cons_succ, List.getElem?_cons_succ, enumD_get (n + 1) xs i]
    have : n + 1 + i = n + (i + 1) := by omega
    rw [this]
/-- the tuple at a, each item in a new pair -/
def IteT (K : PySem.W.Frag) (a : Addr) : It :=
  ⟨fun i H => ∃ (xs : List V) (x : V), SqT K H a xs ∧ xs[i]? = some x, fun i H v H' => ∃ T x, v = .ref T ∧ H T = none ∧ H' = upd H T (.tup [.int (i : Nat), x]) ∧ ∀ xs, SqT K H a xs → xs[i]? = some x, fun i H => ∃ xs : List V, SqT K H a xs ∧ xs.length = i⟩
theorem isw_enum {K : PySem.W.Frag} {G0 : Hp} {q : Addr} {vs : List V} {xs : List D} (h1 : ∀ H, Same G0 H → SqL K H q vs) (h2 : Reps K cl G0 xs vs) : IsW K cl (Ite K q) (enumD 0 xs) G0 := by
  have hl := h2.length
  refine ⟨fun i H hi s => ?_, fun H s => ⟨vs, h1 H s, by rw [enumD_len]; omega⟩, fun i H H' x d e1 s y S G ι sg rp => ?_⟩
  · rw [enumD_len] at hi
    exact ⟨vs, vs[i]'(by omega), h1 H s, by simp⟩
  · obtain ⟨T, w, rfl, hT, rfl, y⟩ := y
    rw [enumD_get] at e1
    cases q1 : xs[i]? with
    | none => rw [q1] at e1; cases e1
    | some z =>
      rw [q1] at e1
      cases e1
      obtain ⟨v, h3, h4⟩ := Paired.get h2.pair q1
      have := y vs (h1 _ s)
      rw [h3] at this; cases this
      rw [Nat.zero_add]
      exact pair_new rp hT (show Rep K cl G (.int (i : Nat)) _ from rfl) (Rep.up sg _ _ h4)
theorem isw_enumT {K : PySem.W.Frag} {G0 : Hp} {q : Addr} {vs : List V} {xs : List D} (h1 : SqT K G0 q vs) (h2 : Reps K cl G0 xs vs) : IsW K cl (IteT K q) (enumD 0 xs) G0 := by
  have hl := h2.length
  refine ⟨fun i H hi s => ?_, fun H s => ⟨vs, SqT.up h1 s, by rw [enumD_len]; omega⟩, fun i H H' x d e1 s y S G ι sg rp => ?_⟩
  · rw [enumD_len] at hi
    exact ⟨vs, vs[i]'(by omega), SqT.up h1 s, by simp⟩
  · obtain ⟨T, w, rfl, hT, rfl, y⟩ := y
    rw [enumD_get] at e1
    cases q1 : xs[i]? with
    | none => rw [q1] at e1; cases e1
    | some z =>
      rw [q1] at e1
      cases e1
      obtain ⟨v, h3, h4⟩ := Paired.get h2.pair q1
      have := y vs (SqT.up h1 s)
      rw [h3] at this; cases this
      rw [Nat.zero_add]
      exact pair_new rp hT (show Rep K cl G (.int (i : Nat)) _ from rfl) (Rep.up sg _ _ h4)
end
end R
end
section
set_option linter.all false
set_option maxRecDepth 100000
set_option maxHeartbeats 2000000
/-! R12: enumerate over lists and tuples; zip. -/
namespace R
open PySem PySem.Spec PyProof.Rows L2
theorem enumB_meets {v : Value} {ob : Obj} {Hh : Heap → Prop} (B : Begins v ob Hh) :
    Meets (Builtin.«enumerate.__new__» ⟨[.type "enumerate", v], []⟩) (fun _ W z => Hh z.heap ∧
      W (.ok (.ret (.ref (z.heap.push ob).objs.size))) { z with heap := (z.heap.push ob).push { cls := .type "enumerate", data := .fields #[.none, .bool false, .ref z.heap.objs.size, rawInt 0, .none, .none] } }) :=
  .of_wp fun prog w A W z h => by
    obtain ⟨hp, gg, dd, tt, oo⟩ := z
    obtain ⟨h1, h⟩ := h
    have hsub := sub_enumerate
    have begun : ∀ {A' : Around} {E : Value → Shared → Prop} {Q : Value → Shared → Prop}, Q (.ref hp.objs.size) ⟨hp.push ob, gg, dd, tt, oo⟩ → wpAny (model prog w) A' (pyIter v) Q E ⟨hp, gg, dd, tt, oo⟩ :=
      fun q => B.iter prog w _ _ ⟨hp, gg, dd, tt, oo⟩ _ h1 q
    wp_walk using begun
    refine wpAny_stack_any fun stk => wpAny_pure ?_
    split
    · rename_i kl _ _ _ _ _
      cases (kl == Value.type "enumerate")
      all_goals
        wp_walk using begun
        exact ⟨_, rfl, h⟩
    · wp_walk using begun
      exact ⟨_, rfl, h⟩
theorem enumB_call {prog : Program} {w : World} {A : Around} {E : Value → Shared → Prop} {s : Shared} {v : Value} {ob : Obj} {Hh : Heap → Prop} {Q : Value → Shared → Prop} (B : Begins v ob Hh) (h1 : Hh s.heap)
    (h : ∀ hq, IsEnum hq (s.heap.objs.size + 1) s.heap.objs.size 0 .none → hq.get? s.heap.objs.size = some ob → (∀ b o, s.heap.get? b = some o → hq.get? b = some o) → Q (.ref (s.heap.objs.size + 1)) { s with heap := hq }) :
    wpAny (model prog w) A (call (.type "enumerate") [v]) Q E s := by
  refine callType_new F.called_enumerate (by decide) (F.typeCall_enumerate_1 _) (F.newCall_enumerate_1 _) (fun obj => F.args_object_init_2 obj _) F.entry_enumerate_new (enumB_meets B) ⟨h1, ?_⟩
  have sz : (s.heap.push ob).objs.size = s.heap.objs.size + 1 := Heap.size_push ..
  show _ ∧ _
  rw [sz]
  have he : IsEnum ((s.heap.push ob).push { cls := .type "enumerate", data := .fields #[.none, .bool false, .ref s.heap.objs.size, rawInt 0, .none, .none] }) (s.heap.objs.size + 1) s.heap.objs.size 0 .none := by
    have z := Heap.get?_push_size (s.heap.push ob) (o := { cls := .type "enumerate", data := .fields #[.none, .bool false, .ref s.heap.objs.size, rawInt 0, .none, .none] }) rfl
    rw [sz] at z
    exact z
  exact ⟨⟨_, he, rfl⟩, h _ he (Heap.get?_push_of_some _ (Heap.get?_push_size _ B.free)) fun b o q => Heap.get?_push_of_some _ (Heap.get?_push_of_some _ q)⟩
theorem turn_enumT {P : Program} {w : World} {K : PySem.W.Frag} {elts : List Expr} {kk : Nat} {tpos : Pos} (a e it : Addr) :
    Turn P w K (.Tuple elts kk tpos) (IteT K a) [e, it] e (fun i h => (∃ old, IsEnum h e it ((i : Nat) : Int) old) ∧ h.IsTupleIter it a i ∧ e ≠ it ∧ a ≠ it ∧ a ≠ e) where
  mem := by simp
  obj := fun i h st b hb => by
    obtain ⟨⟨old, he⟩, ⟨ob, ho, hc, hd⟩, _⟩ := st
    rcases (show b = e ∨ b = it by simpa using hb) with rfl | rfl
    · exact ⟨_, he, fun v q => nomatch q⟩
    · exact ⟨ob, ho, fun v q => by rw [hd] at q; cases q⟩
  keep := fun i h h' st k => by
    obtain ⟨⟨old, he⟩, hi, hne, hn1⟩ := st
    exact ⟨⟨old, k e (by simp) _ he⟩, hi.at fun o q => k it (by simp) o q, hne, hn1⟩
  item := by
    intro X hP hw hK hc i pins s σ H E I hf st hg
    subst hP hw hK
    obtain ⟨⟨old, he⟩, hit, hne, hn1, hn2⟩ := st
    obtain ⟨xs, x, hq, hx⟩ := hg
    obtain ⟨its, rv, pt, _⟩ := I.tuple hq
    obtain ⟨u, hu, ru⟩ := rv.get hx
    have hel : e < s.heap.objs.size := Heap.lt_size he
    have hil : it < s.heap.objs.size := by obtain ⟨_, q, _⟩ := hit; exact Heap.lt_size q
    have hlt : i < its.toArray.size := by
      have := (List.getElem?_eq_some_iff.mp hu).1
      simpa using this
    have D := Draws.tuple (prog := X.prog) (w := X.w) (A := X.A.in1) (I.ok.hd hc) it a hn1 its.toArray
    refine wpAny_pyNext_enum_itemC D he ⟨hit, pt⟩ hlt hne (by simp [hne, Ne.symm hn2]) fun y hq' tk hy ho hit' hT hsz hk => ?_
    have hy : its.toArray[i]? = some y := hy
    obtain rfl : u = y := by
      have e1 : its[i]? = some y := by simpa using hy
      rw [hu] at e1; cases e1; rfl
    refine ⟨_, rfl, wpAny_letOwnedTupleGo_enum (s := { s with heap := hq', toks := tk + 1 }) ho fun h2 he' sb => ?_⟩
    have hT2 : h2.get? s.heap.objs.size = some { cls := .type "tuple", data := .seq #[.int i tk, u] } := (sb.2 _ (Nat.ne_of_gt hel)).trans hT
    have nw : ObjOk X.prog X.w (upd H s.heap.objs.size (.tup [.int (i : Nat), x])) h2 s.heap.objs.size (.tup [.int (i : Nat), x]) :=
      ⟨by show 2 ≤ sizeLine; decide, [.int i tk, u], .cons ⟨_, rfl⟩ (.cons ru .nil), ⟨_, hT2, rfl, _, rfl⟩⟩
    have J := I.turnedNew (h' := h2) (t' := tk + 1) (ch := [e, it]) (fun b ob hb q => (sb.2 b (fun z => hb (by simp [z]))).trans (hk b ob (fun z => hb (by simp [z])) (fun z => hb (by simp [z])) q)) hf (Nat.le_refl _) nw
    refine ⟨.ref s.heap.objs.size, _, J, rfl, ⟨_, x, rfl, I.hok.fresh (Nat.le_refl _), rfl, fun ys hy => by rw [I.tuple_inj hy hq]; exact hx⟩, ⟨⟨u, ?_⟩, hit'.1.at fun o q => (sb.2 it (Ne.symm hne)).trans q, hne, hn1, hn2⟩, fun b hb => ?_⟩
    · have e1 : ((i + 1 : Nat) : Int) = (i : Int) + 1 := by omega
      rw [e1]; exact he'
    · have hb' : b < s.heap.objs.size := by
        rcases (show b = e ∨ b = it by simpa using hb) with rfl | rfl
        · exact hel
        · exact hil
      rw [upd_ne (Nat.ne_of_lt hb')]
      exact (hf b hb).1
  done := by
    intro X hP hw hK hc i pins s σ H E I hf st hg
    subst hP hw hK
    obtain ⟨⟨old, he⟩, hit, hne, hn1, hn2⟩ := st
    obtain ⟨xs, hq, hx⟩ := hg
    obtain ⟨its, rv, pt, _⟩ := I.tuple hq
    obtain ⟨f0, f1, f2, f3, f4, f5⟩ := hf it (by simp)
    have hl := rv.length
    have D := Draws.tuple (prog := X.prog) (w := X.w) (A := X.A.in1) (I.ok.hd hc) it a hn1 its.toArray
    have hsz : its.toArray.size = i := by simp; omega
    exact wpAny_pyNext_enum_endD D he (by rw [hsz]; exact ⟨hit, pt⟩) fun h' eb => ⟨rfl, I.turned (t' := s.toks) (fun b ob hb q => eb b ob hb q) f0 f1 f3 f4 f5⟩
  self := fun A i s Q E st h => by
    obtain ⟨⟨_, he⟩, _⟩ := st
    exact wpAny_pyIter_enum he h
section
variable {X : Cx} {cl : Nat → Addr} {e a b c tg : Expr} {es : List Expr} {x m : Str} {p pos apos : Pos} {C : CallF} {r ra rb : RE} {rs : REs}
/-- enumerate of a list or a tuple -/
def iEnumA (K : PySem.W.Frag) (te : TE) : TI := fun σ H R => te σ H fun w H1 => ∃ v, [w] = [v] ∧ ((∃ a xs, v = .ref a ∧ SqL K H1 a xs ∧ R (Ite K a) H1) ∨ ∃ a xs, v = .ref a ∧ SqT K H1 a xs ∧ R (IteT K a) H1)
theorem pi_enumA {te : TE} {elts : List Expr} {kk : Nat} {tpos : Pos} (hg : Gl X "enumerate") (hm : X.mg "enumerate" = none) (hs : noStar e = true) (he : PE X e te) : PI X (.Tuple elts kk tpos) (.Call (.Name "enumerate" p) [e] [] pos) (iEnumA X.K te) := by
  constructor
  intro pins s σ H R I h
  have ha := pa_cons he pa_nil (starEach_of hs)
  refine Call_ (ld_blt I hg hm boot_enumerate (PyProof.Rows.callWith_type1 (thn (ha.run pos pins s σ H (fun vs H1 => ∃ v, vs = [v] ∧ ((∃ a xs, v = .ref a ∧ SqL X.K H1 a xs ∧ R (Ite X.K a) H1) ∨ ∃ a xs, v = .ref a ∧ SqT X.K H1 a xs ∧ R (IteT X.K a) H1)) I ?_) fun us s1 hh => ?_) (starEach_of hs) rfl))
  · exact h
  · obtain ⟨vs, H1, I1, r1, v, rfl, q⟩ := hh
    cases r1 with
    | cons r rr =>
      cases rr
      rcases q with ⟨a, xs, rfl, hq, q⟩ | ⟨a, xs, rfl, hq, q⟩
      · cases r
        obtain ⟨its, _, pl, _⟩ := I1.list hq
        refine call_enumerate_list pl.isList fun h' he hit hsz hk => wpAny_pyIter_enum he ?_
        have I2 : Inv X pins σ H1 { s1 with heap := h' } := I1.kept (t' := s1.toks) hk
        refine ⟨s1.heap.objs.size + 1, [s1.heap.objs.size + 1, s1.heap.objs.size], _, _, H1, rfl, I2, turn_enum a (s1.heap.objs.size + 1) s1.heap.objs.size, ⟨⟨.none, he⟩, hit, Nat.succ_ne_self _⟩, fun b hb => ?_, q⟩
        have hle : s1.heap.objs.size ≤ b := by
          rcases (show b = s1.heap.objs.size + 1 ∨ b = s1.heap.objs.size by simpa using hb) with rfl | rfl <;> omega
        exact I1.fpOk hle (I1.hok.fresh hle)
      · cases r
        obtain ⟨its, _, pl, _⟩ := I1.tuple hq
        have la : a < s1.heap.objs.size := pl.lt
        refine enumB_call (begins_tuple a its.toArray) pl fun h' he hit hk => wpAny_pyIter_enum he ?_
        have I2 : Inv X pins σ H1 { s1 with heap := h' } := I1.kept (t' := s1.toks) hk
        refine ⟨s1.heap.objs.size + 1, [s1.heap.objs.size + 1, s1.heap.objs.size], _, _, H1, rfl, I2, turn_enumT a (s1.heap.objs.size + 1) s1.heap.objs.size, ⟨⟨.none, he⟩, ⟨_, hit, rfl, rfl⟩, Nat.succ_ne_self _, Nat.ne_of_lt la, Nat.ne_of_lt (Nat.lt_succ_of_lt la)⟩, fun b hb => ?_, q⟩
        have hle : s1.heap.objs.size ≤ b := by
          rcases (show b = s1.heap.objs.size + 1 ∨ b = s1.heap.objs.size by simpa using hb) with rfl | rfl <;> omega
        exact I1.fpOk hle (I1.hok.fresh hle)
theorem si_enum {elts : List Expr} {kk : Nat} {tpos : Pos} (hg : Gl X "enumerate") (hm : X.mg "enumerate" = none) (hs : noStar e = true) (he : SE X cl e (evalE C r)) : SI X cl (.Tuple elts kk tpos) (.Call (.Name "enumerate" p) [e] [] pos) (evalI C (.enum r)) := by
  refine pi_by (pi_enumA hg hm hs he) fun σ H R h => ?_
  obtain ⟨env, S, G, ι, rp, re, po⟩ := h
  rw [evalI] at po
  refine ⟨env, S, G, ι, rp, re, Post.seq po fun sv S1 v H1 G1 ι1 e1 rp1 ex1 r1 po1 => ⟨v, rfl, ?_⟩⟩
  cases sv with
  | l n => exact po1.elim
  | p d =>
    simp only at po1
    cases d with
    | lst xs =>
      obtain ⟨q, vs, rfl, h1, h2⟩ := r1
      exact .inl ⟨q, vs, rfl, SqL.upS h1 rp1.gs, po1 _ H1 G1 ι1 rp1 ex1 (isw_enum (fun H s => SqL.upS h1 s) h2)⟩
    | tup xs =>
      obtain ⟨q, vs, rfl, h1, h2⟩ := r1
      exact .inr ⟨q, vs, rfl, SqT.up h1 rp1.gs, po1 _ H1 G1 ι1 rp1 ex1 (isw_enumT h1 h2)⟩
    | _ => exact po1.elim
theorem pairsD_len : ∀ (xs ys : List D), (pairsD xs ys).length = min xs.length ys.length
  | [], ys => by simp [pairsD]
  | x :: xs, [] => by simp [pairsD]
  | x :: xs, y :: ys => by simp only [pairsD, List.length_cons, pairsD_len xs ys]; omega
theorem pairsD_get : ∀ (xs ys : List D) (i : Nat) (d : D), (pairsD xs ys)[i]? = some d → ∃ x y, xs[i]? = some x ∧ ys[i]? = some y ∧ d = .tup [x, y]
  | [], ys, i, d, h => by simp [pairsD] at h
  | x :: xs, [], i, d, h => by simp [pairsD] at h
  | x :: xs, y :: ys, 0, d, h => by simp [pairsD] at h; exact ⟨x, y, rfl, rfl, h.symm⟩
  | x :: xs, y :: ys, i + 1, d, h => by
    rw [pairsD, List.getElem?_cons_succ] at h
    obtain ⟨a, b, h1, h2, h3⟩ := pairsD_get xs ys i d h
    exact ⟨a, b, by simpa using h1, by simpa using h2, h3⟩
theorem isw_zip {K : PySem.W.Frag} {G0 : Hp} {q q' : Addr} {vs ws : List V} {xs ys : List D} (h1 : ∀ H, Same G0 H → SqL K H q vs) (h1' : ∀ H, Same G0 H → SqL K H q' ws) (h2 : Reps K cl G0 xs vs) (h2' : Reps K cl G0 ys ws) : IsW K cl (Itz K q q') (pairsD xs ys) G0 := by
  have hl := h2.length
  have hl' := h2'.length
  refine ⟨fun i H hi s => ?_, fun H s => ⟨vs, ws, h1 H s, h1' H s, by rw [pairsD_len]; omega⟩, fun i H H' x d e1 s y S G ι sg rp => ?_⟩
  · rw [pairsD_len] at hi
    exact ⟨vs, ws, vs[i]'(by omega), ws[i]'(by omega), h1 H s, h1' H s, by simp, by simp⟩
  · obtain ⟨T, w, w', rfl, hT, rfl, y1, y2⟩ := y
    obtain ⟨z, z', e3, e4, rfl⟩ := pairsD_get _ _ _ _ e1
    obtain ⟨v, h3, h4⟩ := Paired.get h2.pair e3
    obtain ⟨v', h3', h4'⟩ := Paired.get h2'.pair e4
    have z1 := y1 vs (h1 _ s)
    have z2 := y2 ws (h1' _ s)
    rw [h3] at z1; cases z1
    rw [h3'] at z2; cases z2
    exact pair_new rp hT (Rep.up sg _ _ h4) (Rep.up sg _ _ h4')
theorem isw_zipT {K : PySem.W.Frag} {G0 : Hp} {q q' : Addr} {vs ws : List V} {xs ys : List D} (h1 : SqT K G0 q vs) (h1' : SqT K G0 q' ws) (h2 : Reps K cl G0 xs vs) (h2' : Reps K cl G0 ys ws) : IsW K cl (RZ.ItzT K q q') (pairsD xs ys) G0 := by
  have hl := h2.length
  have hl' := h2'.length
  refine ⟨fun i H hi s => ?_, fun H s => ⟨vs, ws, SqT.up h1 s, SqT.up h1' s, by rw [pairsD_len]; omega⟩, fun i H H' x d e1 s y S G ι sg rp => ?_⟩
  · rw [pairsD_len] at hi
    exact ⟨vs, ws, vs[i]'(by omega), ws[i]'(by omega), SqT.up h1 s, SqT.up h1' s, by simp, by simp⟩
  · obtain ⟨T, w, w', rfl, hT, rfl, y1, y2⟩ := y
    obtain ⟨z, z', e3, e4, rfl⟩ := pairsD_get _ _ _ _ e1
    obtain ⟨v, h3, h4⟩ := Paired.get h2.pair e3
    obtain ⟨v', h3', h4'⟩ := Paired.get h2'.pair e4
    have z1 := y1 vs (SqT.up h1 s)
    have z2 := y2 ws (SqT.up h1' s)
    rw [h3] at z1; cases z1
    rw [h3'] at z2; cases z2
    exact pair_new rp hT (Rep.up sg _ _ h4) (Rep.up sg _ _ h4')
theorem si_zip {elts : List Expr} {kk : Nat} {tpos : Pos} (hg : Gl X "zip") (hm : X.mg "zip" = none) (hs : noStar a = true) (hs' : noStar b = true) (ha : SE X cl a (evalE C ra)) (hb : SE X cl b (evalE C rb)) : SI X cl (.Tuple elts kk tpos) (.Call (.Name "zip" p) [a, b] [] pos) (evalI C (.zip ra rb)) := by
  refine pi_by (RZ.pi_zipA hg hm (pa_cons ha (pa_cons hb pa_nil (starEach_of hs')) (starEach_of hs)) (starEach_of hs) (plain_of (by simp [hs']))) fun σ H R h => ?_
  obtain ⟨env, S, G, ι, rp, re, po⟩ := h
  rw [evalI] at po
  refine ⟨env, S, G, ι, rp, re, Post.seq po fun sv S1 v H1 G1 ι1 e1 rp1 ex1 r1 po1 => ⟨env, S1, G1, ι1, rp1, re.up ex1, ?_⟩⟩
  refine Post.seq (Post.up po1 ex1 (fun _ _ _ _ _ h => h)) fun sw S2 w H2 G2 ι2 e2 rp2 ex2 r2 po2 => ?_
  have po2 := Post.up po2 ex2 (fun _ _ _ _ _ h => h)
  have r1 := RepS.up r1 ex2
  cases sv with
  | l n => exact po2.elim
  | p d =>
    cases d with
    | lst xs =>
      cases sw with
      | l n => exact po2.elim
      | p d' =>
        cases d' with
        | lst ys =>
          obtain ⟨q, vs, rfl, h1, h2⟩ := r1
          obtain ⟨q', ws, rfl, h1', h2'⟩ := r2
          exact ⟨q, q', vs, ws, rfl, .inl ⟨SqL.upS h1 rp2.gs, SqL.upS h1' rp2.gs, po2 _ H2 G2 ι2 rp2 .refl (isw_zip (fun H s => SqL.upS h1 s) (fun H s => SqL.upS h1' s) h2 h2')⟩⟩
        | _ => exact po2.elim
    | tup xs =>
      cases sw with
      | l n => exact po2.elim
      | p d' =>
        cases d' with
        | tup ys =>
          obtain ⟨q, vs, rfl, h1, h2⟩ := r1
          obtain ⟨q', ws, rfl, h1', h2'⟩ := r2
          exact ⟨q, q', vs, ws, rfl, .inr ⟨SqT.up h1 rp2.gs, SqT.up h1' rp2.gs, po2 _ H2 G2 ι2 rp2 .refl (isw_zipT h1 h1' h2 h2')⟩⟩
        | _ => exact po2.elim
    | _ => cases sw with
      | l n => exact po2.elim
      | p d' => cases d' <;> exact po2.elim
end
end R
end
section
set_option linter.all false
set_option maxRecDepth 100000
set_option maxHeartbeats 1000000
/-! R13: targets, comprehensions. -/
namespace R
open PySem PySem.Spec PyProof.Rows L2
/-- only these slots differ -/
def OnlyAt (σ σ' : L2.St) (js : List Nat) : Prop := σ'.length = σ.length ∧ ∀ j, j ∉ js → σ'[j]? = σ[j]?
theorem wipe_get {σ : L2.St} {vs : List Nat} : ∀ j, (wipe σ vs)[j]? = if j ∈ vs then (σ[j]?).map (fun _ => none) else σ[j]? := by
  induction vs with
  | nil => intro j; simp [wipe]
  | cons v vs ih =>
    intro j
    unfold wipe
    by_cases h : v = j
    · subst h
      by_cases hl : v < σ.length
      · rw [List.getElem?_set_self (by rw [wipe_length]; exact hl)]
        simp [hl]
      · rw [List.getElem?_eq_none (by rw [List.length_set, wipe_length]; omega)]
        rw [List.getElem?_eq_none (l := σ) (by omega)]; simp
    · rw [List.getElem?_set_ne h, ih j]
      have : (j ∈ v :: vs) ↔ j ∈ vs := by simp [Ne.symm h]
      simp only [this]
theorem wipe_only {σ σ' : L2.St} {js vs : List Nat} (h : OnlyAt (wipe σ vs) σ' js) (hs : ∀ j ∈ js, j ∈ vs) : wipe σ' vs = wipe σ vs := by
  have hl := h.1
  rw [wipe_length] at hl
  refine List.ext_getElem? fun j => ?_
  rw [wipe_get, wipe_get]
  by_cases hj : j ∈ vs
  · rw [if_pos hj, if_pos hj]
    by_cases hb : j < σ.length
    · rw [List.getElem?_eq_getElem hb, List.getElem?_eq_getElem (by omega)]; rfl
    · rw [List.getElem?_eq_none (by omega), List.getElem?_eq_none (by omega)]
  · rw [if_neg hj, if_neg hj, h.2 j (fun z => hj (hs j z)), wipe_get, if_neg hj]
theorem OnlyAt.trans {σ σ1 σ2 : L2.St} {a b : List Nat} (h : OnlyAt σ σ1 a) (h' : OnlyAt σ1 σ2 b) : OnlyAt σ σ2 (a ++ b) :=
  ⟨h'.1.trans h.1, fun j hj => by
    have : j ∉ a ∧ j ∉ b := by simpa using hj
    rw [h'.2 j this.2, h.2 j this.1]⟩
/-- a target -/
def tT (K : PySem.W.Frag) (cl : Nat → Addr) (tg : RT) : TG := fun v σ H Q => ∃ env S G ι d env' S', RpH K cl S G ι H ∧ EnvR K cl env G ι σ ∧ Rep K cl G d v ∧ asgT tg d env S = some (env', S') ∧
  ∀ σ' H', OnlyAt σ σ' tg.slots → RpH K cl S' G ι H' → Ext G H ι G H' ι → EnvR K cl env' G ι σ' → Q σ' H'
def tTs (K : PySem.W.Frag) (cl : Nat → Addr) (tgs : List RT) : TGs := fun vs σ H Q => ∃ env S G ι ds env' S', RpH K cl S G ι H ∧ EnvR K cl env G ι σ ∧ Reps K cl G ds vs ∧ asgTs tgs ds env S = some (env', S') ∧
  ∀ σ' H', OnlyAt σ σ' (RT.slotsL tgs) → RpH K cl S' G ι H' → Ext G H ι G H' ι → EnvR K cl env' G ι σ' → Q σ' H'
abbrev SG (X : Cx) (cl : Nat → Addr) (target : Expr) (tg : RT) : Prop := PG X target (tT X.K cl tg)
abbrev SGs (X : Cx) (cl : Nat → Addr) (ts : List Expr) (tgs : List RT) : Prop := PGs X ts (tTs X.K cl tgs)
section
variable {X : Cx} {cl : Nat → Addr} {e a b c o tg : Expr} {es : List Expr} {x f : Str} {p pos apos : Pos} {C : CallF} {r ra rb : RE} {rs : REs} {t : RT} {ts : List RT}
theorem pg_by {u u' : TG} (h : PG X e u') (k : ∀ v σ H Q, u v σ H Q → u' v σ H Q) : PG X e u := ⟨fun pins s σ H v w Q I rv hq => h.run pins s σ H v w Q I rv (k _ _ _ _ hq)⟩
theorem pgs_by {u u' : TGs} (h : PGs X es u') (k : ∀ v σ H Q, u v σ H Q → u' v σ H Q) : PGs X es u := ⟨fun pins s σ H v w Q I rv hq => h.run pins s σ H v w Q I rv (k _ _ _ _ hq)⟩
theorem EnvR.put {K : PySem.W.Frag} {env : Env} {G : Hp} {ι : List Addr} {σ : L2.St} {i : Nat} {sv : SV} {v : V} (h : EnvR K cl env G ι σ) (r : RepS K cl G ι sv v) : EnvR K cl (env.set i (some sv)) G ι (σ.set i (some v)) := by
  refine ⟨by simp [h.el], fun j w e => ?_⟩
  by_cases hj : j = i
  · subst hj
    have hl : j < env.length := by
      have := (List.getElem?_eq_some_iff.mp e).1
      simpa using this
    rw [List.getElem?_set_self hl] at e
    cases e
    exact ⟨v, by rw [List.getElem?_set_self (by rw [← h.el]; exact hl)], r⟩
  · rw [List.getElem?_set_ne (Ne.symm hj)] at e ⊢
    exact h.at_ j w e
theorem only_set {σ : L2.St} {i : Nat} {w : Option V} : OnlyAt σ (σ.set i w) [i] := ⟨by simp, fun j hj => by rw [List.getElem?_set_ne (by simp at hj; exact Ne.symm hj)]⟩
theorem sg_nm {i : Nat} (hN : X.N.Nodup) (hi : X.N[i]? = some x) (hx : Loc X.env.scope x) (hf : X.fn x = true ∨ X.env.scope.names.lookup x = some .local) : SG X cl (.Name x pos) (.nm i) := by
  refine pg_by (pg_name hN hi hx hf) fun v σ H Q h => ?_
  obtain ⟨env, S, G, ι, d, env', S', rp, re, rd, ea, q⟩ := h
  unfold asgT at ea
  by_cases hl : i < env.length
  · rw [if_pos hl] at ea
    cases ea
    exact q _ H only_set rp .refl (re.put (sv := .p d) rd)
  · rw [if_neg hl] at ea; cases ea
theorem sgs_nil : SGs X cl [] [] := by
  refine pgs_by pgs_nil fun vs σ H Q h => ?_
  obtain ⟨env, S, G, ι, ds, env', S', rp, re, rd, ea, q⟩ := h
  cases ds with
  | nil =>
    cases (show vs = [] from rd)
    rw [asgTs] at ea
    cases ea
    exact ⟨rfl, q σ H ⟨rfl, fun _ _ => rfl⟩ rp .refl re⟩
  | cons y ys => simp [asgTs] at ea
theorem sgs_cons (h1 : SG X cl e t) (h2 : SGs X cl es ts) (hs : (assignEach (e :: es) X.env).map (·.2) = assign e X.env :: (assignEach es X.env).map (·.2)) : SGs X cl (e :: es) (t :: ts) := by
  refine pgs_by (pgs_cons h1 h2 hs) fun vs σ H Q h => ?_
  obtain ⟨env, S, G, ι, ds, env', S', rp, re, rd, ea, q⟩ := h
  cases ds with
  | nil => simp [asgTs] at ea
  | cons y ys =>
    obtain ⟨v, r, rfl, h3, h4⟩ := rd
    rw [asgTs] at ea
    cases qa : asgT t y env S with
    | none => rw [qa] at ea; cases ea
    | some w =>
      rw [qa] at ea
      refine ⟨v, r, rfl, env, S, G, ι, y, w.1, w.2, rp, re, h3, qa, fun σ1 H1 on1 rp1 ex1 re1 => ?_⟩
      refine ⟨w.1, w.2, G, ι, ys, env', S', rp1, re1, h4, ea, fun σ2 H2 on2 rp2 ex2 re2 => ?_⟩
      exact q σ2 H2 (by rw [RT.slotsL]; exact on1.trans on2) rp2 (ex1.trans ex2) re2
theorem sg_tp {k : Nat} (hc : X.calm = true) (h : SGs X cl es ts) (hn : (assignEach es X.env).length = ts.length) (hst : (assignEach es X.env).findIdx? (·.1) = none) : SG X cl (.Tuple es k pos) (.tp ts) := by
  constructor
  intro pins s σ H v u Q I r hw
  obtain ⟨env, S, G, ι, d, env', S', rp, re, rd, ea, q⟩ := hw
  rw [asgT] at ea
  have hlen : ∀ (ts : List RT) (xs : List D) (e : Env) (S : Sto) (w : Env × Sto), asgTs ts xs e S = some w → xs.length = ts.length := by
    intro ts
    induction ts with
    | nil => intro xs e S w h; cases xs with
      | nil => rfl
      | cons _ _ => simp [asgTs] at h
    | cons t ts ih => intro xs e S w h; cases xs with
      | nil => simp [asgTs] at h
      | cons x xs =>
        rw [asgTs] at h
        cases qa : asgT t x e S with
        | none => rw [qa] at h; cases h
        | some w' => rw [qa] at h; simp [ih xs _ _ _ h]
  cases d with
  | tup xs =>
    obtain ⟨b, vs, rfl, h1, h2⟩ := rd
    refine (pg_tup (n := ts.length) hc h hn hst).run pins s σ H _ u Q I r ⟨b, vs, rfl, SqT.up h1 rp.gs, ?_, env, S, G, ι, xs, env', S', rp, re, h2, ea, fun σ' H' on => q σ' H' (by rw [RT.slots]; exact on)⟩
    rw [← h2.length]; exact hlen _ _ _ _ _ ea
  | lst xs =>
    obtain ⟨b, vs, rfl, h1, h2⟩ := rd
    refine (pg_unl (n := ts.length) hc h hn hst).run pins s σ H _ u Q I r ⟨b, vs, rfl, SqL.upS h1 rp.gs, ?_, env, S, G, ι, xs, env', S', rp, re, h2, ea, fun σ' H' on => q σ' H' (by rw [RT.slots]; exact on)⟩
    rw [← h2.length]; exact hlen _ _ _ _ _ ea
  | _ => cases ea
/-! attributes as targets -/
theorem RepF.put {K : PySem.W.Frag} {G : Hp} {g : Str} {d : D} {v : V} (hd : Rep K cl G d v) : ∀ {fs : List (Str × D)} {fv : List (Str × V)}, RepF K cl G fs fv → RepF K cl G (putFD g d fs) (putF g v fv)
  | [], _, h => by
    cases (show _ = [] from h)
    exact ⟨v, [], rfl, hd, rfl⟩
  | (q, w) :: r, _, h => by
    obtain ⟨u, s, rfl, h2, h3⟩ := h
    unfold putFD putF
    by_cases hq : q = g
    · rw [if_pos hq, if_pos hq]; exact ⟨v, s, rfl, hd, h3⟩
    · rw [if_neg hq, if_neg hq]; exact ⟨u, _, rfl, h2, RepF.put hd h3⟩
theorem RepF.len {K : PySem.W.Frag} {G : Hp} : ∀ {fs : List (Str × D)} {fv : List (Str × V)}, RepF K cl G fs fv → fs.length = fv.length
  | [], _, h => by cases (show _ = [] from h); rfl
  | (q, w) :: r, _, h => by obtain ⟨u, s, rfl, _, h3⟩ := h; simp [RepF.len h3]
theorem pg_attr {to : TE} (ho : PE X o to) (ha : ∀ v, assign (.Attribute o f p) X.env v = (do
      let ov ← holding [v] (eval o X.env)
      standAt p.atName
      holding [v, ov] (setAttr ov f v)
      release [v, ov] [])) : PG X (.Attribute o f p) (fun v σ H Q => to σ H fun y H1 => ∃ b C dx fs, y = .ref b ∧ H1 b = some (.ins C dx fs) ∧ Cls X.K C ∧ NoAttr X.K C f ∧ fs.length < 1000 ∧ Q σ (upd H1 b (.ins C dx (putF f v fs)))) := by
  constructor
  intro pins s σ H v u Q I r h
  rw [ha]
  refine wpAny_bind (wpAny_holding (thn (ho.run pins s σ H _ I h) fun ov s1 hh => ?_))
  obtain ⟨y, H1, I1, ry, b, C, dx, fs, ey, eb, c1, c2, hl, q⟩ := hh
  subst ey
  cases ry
  refine wpAny_bind (wpAny_standAt (wpAny_bind (wpAny_holding (setattr_ok I1 eb c1 c2 hl r fun s2 I2 => ?_))))
  exact wpAny_release ⟨σ, _, I2, q⟩
/-- an attribute of a local instance is written -/
theorem fld_put {K : PySem.W.Frag} {S : Sto} {G H : Hp} {ι : List Addr} {n cn : Nat} {b : Addr} {fs : List (Str × D)} {d : D} {v : V} {g : Str} (rp : RpH K cl S G ι H) (hb : ι[n]? = some b) (hS : S[n]? = some (.obj cn fs)) (rd : Rep K cl G d v) :
    ∃ dx fv, H b = some (.ins (cl cn) dx fv) ∧ fv.length = fs.length ∧ RpH K cl (S.set n (.obj cn (putFD g d fs))) G ι (upd H b (.ins (cl cn) dx (putF g v fv))) ∧ Ext G H ι G (upd H b (.ins (cl cn) dx (putF g v fv))) ι := by
  obtain ⟨z0, dx, fv, z1, z2⟩ := rp.cel n b _ hb hS
  exact ⟨dx, fv, z1, (RepF.len z2).symm, rp.put hb z0 ⟨z0, dx, _, upd_same, RepF.put rd z2⟩, Ext.put hb⟩
theorem sg_fld {cn i : Nat} {po : Pos} (hN : X.N[i]? = some x) (hv : Vis X.env.scope x) (hd : (x == ("__debug__" : Str)) = false) (hcd : (x == ("__classdict__" : Str)) = false) (c1 : Cls X.K (cl cn)) (c2 : NoAttr X.K (cl cn) f) : SG X cl (.Attribute (.Name x po) f p) (.fld cn i f) := by
  refine pg_by (pg_attr (pe_var hN hv hd hcd) (fun v => rfl)) fun v σ H Q h => ?_
  obtain ⟨env, S, G, ι, d, env', S', rp, re, rd, ea, q⟩ := h
  rw [asgT] at ea
  cases qe : env.get i with
  | none => rw [qe] at ea; cases ea
  | some sv =>
    rw [qe] at ea
    cases sv with
    | p _ => cases ea
    | l n =>
      simp only at ea
      cases qs : S[n]? with
      | none => rw [qs] at ea; cases ea
      | some cc =>
        rw [qs] at ea
        cases cc with
        | obj c' fs =>
          simp only at ea
          by_cases hh : c' = cn ∧ fs.length < 100
          · rw [if_pos hh] at ea
            cases ea
            obtain ⟨rfl, hl⟩ := hh
            obtain ⟨w, h1, b, hb, rfl⟩ := re.at_ i _ (env_get qe)
            obtain ⟨dx, fv, h2, h3, rp2, ex2⟩ := fld_put (g := f) rp hb qs rd
            exact ⟨_, h1, b, cl c', dx, fv, rfl, h2, c1, c2, by omega, q σ _ ⟨rfl, fun _ _ => rfl⟩ rp2 ex2 (re.up ex2)⟩
          · rw [if_neg hh] at ea; cases ea
        | _ => cases ea
/-! ### comprehensions -/
theorem RpH.wr {K : PySem.W.Frag} {S : Sto} {G H : Hp} {ι : List Addr} {p : Addr} {o : HO} (h : RpH K cl S G ι H) (hg : G p = none) (hn : p ∉ ι) : RpH K cl S G ι (upd H p o) := by
  have nι : ∀ a ∈ ι, a ≠ p := fun a ha e => hn (e ▸ ha)
  refine ⟨fun b u e => ?_, h.len, h.nd, fun a ha => ?_, fun n a c e1 e2 => ?_⟩
  · rw [upd_ne (fun z => by rw [z, hg] at e; cases e)]; exact h.gs b u e
  · rw [upd_ne (nι a ha)]; exact h.inh a ha
  · have ha := nι a (List.mem_of_getElem? e1)
    exact (h.cel n a c e1 e2).upG (Same.refl _) (fun q => q) fun o q => by rw [upd_ne ha]; exact q
theorem Ext.wr {G H G' H' : Hp} {ι ι' : List Addr} {p : Addr} {o : HO} (x : Ext G H ι G' H' ι') (hp : H p = none) : Ext G H ι G' (upd H' p o) ι' := by
  refine ⟨x.g, x.i, fun a u e na => ?_, x.nw, x.gn, fun a h => ?_⟩
  · rw [upd_ne (fun z => by rw [z, hp] at e; cases e)]; exact x.fr a u e na
  · by_cases ha : a = p
    · subst ha; exact hp
    · rw [upd_ne ha] at h; exact x.hn a h
/-- what is nobody's stays so -/
theorem Ext.lone {G H G' H' : Hp} {ι ι' : List Addr} {p : Addr} {o : HO} (x : Ext G H ι G' H' ι') (hp : H p = some o) (hg : G p = none) (hn : p ∉ ι) : H' p = some o ∧ G' p = none ∧ p ∉ ι' := by
  refine ⟨x.fr p o hp hn, ?_, fun z => ?_⟩
  · cases q : G' p with
    | none => rfl
    | some u =>
      rcases x.gn p u q with z | z | z
      · rw [hg] at z; cases z
      · rw [hp] at z; cases z
      · exact absurd z hn
  · rcases x.nw p z with y | y
    · exact hn y
    · rw [hp] at y; cases y
theorem EnvR.wipe {K : PySem.W.Frag} {env : Env} {G : Hp} {ι : List Addr} {σ : L2.St} (h : EnvR K cl env G ι σ) (vs : List Nat) : EnvR K cl (wipeE env vs) G ι (L2.wipe σ vs) := by
  induction vs with
  | nil => exact h
  | cons v vs ih =>
    refine ⟨by simp [wipeE, L2.wipe, ih.el], fun i sv e => ?_⟩
    unfold wipeE at e
    unfold L2.wipe
    by_cases hv : v = i
    · subst hv
      have hl : v < (wipeE env vs).length := by
        have := (List.getElem?_eq_some_iff.mp e).1
        simpa using this
      rw [List.getElem?_set_self hl] at e
      cases e
    · rw [List.getElem?_set_ne hv] at e ⊢
      exact ih.at_ i sv e
abbrev STs (X : Cx) (cl : Nat → Addr) (ifs : List Expr) (f : Env → Sto → Res Bool) : Prop := PTs X ifs (tX X.K cl RBl f)
theorem pts_by {t t' : TT} (h : PTs X es t') (k : ∀ σ H Q, t σ H Q → t' σ H Q) : PTs X es t := ⟨fun pins s σ H Q I hq => h.run pins s σ H Q I (k _ _ _ hq)⟩
theorem sts_nil : STs X cl [] (evalIfs C .nil) := by
  refine pts_by pts_nil fun σ H Q h => ?_
  obtain ⟨env, S, G, ι, rp, re, po⟩ := h
  rw [evalIfs] at po
  exact po true H G ι rp .refl rfl
theorem sts_one (h : ST X cl e (evalT C r)) : STs X cl [e] (evalIfs C (.cons r .nil)) := by
  refine pts_by (pts_one h) fun σ H Q h => ?_
  obtain ⟨env, S, G, ι, rp, re, po⟩ := h
  rw [evalIfs] at po
  refine ⟨env, S, G, ι, rp, re, Post.seq po fun b S1 b' H1 G1 ι1 e1 rp1 ex1 r1 po1 => ?_⟩
  cases r1
  cases b with
  | true =>
    rw [if_pos rfl, evalIfs] at po1
    exact po1 true H1 G1 ι1 rp1 ex1 rfl
  | false =>
    rw [if_neg (by decide)] at po1
    exact po1 false H1 G1 ι1 rp1 ex1 rfl
theorem drop_get {α : Type} {xs : List α} {i : Nat} (h : i < xs.length) : xs.drop i = xs[i] :: xs.drop (i + 1) := by simp
theorem lc_nw {K : PySem.W.Frag} {vs : List Nat} {it : RI} {ifs : REs} {elt : RE} {tg : RT} {σ : L2.St} {H : Hp} {Q : VK} (hsl : ∀ j ∈ tg.slots, j ∈ vs)
    (h : tX K cl (RNw K cl) (evalE C (.lc vs tg it ifs elt)) σ H Q) : tLc (tX K cl (RIt K cl) (evalI C it)) (tT K cl tg) (tX K cl RBl (evalIfs C ifs)) (tX K cl (RSv K cl) (evalE C elt)) vs σ H Q := by
  obtain ⟨env, S, G, ι, rp, re, po⟩ := h
  rw [evalE] at po
  refine ⟨env, S, G, ι, rp, re, Post.seq po fun xs S1 J H1 G1 ι1 e1 rp1 ex1 isw po1 => fun D hD => ?_⟩
  have gD : G1 D = none := by
    cases q : G1 D with
    | none => rfl
    | some o => rw [rp1.gs _ _ q] at hD; cases hD
  have nD : D ∉ ι1 := fun z => rp1.inh D z hD
  have hD0 : H D = none := ex1.hn D hD
  let turn : R.D → Sto → Res (Option R.D) := fun x S => (ofO (asgT tg x (wipeE env vs) S) S).bind fun q _ => (evalIfs C ifs q.1 q.2).bind fun b S => if b = true then (evalE C elt q.1 S).bind fun v S => (ofO (pur v) S).bind fun d S => .ok (some d) S else .ok none S
  refine ⟨fun i m H2 => m = xs.length - i ∧ i ≤ xs.length ∧ ∃ S2 G2 ι2 acc av, RpH K cl S2 G2 ι2 H2 ∧ Ext G1 H1 ι1 G2 H2 ι2 ∧ H2 D = some (.lst av) ∧ G2 D = none ∧ D ∉ ι2 ∧ Reps K cl G2 acc av ∧ Post K cl (RNw K cl) G ι H Q ((lcLoop turn (xs.drop i) acc S2).bind fun acc S => .ok (.p (.lst acc)) S),
    ⟨xs.length, by simp, Nat.zero_le _, S1, G1, ι1, [], [], rp1.layH hD, Ext.layH hD, upd_same, gD, nD, rfl, by rw [List.drop_zero]; exact po1⟩, ?_⟩
  rintro i m H2 ⟨rfl, hi, S2, G2, ι2, acc, av, rp2, ex2, h2, g2, n2, ra, po2⟩
  by_cases hlt : i < xs.length
  · refine .inr ⟨isw.go i H2 hlt (ex2.g.trans rp2.gs), fun H3 => xs.length - (i + 1) = xs.length - (i + 1) ∧ i + 1 ≤ xs.length ∧ ∃ S2 G2 ι2 acc av, RpH K cl S2 G2 ι2 H3 ∧ Ext G1 H1 ι1 G2 H3 ι2 ∧ H3 D = some (.lst av) ∧ G2 D = none ∧ D ∉ ι2 ∧ Reps K cl G2 acc av ∧ Post K cl (RNw K cl) G ι H Q ((lcLoop turn (xs.drop (i + 1)) acc S2).bind fun acc S => .ok (.p (.lst acc)) S),
      fun H' p' => ⟨xs.length - (i + 1), by omega, p'⟩, fun x Hx y => ?_⟩
    obtain ⟨Gx, rpx, exx, rx⟩ := isw.yl i H2 Hx x xs[i] (by simp) (ex2.g.trans rp2.gs) y S2 G2 ι2 ex2.g rp2
    obtain ⟨hx, gx, nx⟩ := exx.lone h2 g2 n2
    have ex3 := ex2.trans exx
    have ra := Reps.up' ra exx.g
    have rex : EnvR K cl (wipeE env vs) Gx ι2 (L2.wipe σ vs) := (re.up (ex1.trans ex3)).wipe vs
    rw [drop_get hlt, lcLoop] at po2
    -- the target
    cases qa : asgT tg xs[i] (wipeE env vs) S2 with
    | none => simp only [turn, qa, ofO_none, Res.bind_bad] at po2; exact po2.elim
    | some w =>
      simp only [turn, qa, ofO_some, Res.bind_ok] at po2
      refine ⟨_, S2, Gx, ι2, xs[i], w.1, w.2, rpx, rex, rx, qa, fun σ4 H4 on4 rp4 ex4 re4 => ⟨wipe_only on4 hsl, ?_⟩⟩
      obtain ⟨h4, g4, n4⟩ := ex4.lone hx gx nx
      refine ⟨w.1, w.2, Gx, ι2, rp4, re4, ?_⟩
      -- the tests
      cases q5 : evalIfs C ifs w.1 w.2 with
      | exc _ _ _ => rw [q5] at po2; exact po2.elim
      | bad => rw [q5] at po2; exact po2.elim
      | ok b S5 =>
        rw [q5] at po2
        intro b' H5 G5 ι5 rp5 ex5 eb
        cases eb
        obtain ⟨h5, g5, n5⟩ := ex5.lone h4 g4 n4
        have ex6 := (ex3.trans ex4).trans ex5
        have ra5 := Reps.up' ra ex5.g
        cases b with
        | false =>
          simp only [Res.bind_ok, Bool.false_eq_true, if_false] at po2 ⊢
          exact ⟨trivial, hlt, S5, G5, ι5, acc, av, rp5, ex6, h5, g5, n5, ra5, po2⟩
        | true =>
          simp only [Res.bind_ok, if_true] at po2 ⊢
          refine ⟨w.1, S5, G5, ι5, rp5, re4.up ex5, ?_⟩
          cases q6 : evalE C elt w.1 S5 with
          | exc _ _ _ => rw [q6] at po2; exact po2.elim
          | bad => rw [q6] at po2; exact po2.elim
          | ok sv S6 =>
            rw [q6] at po2
            intro z H6 G6 ι6 rp6 ex7 rz
            obtain ⟨h6, g6, n6⟩ := ex7.lone h5 g5 n5
            have ra6 := Reps.up' ra5 ex7.g
            cases sv with
            | l n => exact po2.elim
            | p d =>
              simp only [Res.bind_ok, pur_p, ofO_some] at po2
              by_cases hl : acc.length < line
              · rw [if_pos hl] at po2
                have hla := ra6.length
                refine ⟨av, h6, by rw [← hla]; rw [sline]; exact hl, trivial, hlt, S6, G6, ι6, acc ++ [d], av ++ [z], rp6.wr g6 n6, (ex6.trans ex7).wr hD, upd_same, g6, n6, Reps.of (Paired.append ra6.pair (.cons rz .nil)), po2⟩
              · rw [if_neg hl] at po2; exact po2.elim
  · have hi' : i = xs.length := by omega
    subst hi'
    refine .inl ⟨isw.st H2 (ex2.g.trans rp2.gs), ?_⟩
    rw [List.drop_length] at po2
    exact po2 (.ref D) H2 G2 ι2 rp2 (ex1.trans ex2) ⟨D, rfl, hD0, g2, n2, av, h2, ra⟩
theorem dc_nw {K : PySem.W.Frag} {vs : List Nat} {it : RI} {rk rv : RE} {tg : RT} {σ : L2.St} {H : Hp} {Q : VK} (hsl : ∀ j ∈ tg.slots, j ∈ vs)
    (h : tX K cl (RNw K cl) (evalE C (.dc vs tg it rk rv)) σ H Q) : tDc (tX K cl (RIt K cl) (evalI C it)) (tT K cl tg) (tX K cl RBl (evalIfs C .nil)) (tX K cl (RSv K cl) (evalE C rk)) (tX K cl (RSv K cl) (evalE C rv)) vs σ H Q := by
  obtain ⟨env, S, G, ι, rp, re, po⟩ := h
  rw [evalE] at po
  refine ⟨env, S, G, ι, rp, re, Post.seq po fun xs S1 J H1 G1 ι1 e1 rp1 ex1 isw po1 => fun D hD => ?_⟩
  have gD : G1 D = none := by
    cases q : G1 D with
    | none => rfl
    | some o => rw [rp1.gs _ _ q] at hD; cases hD
  have nD : D ∉ ι1 := fun z => rp1.inh D z hD
  have hD0 : H D = none := ex1.hn D hD
  let turn : R.D → Sto → Res (R.D × R.D) := fun x S => (ofO (asgT tg x (wipeE env vs) S) S).bind fun q _ => (evalE C rk q.1 q.2).bind fun a S => (evalE C rv q.1 S).bind fun b S => match pur a, pur b with
    | some a, some b => .ok (a, b) S
    | _, _ => .bad
  refine ⟨fun i m H2 => m = xs.length - i ∧ i ≤ xs.length ∧ ∃ S2 G2 ι2 acc av, RpH K cl S2 G2 ι2 H2 ∧ Ext G1 H1 ι1 G2 H2 ι2 ∧ H2 D = some (.dK av) ∧ G2 D = none ∧ D ∉ ι2 ∧ RepK K cl G2 acc av ∧ Post K cl (RNw K cl) G ι H Q ((dcLoop turn (xs.drop i) acc S2).bind fun acc S => .ok (.p (.dct acc)) S),
    ⟨xs.length, by simp, Nat.zero_le _, S1, G1, ι1, [], [], rp1.layH hD, Ext.layH hD, upd_same, gD, nD, rfl, by rw [List.drop_zero]; exact po1⟩, ?_⟩
  rintro i m H2 ⟨rfl, hi, S2, G2, ι2, acc, av, rp2, ex2, h2, g2, n2, ra, po2⟩
  by_cases hlt : i < xs.length
  · refine .inr ⟨isw.go i H2 hlt (ex2.g.trans rp2.gs), fun H3 => xs.length - (i + 1) = xs.length - (i + 1) ∧ i + 1 ≤ xs.length ∧ ∃ S2 G2 ι2 acc av, RpH K cl S2 G2 ι2 H3 ∧ Ext G1 H1 ι1 G2 H3 ι2 ∧ H3 D = some (.dK av) ∧ G2 D = none ∧ D ∉ ι2 ∧ RepK K cl G2 acc av ∧ Post K cl (RNw K cl) G ι H Q ((dcLoop turn (xs.drop (i + 1)) acc S2).bind fun acc S => .ok (.p (.dct acc)) S),
      fun H' p' => ⟨xs.length - (i + 1), by omega, p'⟩, fun x Hx y => ?_⟩
    obtain ⟨Gx, rpx, exx, rx⟩ := isw.yl i H2 Hx x xs[i] (by simp) (ex2.g.trans rp2.gs) y S2 G2 ι2 ex2.g rp2
    obtain ⟨hx, gx, nx⟩ := exx.lone h2 g2 n2
    have ex3 := ex2.trans exx
    have ra := RepK.up exx.g _ _ ra
    have rex : EnvR K cl (wipeE env vs) Gx ι2 (L2.wipe σ vs) := (re.up (ex1.trans ex3)).wipe vs
    rw [drop_get hlt, dcLoop] at po2
    -- the target
    cases qa : asgT tg xs[i] (wipeE env vs) S2 with
    | none => simp only [turn, qa, ofO_none, Res.bind_bad] at po2; exact po2.elim
    | some w =>
      simp only [turn, qa, ofO_some, Res.bind_ok] at po2
      refine ⟨_, S2, Gx, ι2, xs[i], w.1, w.2, rpx, rex, rx, qa, fun σ4 H4 on4 rp4 ex4 re4 => ⟨wipe_only on4 hsl, ?_⟩⟩
      obtain ⟨h4, g4, n4⟩ := ex4.lone hx gx nx
      refine ⟨w.1, w.2, Gx, ι2, rp4, re4, ?_⟩
      rw [evalIfs]
      intro b' H5 G5 ι5 rp5 ex5 eb
      cases eb
      obtain ⟨h5, g5, n5⟩ := ex5.lone h4 g4 n4
      have ex6 := (ex3.trans ex4).trans ex5
      have ra5 := RepK.up ex5.g _ _ ra
      simp only [if_true]
      refine ⟨w.1, w.2, G5, ι5, rp5, re4.up ex5, ?_⟩
      cases q6 : evalE C rk w.1 w.2 with
      | exc _ _ _ => rw [q6] at po2; exact po2.elim
      | bad => rw [q6] at po2; exact po2.elim
      | ok sk S6 =>
        rw [q6] at po2
        intro zk H6 G6 ι6 rp6 ex7 rz
        obtain ⟨h6, g6, n6⟩ := ex7.lone h5 g5 n5
        have ra6 := RepK.up ex7.g _ _ ra5
        simp only [Res.bind_ok] at po2
        refine ⟨w.1, S6, G6, ι6, rp6, (re4.up ex5).up ex7, ?_⟩
        cases q7 : evalE C rv w.1 S6 with
        | exc _ _ _ => rw [q7] at po2; exact po2.elim
        | bad => rw [q7] at po2; exact po2.elim
        | ok sv S7 =>
          rw [q7] at po2
          intro zv H7 G7 ι7 rp7 ex8 ry
          obtain ⟨h7, g7, n7⟩ := ex8.lone h6 g6 n6
          have ra7 := RepK.up ex8.g _ _ ra6
          have rz := RepS.up rz ex8
          cases sk with
          | l n => exact po2.elim
          | p dk =>
            cases sv with
            | l n => exact po2.elim
            | p d =>
              simp only [Res.bind_ok, pur_p] at po2
              by_cases hl : keyD dk = true ∧ acc.length < line
              · rw [if_pos hl] at po2
                have hla := ra7.length
                obtain ⟨κ, hκ⟩ := keyRep.of hl.1
                refine ⟨av, κ, hκ.kV rz, h7, by rw [← hla]; rw [sline]; exact hl.2, trivial, hlt, S7, G7, ι7, putD dk d acc, putK av κ zv, rp7.wr g7 n7, ((ex6.trans ex7).trans ex8).wr hD, upd_same, g7, n7, RepK.put hκ ry ra7, po2⟩
              · rw [if_neg hl] at po2; exact po2.elim
  · have hi' : i = xs.length := by omega
    subst hi'
    refine .inl ⟨isw.st H2 (ex2.g.trans rp2.gs), ?_⟩
    rw [List.drop_length] at po2
    exact po2 (.ref D) H2 G2 ι2 rp2 (ex1.trans ex2) ⟨D, rfl, hD0, g2, n2, av, h2, ra⟩
section
variable {it : RI} {ifs : REs} {elt rk rv : RE} {iter elx kx vx : Expr} {ifx : List Expr} {scope : Scope} {own : List (Str × Nat)} {t : RT}
abbrev Blk (X : Cx) (scope : Scope) (J : Cx → Prop) : Prop := ∀ (s : Shared) (H : Hp) (L : Addr) (cl : List (Str × Addr)) (fp : List Addr), J (X.blk s H scope (compEnvC scope cl L X.env) fp)
theorem sn_lc (hc : X.calm = true) (hN : X.N.Nodup) (hsl : ∀ j ∈ t.slots, j ∈ own.map (·.2)) (hi : SI X cl tg iter (evalI C it)) (ok : BlkOk X.N X.env.scope scope own) (hg : Blk X scope fun Y => SG Y cl tg t) (ht : Blk X scope fun Y => STs Y cl ifx (evalIfs C ifs))
    (he : Blk X scope fun Y => SE Y cl elx (evalE C elt)) (hs : ∀ x, foldedSetIterable iter X.env x = pure x) : SN X cl (.ListComp elx [⟨tg, iter, ifx, 0⟩] scope pos) (evalE C (.lc (own.map (·.2)) t it ifs elt)) :=
  pe_by (pe_lc hc hN hi ok hg ht he hs) fun _ _ _ h => lc_nw hsl h
theorem sn_dc (hc : X.calm = true) (hN : X.N.Nodup) (hsl : ∀ j ∈ t.slots, j ∈ own.map (·.2)) (hi : SI X cl tg iter (evalI C it)) (ok : BlkOk X.N X.env.scope scope own) (hg : Blk X scope fun Y => SG Y cl tg t)
    (hk : Blk X scope fun Y => SE Y cl kx (evalE C rk)) (he : Blk X scope fun Y => SE Y cl vx (evalE C rv)) (hs : ∀ x, foldedSetIterable iter X.env x = pure x) : SN X cl (.DictComp kx vx [⟨tg, iter, [], 0⟩] scope pos) (evalE C (.dc (own.map (·.2)) t it rk rv)) :=
  pe_by (pe_dc hc hN hi ok hg (fun _ _ _ _ _ => sts_nil) hk he hs) fun _ _ _ h => dc_nw hsl h
end
end
end R
end
section
set_option linter.all false
set_option maxRecDepth 100000
set_option maxHeartbeats 1000000
/-! R14: statements. -/
namespace R
open PySem PySem.Spec PyProof.Rows L2
def PostS (K : PySem.W.Frag) (cl : Nat → Addr) (G : Hp) (ι : List Addr) (H : Hp) (E : Ends) : StR → Prop
  | .nx e S' => ∀ σ' H' G' ι', RpH K cl S' G' ι' H' → Ext G H ι G' H' ι' → EnvR K cl e G' ι' σ' → E.nx σ' H'
  | .bk e S' => ∀ σ' H' G' ι', RpH K cl S' G' ι' H' → Ext G H ι G' H' ι' → EnvR K cl e G' ι' σ' → E.bk σ' H'
  | .ct e S' => ∀ σ' H' G' ι', RpH K cl S' G' ι' H' → Ext G H ι G' H' ι' → EnvR K cl e G' ι' σ' → E.ct σ' H'
  | .rt sv S' => ∀ v H' G' ι', RpH K cl S' G' ι' H' → Ext G H ι G' H' ι' → RepS K cl G' ι' sv v → E.rt v H'
  | _ => False
def tS (K : PySem.W.Frag) (cl : Nat → Addr) (f : Env → Sto → StR) : TS := fun E σ H => ∃ (env : Env) (S : Sto) (G : Hp) (ι : List Addr), RpH K cl S G ι H ∧ EnvR K cl env G ι σ ∧ PostS K cl G ι H E (f env S)
abbrev SS (X : Cx) (cl : Nat → Addr) (st : Stmt) (f : Env → Sto → StR) : Prop := PS X st (tS X.K cl f)
abbrev SSs (X : Cx) (cl : Nat → Addr) (sts : List Stmt) (f : Env → Sto → StR) : Prop := PSs X sts (tS X.K cl f)
section
variable {X : Cx} {cl : Nat → Addr} {e a b c o tg : Expr} {es : List Expr} {x f y : Str} {p pos apos : Pos} {C : CallF} {N : Nat} {r ra rb : RE} {rs : REs} {t : RT} {ts : List RT} {st : Stmt} {sts body els : List Stmt} {s : RS} {ss sb se : RSs}
theorem ps_by {t t' : TS} (h : PS X st t') (k : ∀ E σ H, t E σ H → t' E σ H) : PS X st t := ⟨fun pins s σ H E I hq => h.run pins s σ H E I (k _ _ _ hq)⟩
theorem pss_by {t t' : TS} (h : PSs X sts t') (k : ∀ E σ H, t E σ H → t' E σ H) : PSs X sts t := ⟨fun pins s σ H E I hq => h.run pins s σ H E I (k _ _ _ hq)⟩
theorem PostS.up {K : PySem.W.Frag} {G H G' H' : Hp} {ι ι' : List Addr} {E : Ends} {q : StR} (h : PostS K cl G ι H E q) (x : Ext G H ι G' H' ι') : PostS K cl G' ι' H' E q := by
  cases q with
  | nx e S' => exact fun σ2 H2 G2 ι2 rp ex re => h σ2 H2 G2 ι2 rp (x.trans ex) re
  | bk e S' => exact fun σ2 H2 G2 ι2 rp ex re => h σ2 H2 G2 ι2 rp (x.trans ex) re
  | ct e S' => exact fun σ2 H2 G2 ι2 rp ex re => h σ2 H2 G2 ι2 rp (x.trans ex) re
  | rt v S' => exact fun v2 H2 G2 ι2 rp ex re => h v2 H2 G2 ι2 rp (x.trans ex) re
  | exc c d S' => exact h
  | bad => exact h
/-- an expression, then the rest of a statement -/
theorem PostS.seq {α β : Type} {K : PySem.W.Frag} {G H : Hp} {ι : List Addr} {E : Ends} {Z : RelA α β} {q : Res α} {g : α → Sto → StR} {Q' : β → Hp → Prop} (h : PostS K cl G ι H E (q.st g))
    (k : ∀ (a : α) (S1 : Sto) (b : β) (H1 G1 : Hp) (ι1 : List Addr), q = .ok a S1 → RpH K cl S1 G1 ι1 H1 → Ext G H ι G1 H1 ι1 → Z H G1 H1 ι1 a b → PostS K cl G1 ι1 H1 E (g a S1) → Q' b H1) : Post K cl Z G ι H Q' q := by
  cases q with
  | ok a S1 => exact fun b H1 G1 ι1 rp ex rr => k a S1 b H1 G1 ι1 rfl rp ex rr (h.up ex)
  | exc c d S' => exact h
  | bad => exact h
theorem posts_ofO {α : Type} {K : PySem.W.Frag} {G H : Hp} {ι : List Addr} {E : Ends} {w : Option α} {S : Sto} {g : α → Sto → StR} (h : PostS K cl G ι H E ((ofO w S).st g)) : ∃ x, w = some x ∧ PostS K cl G ι H E (g x S) := by
  cases w with
  | none => exact h.elim
  | some x => exact ⟨x, rfl, h⟩
/-! rows -/
theorem ss_nil : SSs X cl [] (execs C N .nil) := by
  refine pss_by pss_nil fun E σ H h => ?_
  obtain ⟨env, S, G, ι, rp, re, po⟩ := h
  rw [execs] at po
  exact po σ H G ι rp .refl re
theorem ss_cons (h1 : SS X cl st (exec C N s)) (h2 : SSs X cl sts (execs C N ss)) : SSs X cl (st :: sts) (execs C N (.cons s ss)) := by
  refine pss_by (pss_cons h1 h2) fun E σ H h => ?_
  obtain ⟨env, S, G, ι, rp, re, po⟩ := h
  rw [execs] at po
  refine ⟨env, S, G, ι, rp, re, ?_⟩
  cases q : exec C N s env S with
  | nx e1 S1 => rw [q] at po; exact fun σ1 H1 G1 ι1 rp1 ex1 re1 => ⟨e1, S1, G1, ι1, rp1, re1, po.up ex1⟩
  | bk e1 S1 => rw [q] at po; exact po
  | ct e1 S1 => rw [q] at po; exact po
  | rt v S1 => rw [q] at po; exact po
  | exc c d S1 => rw [q] at po; exact po
  | bad => rw [q] at po; exact po
/-! small ones -/
theorem ss_of {u : TS} (h : PS X st u) (k : ∀ E σ H, tS X.K cl (exec C N s) E σ H → u E σ H) : SS X cl st (exec C N s) := ps_by h k
theorem ss_pas : SS X cl (.Pass pos) (exec C N .pas) := ps_by ps_pass fun E σ H h => by
  obtain ⟨env, S, G, ι, rp, re, po⟩ := h
  rw [exec] at po
  exact po σ H G ι rp .refl re
theorem ss_doc {j : Nat} : SS X cl (.Expr (.Constant (.str x) j p) pos) (exec C N .pas) := ps_by ps_doc fun E σ H h => by
  obtain ⟨env, S, G, ι, rp, re, po⟩ := h
  rw [exec] at po
  exact po σ H G ι rp .refl re
theorem ss_brk : SS X cl (.Break pos) (exec C N .brk) := ps_by ps_break fun E σ H h => by
  obtain ⟨env, S, G, ι, rp, re, po⟩ := h
  rw [exec] at po
  exact po σ H G ι rp .refl re
theorem ss_cnt : SS X cl (.Continue pos) (exec C N .cnt) := ps_by ps_continue fun E σ H h => by
  obtain ⟨env, S, G, ι, rp, re, po⟩ := h
  rw [exec] at po
  exact po σ H G ι rp .refl re
theorem ss_nev : SS X cl st (exec C N .nev) := ps_by ps_never fun E σ H h => by
  obtain ⟨env, S, G, ι, rp, re, po⟩ := h
  rw [exec] at po
  exact po
theorem ss_ret (he : SE X cl e (evalE C r)) : SS X cl (.Return (some e) pos) (exec C N (.ret r)) := ps_by (ps_ret he) fun E σ H h => by
  obtain ⟨env, S, G, ι, rp, re, po⟩ := h
  rw [exec] at po
  exact ⟨env, S, G, ι, rp, re, PostS.seq po fun sv S1 v H1 G1 ι1 e1 rp1 ex1 r1 po1 => po1 v H1 G1 ι1 rp1 .refl r1⟩
theorem ss_retn : SS X cl (.Return none pos) (exec C N .retn) := ps_by ps_retN fun E σ H h => by
  obtain ⟨env, S, G, ι, rp, re, po⟩ := h
  rw [exec] at po
  exact po .non H G ι rp .refl rfl
def noComp : Expr → Bool
  | .ListComp _ _ _ _ => false
  | .SetComp _ _ _ _ => false
  | .DictComp _ _ _ _ _ => false
  | _ => true
def notName : Expr → Bool
  | .Name _ _ => false
  | _ => true
theorem swaps_no {v : Expr} {w : Option Expr} {l : Nat} {env : PySem.Env} (h : noComp v = true) : swapsWith v w l env = pure false := by
  cases v <;> first | rfl | cases h
theorem swaps_tg {v w : Expr} {l : Nat} {env : PySem.Env} (h : notName w = true) : swapsWith v (some w) l env = pure false := by
  cases w <;> first | (cases h; done) | (cases v <;> rfl)
theorem ss_ex (hn : noComp e = true) (he : SE X cl e (evalE C r)) : SS X cl (.Expr e pos) (exec C N (.ex r)) := ps_by (ps_expr he (swaps_no hn)) fun E σ H h => by
  obtain ⟨env, S, G, ι, rp, re, po⟩ := h
  rw [exec] at po
  exact ⟨env, S, G, ι, rp, re, PostS.seq po fun sv S1 v H1 G1 ι1 e1 rp1 ex1 r1 po1 => po1 σ H1 G1 ι1 rp1 .refl (re.up ex1)⟩
theorem post_set {K : PySem.W.Frag} {G H : Hp} {ι : List Addr} {E : Ends} {S : Sto} {env : Env} {σ : L2.St} {i : Nat} {sv : SV} {v : V} (rp : RpH K cl S G ι H) (re : EnvR K cl env G ι σ) (r : RepS K cl G ι sv v) (h : PostS K cl G ι H E (setSV i sv env S)) : E.nx (σ.set i (some v)) H := by
  unfold setSV at h
  by_cases hl : i < env.length
  · rw [if_pos hl] at h; exact h _ H G ι rp .refl (re.put r)
  · rw [if_neg hl] at h; exact h.elim
/-- name = e -/
theorem ss_set {i : Nat} (hN : X.N.Nodup) (hi : X.N[i]? = some x) (hx : Loc X.env.scope x) (hf : X.fn x = true ∨ X.env.scope.names.lookup x = some .local) (hs : swapsWith e (some (.Name x p)) pos.line X.env = pure false) (he : SE X cl e (evalE C r)) :
    SS X cl (.Assign [.Name x p] e pos) (exec C N (.set i r)) := ps_by (ps_set hN hi hx he hs hf) fun E σ H h => by
  obtain ⟨env, S, G, ι, rp, re, po⟩ := h
  rw [exec] at po
  exact ⟨env, S, G, ι, rp, re, PostS.seq po fun sv S1 v H1 G1 ι1 e1 rp1 ex1 r1 po1 => post_set rp1 (re.up ex1) r1 po1⟩
theorem swaps_cell {w : Expr} {l : Nat} {env : PySem.Env} (h : env.scope.names.lookup x = some .cell) : swapsWith w (some (.Name x p)) l env = pure false := by
  have hk : env.kindOf x = some .cell := h
  cases w <;> first | rfl | (unfold swapsWith; simp only [hk, show (some NameKind.cell == some NameKind.local) = false from by decide, Bool.and_false, Bool.false_and])
/-! comprehensions stored in a local name -/
section
variable {it : RI} {ifs : REs} {elt rk rv : RE} {iter elx kx vx : Expr} {ifx : List Expr} {scope : Scope} {own : List (Str × Nat)} {i : Nat}
theorem tx_set {K : PySem.W.Frag} {E : Ends} {σ : L2.St} {H : Hp} (h : tS K cl (exec C N (.set i r)) E σ H) : tX K cl (RSv K cl) (evalE C r) σ H fun v H1 => E.nx (σ.set i (some v)) H1 := by
  obtain ⟨env, S, G, ι, rp, re, po⟩ := h
  rw [exec] at po
  exact ⟨env, S, G, ι, rp, re, PostS.seq po fun sv S1 v H1 G1 ι1 e1 rp1 ex1 r1 po1 => post_set rp1 (re.up ex1) r1 po1⟩
theorem ss_setLc {pc : Pos} (hc : X.calm = true) (hN : X.N.Nodup) (hy : X.N[i]? = some y) (hyl : X.env.scope.names.lookup y = some .local) (hw : swapsWith (.ListComp elx [⟨tg, iter, ifx, 0⟩] scope pc) (some (.Name y p)) pos.line X.env = pure true)
    (hsl : ∀ j ∈ t.slots, j ∈ own.map (·.2)) (hi : SI X cl tg iter (evalI C it)) (ok : BlkOk X.N X.env.scope scope own) (hg : Blk X scope fun Y => SG Y cl tg t) (ht : Blk X scope fun Y => STs Y cl ifx (evalIfs C ifs)) (he : Blk X scope fun Y => SE Y cl elx (evalE C elt)) (hs : ∀ x, foldedSetIterable iter X.env x = pure x) :
    SS X cl (.Assign [.Name y p] (.ListComp elx [⟨tg, iter, ifx, 0⟩] scope pc) pos) (exec C N (.set i (.lc (own.map (·.2)) t it ifs elt))) :=
  ps_by (ps_setLc hc hN hy hyl hw hi ok hg ht he hs) fun E σ H h => lc_nw hsl (tx_of_sn (tx_set h))
theorem ss_setLcN {pc : Pos} (hc : X.calm = true) (hN : X.N.Nodup) (hy : X.N[i]? = some y) (hyl : X.env.scope.names.lookup y = some .local) (hw : swapsWith (.ListComp elx [⟨tg, iter, ifx, 0⟩] scope pc) (some (.Name y p)) pos.line X.env = pure true)
    (hsl : ∀ j ∈ t.slots, j ∈ own.map (·.2)) (hi : SI X cl tg iter (evalI C it)) (ok : BlkOk X.N X.env.scope scope own) (hg : Blk X scope fun Y => SG Y cl tg t) (ht : Blk X scope fun Y => STs Y cl ifx (evalIfs C ifs)) (he : Blk X scope fun Y => SE Y cl elx (evalE C elt)) (hs : ∀ x, foldedSetIterable iter X.env x = pure x) :
    SS X cl (.Assign [.Name y p] (.ListComp elx [⟨tg, iter, ifx, 0⟩] scope pc) pos) (exec C N (.set i (.new (.lc (own.map (·.2)) t it ifs elt)))) :=
  ps_by (ps_setLc hc hN hy hyl hw hi ok hg ht he hs) fun E σ H h => lc_nw hsl (tx_new (tx_set h))
/-- as with lists -/
theorem ps_setDcR {pc : Pos} {wi : TI} {g : TG} {tt : TT} {tk tv : TE} (hc : X.calm = true) (hN : X.N.Nodup) (hy : X.N[i]? = some y) (hyl : X.env.scope.names.lookup y = some .local) (hw : swapsWith (.DictComp kx vx [⟨tg, iter, ifx, 0⟩] scope pc) (some (.Name y p)) pos.line X.env = pure true)
    (hi : PI X tg iter wi) (ok : BlkOk X.N X.env.scope scope own) (hg : Blk X scope fun Y => PG Y tg g) (ht : Blk X scope fun Y => PTs Y ifx tt) (hk : Blk X scope fun Y => PE Y kx tk) (he : Blk X scope fun Y => PE Y vx tv) (hs : ∀ x, foldedSetIterable iter X.env x = pure x) :
    PS X (.Assign [.Name y p] (.DictComp kx vx [⟨tg, iter, ifx, 0⟩] scope pc) pos) (tAsg (tDc wi g tt tk tv (own.map (·.2))) (gName i)) := by
  constructor
  intro pins s σ H E I h
  rw [exec_Assign_Name_used _ _ _ _ hw]
  refine wpAny_bind (wpAny_standAt (wpAny_bind ?_))
  show wpAny _ X.A (do let _ ← comprehension (.DictComp kx vx [⟨tg, iter, ifx, 0⟩] scope pc) scope X.env (firstIterPos [⟨tg, iter, ifx, 0⟩] pc) newDict false (eval iter X.env) (some (assign (.Name y p) X.env))) _ _ s
  have h : tDc wi g tt tk tv (own.map (·.2)) σ H (fun x H1 => gName i x σ H1 E.nx) := h
  refine wpAny_bind (thn (dc_core (Qf := fun _ s' => SP X pins E .next s') hc hN I hi ok hg ht hk he hs h fun L B s' m H' I' q hn ff => ?_) fun _ s' hq => wpAny_pure (wpAny_pure hq))
  show wpAny _ _ (assign (.Name y p) X.env (.ref L)) _ _ _
  refine wpAny_assign_Name (store_ok2 (v := V.ref L) I' hN hy (.inl hyl) rfl (fun s2 I2 hh => ?_) (.inr hyl))
  obtain ⟨a, sb, ha⟩ := hh
  obtain ⟨f0, f1, f2, f3, f4, f5⟩ := ff
  have hne : B ≠ a := by
    rcases ha with z | z
    · rw [z]; exact f1
    · exact fun q => f4 y a z q.symm
  exact ⟨m, hn.sameBut sb hne, fun h3 sb3 => ⟨_, H', I2.turned (t' := s2.toks) (fun b o hb q => (sb3.2 b hb).trans q) f0 f1 f3 f4 f5, q⟩⟩
theorem ss_setDc {pc : Pos} (hc : X.calm = true) (hN : X.N.Nodup) (hy : X.N[i]? = some y) (hyl : X.env.scope.names.lookup y = some .local) (hw : swapsWith (.DictComp kx vx [⟨tg, iter, [], 0⟩] scope pc) (some (.Name y p)) pos.line X.env = pure true)
    (hsl : ∀ j ∈ t.slots, j ∈ own.map (·.2)) (hi : SI X cl tg iter (evalI C it)) (ok : BlkOk X.N X.env.scope scope own) (hg : Blk X scope fun Y => SG Y cl tg t) (hk : Blk X scope fun Y => SE Y cl kx (evalE C rk)) (he : Blk X scope fun Y => SE Y cl vx (evalE C rv)) (hs : ∀ x, foldedSetIterable iter X.env x = pure x) :
    SS X cl (.Assign [.Name y p] (.DictComp kx vx [⟨tg, iter, [], 0⟩] scope pc) pos) (exec C N (.set i (.dc (own.map (·.2)) t it rk rv))) :=
  ps_by (ps_setDcR hc hN hy hyl hw hi ok hg (fun _ _ _ _ _ => sts_nil) hk he hs) fun E σ H h => dc_nw hsl (tx_of_sn (tx_set h))
theorem ss_setDcN {pc : Pos} (hc : X.calm = true) (hN : X.N.Nodup) (hy : X.N[i]? = some y) (hyl : X.env.scope.names.lookup y = some .local) (hw : swapsWith (.DictComp kx vx [⟨tg, iter, [], 0⟩] scope pc) (some (.Name y p)) pos.line X.env = pure true)
    (hsl : ∀ j ∈ t.slots, j ∈ own.map (·.2)) (hi : SI X cl tg iter (evalI C it)) (ok : BlkOk X.N X.env.scope scope own) (hg : Blk X scope fun Y => SG Y cl tg t) (hk : Blk X scope fun Y => SE Y cl kx (evalE C rk)) (he : Blk X scope fun Y => SE Y cl vx (evalE C rv)) (hs : ∀ x, foldedSetIterable iter X.env x = pure x) :
    SS X cl (.Assign [.Name y p] (.DictComp kx vx [⟨tg, iter, [], 0⟩] scope pc) pos) (exec C N (.set i (.new (.dc (own.map (·.2)) t it rk rv)))) :=
  ps_by (ps_setDcR hc hN hy hyl hw hi ok hg (fun _ _ _ _ _ => sts_nil) hk he hs) fun E σ H h => dc_nw hsl (tx_new (tx_set h))
end
/-! targets -/
theorem ss_setT (hn : notName tg = true) (hg : SG X cl tg t) (he : SE X cl e (evalE C r)) (hw : swappedStores [tg] e X.env = pure none) (h1 : (assignEach [tg] X.env).map (·.2) = [assign tg X.env]) : SS X cl (.Assign [tg] e pos) (exec C N (.setT t r)) :=
  ps_by (ps_asg he hg (swaps_tg hn) hw h1) fun E σ H h => by
    obtain ⟨env, S, G, ι, rp, re, po⟩ := h
    rw [exec] at po
    refine ⟨env, S, G, ι, rp, re, PostS.seq po fun sv S1 v H1 G1 ι1 e1 rp1 ex1 r1 po1 => ?_⟩
    cases sv with
    | l n => exact po1.elim
    | p d =>
      simp only [pur_p, ofO_some, Res.st_ok] at po1
      obtain ⟨w, qw, po1⟩ := posts_ofO po1
      exact ⟨env, S1, G1, ι1, d, w.1, w.2, rp1, re.up ex1, r1, qw, fun σ' H' on rp2 ex2 re2 => po1 σ' H' G1 ι1 rp2 ex2 re2⟩
/-- names in a row take what stands -/
def setV : List Nat → List V → L2.St → L2.St
  | i :: js, v :: vs, σ => setV js vs (σ.set i (some v))
  | _, _, σ => σ
def tNms (js : List Nat) : TGs := fun vs σ H Q => vs.length = js.length ∧ Q (setV js vs σ) H
theorem pgs_nm_nil : PGs X [] (tNms []) := pgs_by pgs_nil fun vs σ H Q h => by
  obtain ⟨h1, h2⟩ := h
  cases vs with
  | nil => exact ⟨rfl, h2⟩
  | cons _ _ => cases h1
theorem pgs_nm_cons {i : Nat} {js : List Nat} (hN : X.N.Nodup) (hi : X.N[i]? = some x) (hx : Loc X.env.scope x) (hf : X.fn x = true ∨ X.env.scope.names.lookup x = some .local) (h : PGs X es (tNms js)) : PGs X (.Name x p :: es) (tNms (i :: js)) :=
  pgs_by (pgs_cons (pg_name hN hi hx hf) h rfl) fun vs σ H Q z => by
    obtain ⟨h1, h2⟩ := z
    cases vs with
    | nil => cases h1
    | cons v vs => exact ⟨v, vs, rfl, by simpa using h1, h2⟩
theorem setPar_post {K : PySem.W.Frag} {G : Hp} {ι : List Addr} : ∀ {js : List Nat} {svs : List SV} {vs : List V} {env env' : Env} {σ : L2.St}, setPar js svs env = some env' → EnvR K cl env G ι σ → Paired (RepS K cl G ι) svs vs → vs.length = js.length ∧ EnvR K cl env' G ι (setV js vs σ)
  | [], [], _, env, env', σ, h, re, .nil => by cases h; exact ⟨rfl, re⟩
  | i :: js, sv :: svs, _, env, env', σ, h, re, .cons (b := v) r t => by
    unfold setPar at h
    by_cases hl : i < env.length
    · rw [if_pos hl] at h
      obtain ⟨h1, h2⟩ := setPar_post h (re.put r) t
      exact ⟨by simp [h1], h2⟩
    · rw [if_neg hl] at h; cases h
  | [], _ :: _, _, _, _, _, h, _, .cons _ _ => by cases h
  | _ :: _, [], _, _, _, _, h, _, .nil => by cases h
theorem par_tx {K : PySem.W.Frag} {js : List Nat} {E : Ends} {σ : L2.St} {H : Hp} (h : tS K cl (exec C N (.par js rs)) E σ H) : tX K cl (RLs K cl) (evalEs C rs) σ H fun vs H1 => vs.length = js.length ∧ E.nx (setV js vs σ) H1 := by
  obtain ⟨env, S, G, ι, rp, re, po⟩ := h
  rw [exec] at po
  refine ⟨env, S, G, ι, rp, re, PostS.seq po fun svs S1 vs H1 G1 ι1 e1 rp1 ex1 r1 po1 => ?_⟩
  obtain ⟨env', qe, po1⟩ := posts_ofO po1
  obtain ⟨h1, h2⟩ := setPar_post qe (re.up ex1) r1
  exact ⟨h1, po1 _ H1 G1 ι1 rp1 .refl h2⟩
theorem ss_par2 {i j : Nat} {px py pt : Pos} {kt k2 : Nat} {pt2 : Pos} (hc : X.calm = true) (hN : X.N.Nodup) (hi : X.N[i]? = some x) (hj : X.N[j]? = some y) (hij : i ≠ j) (hx : X.env.scope.names.lookup x = some .local) (hy : X.env.scope.names.lookup y = some .local) (ha : SA X cl [a, b] (evalEs C rs))
    (hw : swappedStores [.Tuple [.Name x px, .Name y py] kt pt] (.Tuple [a, b] k2 pt2) X.env = pure (some [x, y])) : SS X cl (.Assign [.Tuple [.Name x px, .Name y py] kt pt] (.Tuple [a, b] k2 pt2) pos) (exec C N (.par [i, j] rs)) :=
  ps_by (ps_par hc hN hi hj hij hx hy ha hw rfl) fun E σ H h => by
    obtain ⟨env, S, G, ι, rp, re, po⟩ := par_tx h
    refine ⟨env, S, G, ι, rp, re, Post.mono po fun vs H1 z => ?_⟩
    obtain ⟨h1, h2⟩ := z
    match vs, h1, h2 with
    | [v, w], _, h2 => exact ⟨v, w, rfl, h2⟩
theorem ss_par3 {i j l : Nat} {z : Str} {px py pz pt : Pos} {kt k2 : Nat} {pt2 : Pos} (hc : X.calm = true) (hN : X.N.Nodup) (hi : X.N[i]? = some x) (hj : X.N[j]? = some y) (hl : X.N[l]? = some z) (hij : i ≠ j) (hil : i ≠ l) (hjl : j ≠ l)
    (hx : X.env.scope.names.lookup x = some .local) (hy : X.env.scope.names.lookup y = some .local) (hz : X.env.scope.names.lookup z = some .local) (ha : SA X cl [a, b, c] (evalEs C rs))
    (hw : swappedStores [.Tuple [.Name x px, .Name y py, .Name z pz] kt pt] (.Tuple [a, b, c] k2 pt2) X.env = pure (some [x, y, z])) : SS X cl (.Assign [.Tuple [.Name x px, .Name y py, .Name z pz] kt pt] (.Tuple [a, b, c] k2 pt2) pos) (exec C N (.par [i, j, l] rs)) :=
  ps_by (ps_par3 hc hN hi hj hl hij hil hjl hx hy hz ha hw rfl) fun E σ H h => by
    obtain ⟨env, S, G, ι, rp, re, po⟩ := par_tx h
    refine ⟨env, S, G, ι, rp, re, Post.mono po fun vs H1 q => ?_⟩
    obtain ⟨h1, h2⟩ := q
    match vs, h1, h2 with
    | [u, v, w], _, h2 => exact ⟨u, v, w, rfl, h2⟩
/-- a tuple is made and taken apart -/
theorem ss_parN {js : List Nat} {k k2 : Nat} {pt pt2 : Pos} {tgs : List Expr} (hc : X.calm = true) (hg : PGs X tgs (tNms js)) (ha : SA X cl es (evalEs C rs)) (hn : (assignEach tgs X.env).length = js.length) (hst : (assignEach tgs X.env).findIdx? (·.1) = none) (hz : js.length ≤ 1000)
    (hw : swappedStores [.Tuple tgs k pt] (.Tuple es k2 pt2) X.env = pure none) (h1 : (assignEach [.Tuple tgs k pt] X.env).map (·.2) = [assign (.Tuple tgs k pt) X.env]) : SS X cl (.Assign [.Tuple tgs k pt] (.Tuple es k2 pt2) pos) (exec C N (.par js rs)) :=
  ps_by (ps_asg (pe_tup ha) (pg_tup hc hg hn hst) rfl hw h1) fun E σ H h => by
    obtain ⟨env, S, G, ι, rp, re, po⟩ := h
    rw [exec] at po
    refine ⟨env, S, G, ι, rp, re, PostS.seq po fun svs S1 vs H1 G1 ι1 e1 rp1 ex1 r1 po1 => ?_⟩
    obtain ⟨env', qe, po1⟩ := posts_ofO po1
    obtain ⟨h2, h3⟩ := setPar_post qe (re.up ex1) r1
    refine ⟨by rw [h2, sline]; unfold line; omega, fun q hq => ⟨q, vs, rfl, .inl (.inl upd_same), h2, h2, ?_⟩⟩
    exact po1 _ _ G1 ι1 (rp1.layH hq) (Ext.layH hq) h3
/-! a[k] = e of a local list or dict -/
theorem set_ld (hu : X.A.units + 1 < cLine) : PSet X (fun o i v H Q => rSetL o i v H Q ∨ rSetD o i v H Q) := by
  intro pins s σ H o i v ov iv u Q I ro ri rv h
  rcases h with h | h
  · exact set_list pins s σ H o i v ov iv u Q I ro ri rv h
  · exact set_dict hu pins s σ H o i v ov iv u Q I ro ri rv h
theorem ss_sidx {k i : Nat} {po : Pos} {ix : Expr} {rk rv : RE} (hr : Room k X.A) (hN : X.N[i]? = some x) (hv : Vis X.env.scope x) (hd : (x == ("__debug__" : Str)) = false) (hcd : (x == ("__classdict__" : Str)) = false)
    (hk : SE X cl ix (evalE C rk)) (he : SE X cl e (evalE C rv)) (ha : ∀ v, assign (.Subscript (.Name x po) ix p) X.env v = (do
      let ov ← holding [v] (eval (.Name x po) X.env)
      let iv ← holding [v, ov] (eval ix X.env)
      standAt p
      holding [v, ov, iv] (setItem ov iv v)
      release [v, ov, iv] [])) : SS X cl (.Assign [.Subscript (.Name x po) ix p] e pos) (exec C N (.sidx i rk rv)) :=
  ps_by (ps_asg he (pg_sub (pe_var hN hv hd hcd) hk (set_ld (by have := hr.un; omega)) ha) (swaps_tg (l := pos.line) (env := X.env) (show notName (.Subscript (.Name x po) ix p) = true from rfl)) (by cases e <;> rfl) rfl) fun E σ H h => by
    obtain ⟨env, S, G, ι, rp, re, po⟩ := h
    rw [exec] at po
    refine ⟨env, S, G, ι, rp, re, PostS.seq po fun sv S1 v H1 G1 ι1 e1 rp1 ex1 r1 po1 => ?_⟩
    -- the index
    cases q2 : evalE C rk env S1 with
    | exc _ _ _ => rw [q2] at po1; exact po1.elim
    | bad => rw [q2] at po1; exact po1.elim
    | ok kv S2 =>
      rw [q2] at po1
      simp only [Res.st_ok] at po1
      cases sv with
      | l _ => exact po1.elim
      | p dv =>
        cases kv with
        | l _ => exact po1.elim
        | p dk =>
          simp only [pur_p] at po1
          cases qe : env.get i with
          | none => rw [qe] at po1; exact po1.elim
          | some sa =>
            rw [qe] at po1
            cases sa with
            | p _ => exact po1.elim
            | l n =>
              simp only at po1
              obtain ⟨w, hw, b, hb, rfl⟩ := re.at_ i _ (env_get qe)
              refine ⟨_, hw, env, S1, G1, ι1, rp1, re.up ex1, ?_⟩
              rw [q2]
              intro y H2 G2 ι2 rp2 ex2 r2
              have lb : ι2[n]? = some b := by
                obtain ⟨t1, h1⟩ := ex1.i
                obtain ⟨t2, h2⟩ := ex2.i
                have l0 := (List.getElem?_eq_some_iff.mp hb).1
                rw [h2, h1, List.getElem?_append_left (by simp; omega), List.getElem?_append_left l0]
                exact hb
              cases qs : S2[n]? with
              | none => rw [qs] at po1; exact po1.elim
              | some cc =>
                rw [qs] at po1
                simp only at po1
                obtain ⟨c', qc, po1⟩ := posts_ofO po1
                have z := rp2.cel n b cc lb qs
                have rv2 := RepS.up r1 ex2
                cases cc with
                | lst xs =>
                  cases dk with
                  | int j =>
                    obtain ⟨z0, vs, z1, z2⟩ := z
                    cases r2
                    have qc : (L2.ixN xs.length j).map (fun m => Cell.lst (xs.set m dv)) = some c' := qc
                    cases qi : L2.ixN xs.length j with
                    | none => rw [qi] at qc; cases qc
                    | some m =>
                      rw [qi] at qc
                      cases qc
                      refine .inl ⟨b, vs, j, m, rfl, rfl, z1, by rw [← z2.length]; exact qi, ?_⟩
                      have ep := Ext.put (G := G2) (H := H2) (o := .lst (vs.set m v)) lb
                      exact po1 σ _ G2 ι2 (rp2.put lb z0 ⟨z0, _, upd_same, Reps.of (Paired.set z2.pair rv2 m)⟩) (ex2.trans ep) ((re.up ex1).up (ex2.trans ep))
                  | _ => cases qc
                | dct kvs =>
                  obtain ⟨z0, ks, z1, z2⟩ := z
                  have qc : (if keyD dk = true ∧ kvs.length < line then some (Cell.dct (putD dk dv kvs)) else none) = some c' := by
                    cases dk <;> exact qc
                  by_cases hh : keyD dk = true ∧ kvs.length < line
                  · rw [if_pos hh] at qc
                    cases qc
                    obtain ⟨κ, hκ⟩ := keyRep.of hh.1
                    have ey := hκ.kV r2
                    refine .inr ⟨b, _, rfl, by rw [ey]; exact DPut.k z1 (by rw [← z2.length, sline]; exact hh.2), ?_⟩
                    have ep := Ext.put (G := G2) (H := H2) (o := .dK (putK ks κ v)) lb
                    exact po1 σ _ G2 ι2 (rp2.put lb z0 ⟨z0, _, upd_same, RepK.put hκ rv2 z2⟩) (ex2.trans ep) ((re.up ex1).up (ex2.trans ep))
                  · rw [if_neg hh] at qc; cases qc
                | obj c fs => cases dk <;> cases qc
                | own _ _ _ => cases dk <;> cases qc
                | fro _ => cases dk <;> cases qc
                | dead => cases dk <;> cases qc
/-! tests, loops -/
theorem ss_ife (hc : ST X cl c (evalT C r)) (ha : SSs X cl body (execs C N sb)) (hb : SSs X cl els (execs C N se)) : SS X cl (.If c body els pos) (exec C N (.ife r sb se)) := ps_by (ps_if hc ha hb) fun E σ H h => by
  obtain ⟨env, S, G, ι, rp, re, po⟩ := h
  rw [exec] at po
  refine ⟨env, S, G, ι, rp, re, PostS.seq po fun b S1 b' H1 G1 ι1 e1 rp1 ex1 r1 po1 => ?_⟩
  cases r1
  cases b with
  | true => simp only [if_true] at po1 ⊢; exact ⟨env, S1, G1, ι1, rp1, re.up ex1, po1⟩
  | false => simp only [Bool.false_eq_true, if_false] at po1 ⊢; exact ⟨env, S1, G1, ι1, rp1, re.up ex1, po1⟩
theorem ss_whl (hp : PassesOwn (model X.prog X.w) X.A X.env X.xe) (hc : ST X cl c (evalT C r)) (hb : SSs X cl body (execs C N sb)) : SS X cl (.While c body [] pos) (exec C N (.whl r sb)) := ps_by (ps_while hp hc hb) fun E σ H h => by
  obtain ⟨env, S, G, ι, rp, re, po⟩ := h
  rw [exec] at po
  refine ⟨fun m σ1 H1 => ∃ env S G ι, RpH X.K cl S G ι H1 ∧ EnvR X.K cl env G ι σ1 ∧ PostS X.K cl G ι H1 E (whlLoop (fun e S => evalT C r e S) (fun e S => execs C N sb e S) m env S), ⟨N, env, S, G, ι, rp, re, po⟩, ?_⟩
  rintro m σ1 H1 ⟨env, S, G, ι, rp, re, po⟩
  cases m with
  | zero => rw [whlLoop] at po; exact po.elim
  | succ m =>
    rw [whlLoop] at po
    refine ⟨env, S, G, ι, rp, re, PostS.seq po fun b S1 b' H2 G2 ι2 e1 rp2 ex2 r1 po1 => ?_⟩
    cases r1
    cases b with
    | false =>
      simp only [Bool.false_eq_true, if_false] at po1 ⊢
      exact po1 σ1 H2 G2 ι2 rp2 .refl (re.up ex2)
    | true =>
      simp only [if_true] at po1 ⊢
      refine ⟨fun σ3 H3 => ∃ env S G ι, RpH X.K cl S G ι H3 ∧ EnvR X.K cl env G ι σ3 ∧ PostS X.K cl G ι H3 E (whlLoop (fun e S => evalT C r e S) (fun e S => execs C N sb e S) m env S), fun σ' H' z => ⟨m, Nat.lt_succ_self _, z⟩, env, S1, G2, ι2, rp2, re.up ex2, ?_⟩
      cases q : execs C N sb env S1 with
      | nx e1 S3 => rw [q] at po1; exact fun σ3 H3 G3 ι3 rp3 ex3 re3 => ⟨e1, S3, G3, ι3, rp3, re3, po1.up ex3⟩
      | ct e1 S3 => rw [q] at po1; exact fun σ3 H3 G3 ι3 rp3 ex3 re3 => ⟨e1, S3, G3, ι3, rp3, re3, po1.up ex3⟩
      | bk e1 S3 => rw [q] at po1; exact po1
      | rt v S3 => rw [q] at po1; exact po1
      | exc _ _ _ => rw [q] at po1; exact po1
      | bad => rw [q] at po1; exact po1
theorem ss_for {it : RI} {iter : Expr} (hp : PassesOwn (model X.prog X.w) X.A X.env X.xe) (hc : X.calm = true) (hi : SI X cl tg iter (evalI C it)) (hg : SG X cl tg t) (hb : SSs X cl body (execs C N sb)) (hs : ∀ x, foldedSetIterable iter X.env x = pure x) :
    SS X cl (.For tg iter body [] pos) (exec C N (.for_ t it sb)) := ps_by (ps_for hp hc hi hg hb hs) fun E σ H h => by
  obtain ⟨env, S, G, ι, rp, re, po⟩ := h
  rw [exec] at po
  refine ⟨env, S, G, ι, rp, re, PostS.seq po fun xs S1 J H1 G1 ι1 e1 rp1 ex1 isw po1 => ?_⟩
  let turn : R.D → Env → Sto → StR := fun x e S => (ofO (asgT t x e S) S).st fun q _ => execs C N sb q.1 q.2
  refine ⟨fun i m σ2 H2 => m = xs.length - i ∧ i ≤ xs.length ∧ ∃ env S G ι, RpH X.K cl S G ι H2 ∧ EnvR X.K cl env G ι σ2 ∧ Same G1 G ∧ PostS X.K cl G ι H2 E (forLoop turn (xs.drop i) env S),
    ⟨xs.length, by simp, Nat.zero_le _, env, S1, G1, ι1, rp1, re.up ex1, Same.refl _, po1⟩, ?_⟩
  rintro i m σ2 H2 ⟨rfl, hi, env2, S2, G2, ι2, rp2, re2, sg2, po2⟩
  by_cases hlt : i < xs.length
  · refine .inr ⟨isw.go i H2 hlt (sg2.trans rp2.gs), fun σ3 H3 => xs.length - (i + 1) = xs.length - (i + 1) ∧ i + 1 ≤ xs.length ∧ ∃ env S G ι, RpH X.K cl S G ι H3 ∧ EnvR X.K cl env G ι σ3 ∧ Same G1 G ∧ PostS X.K cl G ι H3 E (forLoop turn (xs.drop (i + 1)) env S),
      fun σ' H' z => ⟨xs.length - (i + 1), by omega, z⟩, fun x Hx y => ?_⟩
    obtain ⟨Gx, rpx, exx, rx⟩ := isw.yl i H2 Hx x xs[i] (by simp) (sg2.trans rp2.gs) y S2 G2 ι2 sg2 rp2
    rw [drop_get hlt, forLoop] at po2
    have po2 := po2.up exx
    cases qa : asgT t xs[i] env2 S2 with
    | none => simp only [turn, qa, ofO_none, Res.st_bad] at po2; exact po2.elim
    | some w =>
      simp only [turn, qa, ofO_some, Res.st_ok] at po2
      refine ⟨env2, S2, Gx, ι2, xs[i], w.1, w.2, rpx, re2.up exx, rx, qa, fun σ4 H4 on4 rp4 ex4 re4 => ⟨w.1, w.2, Gx, ι2, rp4, re4, ?_⟩⟩
      have po2 := po2.up ex4
      cases q : execs C N sb w.1 w.2 with
      | nx e1 S3 => rw [q] at po2; exact fun σ3 H3 G3 ι3 rp3 ex3 re3 => ⟨rfl, hlt, e1, S3, G3, ι3, rp3, re3, sg2.trans (exx.g.trans ex3.g), po2.up ex3⟩
      | ct e1 S3 => rw [q] at po2; exact fun σ3 H3 G3 ι3 rp3 ex3 re3 => ⟨rfl, hlt, e1, S3, G3, ι3, rp3, re3, sg2.trans (exx.g.trans ex3.g), po2.up ex3⟩
      | bk e1 S3 => rw [q] at po2; exact po2
      | rt v S3 => rw [q] at po2; exact po2
      | exc _ _ _ => rw [q] at po2; exact po2
      | bad => rw [q] at po2; exact po2
  · have hi' : i = xs.length := by omega
    subst hi'
    rw [List.drop_length, forLoop] at po2
    exact .inl ⟨isw.st H2 (sg2.trans rp2.gs), po2 σ2 H2 G2 ι2 rp2 .refl re2⟩
end
end R
end
section
set_option linter.all false
set_option maxRecDepth 100000
set_option maxHeartbeats 2000000
/-! R14b: dict displays, list(d.items()). -/
namespace R
open PySem PySem.Spec PyProof.Rows L2
section
variable {X : Cx} {cl : Nat → Addr} {C : CallF} {e a : Expr} {p pos : Pos} {r ra rb : RE} {rs : REs}
def flat2 : List (V × V) → List V
  | [] => []
  | (x, y) :: r => x :: y :: flat2 r
/-- the pairs of a display -/
def DPs (X : Cx) (cl : Nat → Addr) (C : CallF) (keys : List (Option Expr)) (values : List Expr) (rs : REs) : Prop :=
  ∀ pos : Pos, ∃ trs, PPs X pos keys values trs ∧ keys.all (·.isSome) = true ∧ keys.length = values.length ∧ ∀ σ H Q, tX X.K cl (RLs X.K cl) (evalEs C rs) σ H (fun vs H' => ∀ ps, flat2 ps = vs → ps.length = keys.length → Q ps H') → tPairs trs σ H Q
theorem dps_nil : DPs X cl C [] [] .nil := fun pos => ⟨[], pps_nil, rfl, rfl, fun σ H Q h => by
  obtain ⟨env, S, G, ι, rp, re, po⟩ := h
  rw [evalEs] at po
  exact po [] H G ι rp .refl .nil [] rfl rfl⟩
theorem dps_cons {kx vx : Expr} {ks : List (Option Expr)} {vs : List Expr} (hk : SE X cl kx (evalE C ra)) (hv : SE X cl vx (evalE C rb)) (hr : DPs X cl C ks vs rs) : DPs X cl C (some kx :: ks) (vx :: vs) (.cons ra (.cons rb rs)) := fun pos => by
  obtain ⟨trs, h1, h2, h3, h4⟩ := hr pos
  refine ⟨_, pps_cons hk hv h1, by simp [h2], by simp [h3], fun σ H Q h => ?_⟩
  obtain ⟨env, S, G, ι, rp, re, po⟩ := h
  rw [evalEs] at po
  refine ⟨env, S, G, ι, rp, re, Post.seq po fun x S1 u H1 G1 ι1 e1 rp1 ex1 r1 po1 => ⟨env, S1, G1, ι1, rp1, re.up ex1, ?_⟩⟩
  rw [evalEs] at po1
  have po1 := Post.up po1 ex1 (fun _ _ _ _ _ h => h)
  cases q1 : evalE C rb env S1 with
  | exc _ _ _ => rw [q1] at po1; exact po1.elim
  | bad => rw [q1] at po1; exact po1.elim
  | ok y S2 =>
    rw [q1] at po1
    intro w H2 G2 ι2 rp2 ex2 r2
    refine h4 σ H2 _ ⟨env, S2, G2, ι2, rp2, (re.up ex1).up ex2, ?_⟩
    simp only [Res.bind_ok] at po1
    cases q2 : evalEs C rs env S2 with
    | exc _ _ _ => rw [q2] at po1; exact po1.elim
    | bad => rw [q2] at po1; exact po1.elim
    | ok zs S3 =>
      rw [q2] at po1
      intro ws H3 G3 ι3 rp3 ex3 r3 ps hps hl
      exact po1 (u :: w :: ws) H3 G3 ι3 rp3 (ex2.trans ex3) (.cons (RepS.up (RepS.up r1 ex2) ex3) (.cons (RepS.up r2 ex3) r3)) ((u, w) :: ps) (by simp [flat2, hps]) (by simp [hl])
theorem upD_rep {K : PySem.W.Frag} {G : Hp} : ∀ {ds : List D} {kv : List (D × D)} {vs : List V}, upD ds = some kv → Reps K cl G ds vs → ∃ ks : List (Key × V), RepK K cl G kv ks ∧ vs = flat2 (ks.map fun q => (kV q.1, q.2))
  | [], kv, vs, h, hr => by
    cases h
    cases (show vs = [] from hr)
    exact ⟨[], rfl, rfl⟩
  | [_], kv, vs, h, hr => by cases h
  | k :: d :: r, kv, vs, h, hr => by
    unfold upD at h
    by_cases hk : keyD k = true
    · rw [if_pos hk] at h
      obtain ⟨kv', e1, rfl⟩ := Option.map_eq_some_iff.mp h
      obtain ⟨v1, r1, rfl, h1, h2⟩ := hr
      obtain ⟨v2, r2, rfl, h3, h4⟩ := h2
      obtain ⟨ks, h5, rfl⟩ := upD_rep e1 h4
      obtain ⟨κ, hκ⟩ := keyRep.of hk
      exact ⟨(κ, v2) :: ks, ⟨κ, v2, ks, rfl, hκ, h3, h5⟩, by rw [hκ.kV h1]; rfl⟩
    · rw [if_neg hk] at h; cases h
theorem sn_dsp0 : SN X cl (.Dict [] [] pos) (evalE C (.dsp .nil)) := by
  refine pe_by pe_dnewK fun σ H Q h => ?_
  obtain ⟨env, S, G, ι, rp, re, po⟩ := h
  rw [evalE, evalEs] at po
  intro q hq
  exact po (.ref q) _ G ι (rp.layH hq) (Ext.layH hq) (rnw_layD (ι0 := ι) rp (fun _ h => h) hq (show RepK X.K cl G [] [] from rfl))
theorem sn_dsp {keys : List (Option Expr)} {values : List Expr} (h0 : keys ≠ []) (h15 : keys.length ≤ 15) (hp : DPs X cl C keys values rs) : SN X cl (.Dict keys values pos) (evalE C (.dsp rs)) := by
  obtain ⟨trs, h1, h2, h3, h4⟩ := hp pos
  refine pe_by (pe_disp h1 h2 h3 h0 h15) fun σ H Q h => ?_
  obtain ⟨env, S, G, ι, rp, re, po⟩ := h
  rw [evalE] at po
  intro q hq
  have gq : G q = none := by
    cases z : G q with
    | none => rfl
    | some o => rw [rp.gs _ _ z] at hq; cases hq
  have nq : q ∉ ι := fun z => rp.inh q z hq
  have el := Ext.layH (G := G) (ι := ι) (o := .dK []) hq
  refine h4 σ _ _ ⟨env, S, G, ι, rp.layH hq, re, ?_⟩
  cases q1 : evalEs C rs env S with
  | exc _ _ _ => rw [q1] at po; exact po.elim
  | bad => rw [q1] at po; exact po.elim
  | ok svs S1 =>
    rw [q1] at po
    intro vs H1 G1 ι1 rp1 ex1 r1 ps hps hl
    obtain ⟨hq1, gq1, nq1⟩ := ex1.lone upd_same gq nq
    obtain ⟨ds, qd, po⟩ := post_ofO (show Post X.K cl (RNw X.K cl) G ι H Q ((ofO (purs svs) S1).bind fun ds S => (ofO (upD ds) S).bind fun kv S => if kv.length ≤ 15 then .ok (.p (.dct (mergeD [] kv))) S else .bad) from po)
    obtain ⟨kv, qk, po⟩ := post_ofO po
    obtain ⟨ks, k1, k2⟩ := upD_rep qk (purs_rep qd r1)
    have inj : ∀ {x y : List (V × V)}, flat2 x = flat2 y → x = y := by
      intro x
      induction x with
      | nil => intro y e; cases y with
        | nil => rfl
        | cons p r => cases e
      | cons p r ih => intro y e; cases y with
        | nil => cases e
        | cons p' r' =>
          obtain ⟨a1, a2⟩ := p
          obtain ⟨b1, b2⟩ := p'
          simp only [flat2, List.cons.injEq] at e
          obtain ⟨rfl, rfl, e⟩ := e
          rw [ih e]
    have eps : ps = ks.map fun q => (kV q.1, q.2) := inj (hps.trans k2)
    by_cases hle : kv.length ≤ 15
    · rw [if_pos hle] at po
      refine ⟨hq1, ks, eps, by rw [← k1.length]; exact hle, ?_⟩
      exact po (.ref q) _ G1 ι1 (rp1.wr gq1 nq1) ((el.trans ex1).wr hq) ⟨q, rfl, hq, gq1, nq1, _, upd_same, RepK.merge k1 (show RepK X.K cl G1 [] [] from rfl)⟩
    · rw [if_neg hle] at po; exact po.elim
/-! list(d.items()) -/
theorem pairs_rep {K : PySem.W.Frag} {G G' : Hp} (sg : Same G G') : ∀ {kvs : List (D × D)} {ks : List (Key × V)} {ts : List Addr}, RepK K cl G kvs ks → Paired (fun (t : Addr) (q : Key × V) => G' t = some (.tup [kV q.1, q.2])) ts ks → Reps K cl G' (kvs.map fun q => D.tup [q.1, q.2]) (ts.map V.ref)
  | [], ks, ts, h, hp => by
    cases (show ks = [] from h)
    cases hp
    exact rfl
  | (k, d) :: r, ks, ts, h, hp => by
    obtain ⟨κ, v, s, rfl, h2, h3, h4⟩ := h
    cases hp with
    | cons q t =>
      refine ⟨_, _, rfl, ⟨_, _, rfl, .inl (.inl q), kV κ, [v], rfl, ?_, v, [], rfl, Rep.up sg _ _ h3, rfl⟩, pairs_rep sg h4 t⟩
      cases k with
      | str x => cases h2; rfl
      | int i => cases h2; rfl
      | _ => exact h2.elim
theorem sn_lit {apos cpos : Pos} (hc : X.calm = true) (hg : Gl X "list") (hm : X.mg "list" = none) (hb : noCall a = true) (hline : (apos.endLine == cpos.line) = true) (ha : SE X cl a (evalE C ra)) :
    SN X cl (.Call (.Name "list" p) [.Call (.Attribute a "items" apos) [] [] cpos] [] pos) (evalE C (.lit ra)) := by
  refine pe_by (LiI.pe_listItems hc ha hg hm boot_listS (base_of hb) hline rfl) fun σ H Q h => ?_
  obtain ⟨env, S, G, ι, rp, re, po⟩ := h
  rw [evalE] at po
  refine ⟨env, S, G, ι, rp, re, Post.seq po fun sv S1 v H1 G1 ι1 e1 rp1 ex1 r1 po1 => ?_⟩
  cases qr : rd S1 sv with
  | none => simp only [qr] at po1; exact po1.elim
  | some d =>
    cases d with
    | dct k =>
      simp only [qr] at po1
      by_cases hle : k.length ≤ 1000
      · rw [if_pos hle] at po1
        obtain ⟨b, ks, rfl, hd, hk⟩ := rd_rep rp1 r1 qr
        refine ⟨b, ks, rfl, hd, fun H' q ts keep hq hts hnq hlst hpr => ?_⟩
        let G' : Hp := fun t => if t ∈ ts then H' t else G1 t
        have gt : ∀ t ∈ ts, G1 t = none := fun t ht => by
          cases z : G1 t with
          | none => rfl
          | some o => have := hts t ht; rw [rp1.gs _ _ z] at this; cases this
        have g1 : Same G1 G' := fun t o z => by
          show (if t ∈ ts then H' t else G1 t) = some o
          rw [if_neg (fun ht => by rw [gt t ht] at z; cases z)]
          exact z
        have g2 : Same G' H' := fun t o z => by
          have z : (if t ∈ ts then H' t else G1 t) = some o := z
          by_cases ht : t ∈ ts
          · rw [if_pos ht] at z; exact z
          · rw [if_neg ht] at z; exact keep _ _ (rp1.gs _ _ z)
        obtain ⟨rp2, ex2⟩ := rp1.grow keep g1 g2 fun t ht => by
          by_cases hm : t ∈ ts
          · exact .inr (hts t hm)
          · left
            show G1 t = if t ∈ ts then H' t else G1 t
            rw [if_neg hm]
        have gq : G' q = none := by
          show (if q ∈ ts then H' q else G1 q) = none
          rw [if_neg hnq]
          cases z : G1 q with
          | none => rfl
          | some o => rw [rp1.gs _ _ z] at hq; cases hq
        have nq : q ∉ ι1 := fun z => rp1.inh q z hq
        have mem : ∀ {us : List Addr} {qs : List (Key × V)}, Paired (fun (t : Addr) (q : Key × V) => H' t = some (.tup [kV q.1, q.2])) us qs → (∀ t ∈ us, t ∈ ts) → Paired (fun (t : Addr) (q : Key × V) => G' t = some (.tup [kV q.1, q.2])) us qs := by
          intro us qs hp
          induction hp with
          | nil => intro _; exact .nil
          | @cons t q us qs h t' ih =>
            intro hs
            refine .cons ?_ (ih fun z hz => hs z (List.mem_cons_of_mem _ hz))
            show (if t ∈ ts then H' t else G1 t) = _
            rw [if_pos (hs t (List.mem_cons_self ..))]
            exact h
        have hk' : RepK X.K cl G1 k ks := hk
        exact po1 (.ref q) H' G' ι1 rp2 (ex1.trans ex2) ⟨q, rfl, ex1.hn q hq, gq, nq, _, hlst, pairs_rep g1 hk' (mem hpr fun _ z => z)⟩
      · rw [if_neg hle] at po1; exact po1.elim
    | _ => simp only [qr] at po1; exact po1.elim
end
end R
end
section
set_option linter.all false
set_option maxRecDepth 100000
set_option maxHeartbeats 2000000
/-! R14c: xs[::-1] of lists and tuples. -/
namespace R
open PySem PySem.Spec PyProof.Rows L2 HT
section
variable {prog : Program} {w : World} {A : Around} {E : Value → Shared → Prop} {s : Shared}
theorem adjust_rev (n : Nat) : Builtin.Slice.sliceAdjust none none (-1) (n : Int) = ((n : Int) - 1, -1) := by
  unfold Builtin.Slice.sliceAdjust
  simp
theorem places_rev (n : Nat) : Builtin.Slice.slicePlaces ((n : Int) - 1) (-1) (-1) = n := by
  unfold Builtin.Slice.slicePlaces
  rw [if_neg (by decide)]
  by_cases h : (n : Int) - 1 > -1
  · rw [if_pos h]
    have : ((n : Int) - 1 - -1 - 1) / (- -1) + 1 = (n : Int) := by
      rw [show (- -1 : Int) = 1 by decide, Int.ediv_one]; omega
    rw [this]; simp
  · rw [if_neg h]
    have : n = 0 := by omega
    subst this; rfl
theorem fmap_congr {α β : Type} {u v : α → Option β} : ∀ {l : List α}, (∀ k ∈ l, u k = v k) → l.filterMap u = l.filterMap v
  | [], _ => rfl
  | a :: l, h => by
    rw [List.filterMap_cons, List.filterMap_cons, h a (List.mem_cons_self ..), fmap_congr fun k hk => h k (List.mem_cons_of_mem _ hk)]
theorem pick_rev (xs : Array Value) : ((List.range xs.size).filterMap fun (k : Nat) => xs[(((xs.size : Int) - 1) + (k : Int) * (-1)).toNat]?) = xs.toList.reverse := by
  have e : ∀ k ∈ List.range xs.size, xs[(((xs.size : Int) - 1) + (k : Int) * (-1)).toNat]? = xs[xs.size - 1 - k]? := fun k hk => by
    have hk := List.mem_range.mp hk
    have : (((xs.size : Int) - 1) + (k : Int) * (-1)).toNat = xs.size - 1 - k := by omega
    rw [this]
  rw [fmap_congr e]
  have z : ((List.range xs.size).map fun k => xs.size - 1 - k).filterMap (xs[·]?) = xs.toList.reverse := by
    rw [PySem.W.krv_range, List.filterMap_reverse, PySem.W.krv_all]
  rw [List.filterMap_map] at z
  exact z
theorem getItem_tupRev {t sl : Addr} {items : Array Value} {vs : Value} {Q : Value → Shared → Prop} (ht : IsTup s.heap t items) (hs : s.heap.IsSliceOf sl .none .none vs) (ps : IsPart vs (some (-1)))
    (h : Q (.ref s.heap.objs.size) { s with heap := s.heap.push { cls := .type "tuple", data := .seq items.toList.reverse.toArray } }) (hsz : items.size ≤ sizeLine) : wpAny (model prog w) A (getItem (.ref t) (.ref sl)) Q E s := by
  have ok : sizeOk (.seq items.toList.reverse.toArray) := by
    show items.toList.reverse.toArray.size ≤ sizeLine
    simpa using hsz
  obtain ⟨os, hos, hcs, hds⟩ := id hs
  have tS : s.TypeIs (.ref sl) "slice" := ⟨os, hos, hcs⟩
  unfold getItem
  try with_reducible refine wpAny_holding ?_
  first | refine wpAny_bind (wpAny_pure ?_) | skip
  refine wpAny_bind (wpAny_sequenceKey ht.typeIs (by decide) ?_)
  have body : wpAny (model prog w) A.in1 (Builtin.«tuple.__getitem__» ⟨[.ref t, .ref sl], []⟩) (fun fin s' => ∃ v, fin = .done (.ret v) ∧ Q v s') E s := by
    show wpAny _ _ (Builtin.Tuple.tupleItemsOf (.ref t) >>= _) _ _ s
    refine wpAny_bind (tupleItemsOf_ ht ?_)
    refine wpAny_bind (wpAny_typeOf tS ?_)
    rw [if_pos (by decide)]
    have sa : ∀ {R : Int × Int × Nat → Shared → Prop}, R ((items.size : Int) - 1, -1, items.size) s → wpAny (model prog w) A.in1 (Builtin.Slice.sliceApplied (.ref sl) (pure (items.size : Int))) R E s := fun {R} r => by
      unfold Builtin.Slice.sliceApplied Builtin.Slice.sliceFields
      refine wpAny_bind (wpAny_bind (wpAny_field hos hds (x := .none) rfl (wpAny_bind (wpAny_field hos hds (x := .none) rfl (wpAny_bind (wpAny_field hos hds (x := vs) rfl (wpAny_pure ?_)))))))
      refine wpAny_bind (slicePart_ ps ?_)
      show wpAny _ _ (if ((-1 : Int) == 0) = true then _ else _) _ _ s
      rw [if_neg (by decide)]
      refine wpAny_bind (slicePart_none (wpAny_bind (slicePart_none (wpAny_bind (wpAny_pure ?_)))))
      show wpAny _ _ (match Builtin.Slice.sliceAdjust none none (-1) (items.size : Int) with | (lo, hi) => pure (lo, (-1 : Int), Builtin.Slice.slicePlaces lo hi (-1))) _ _ s
      rw [adjust_rev]
      show wpAny _ _ (pure ((items.size : Int) - 1, (-1 : Int), Builtin.Slice.slicePlaces ((items.size : Int) - 1) (-1) (-1))) _ _ s
      rw [places_rev]
      exact wpAny_pure r
    refine wpAny_bind (sa ?_)
    have no : ¬ ((((items.size : Int) - 1) == 0 && (-1 : Int) == 1 && items.size == items.size) = true) := by
      intro q
      rw [Bool.and_eq_true, Bool.and_eq_true] at q
      exact absurd q.1.2 (by decide)
    show wpAny _ _ (if (((items.size : Int) - 1) == 0 && (-1 : Int) == 1 && items.size == items.size) = true then _ else _) _ _ s
    rw [if_neg no, pick_rev]
    first
      | exact wpAny_bind (m := Builtin.Tuple.tupleExact _) (wpAny_newObj_type (wpAny_pure ⟨_, rfl, h⟩) ok)
      | exact wpAny_bind (wpAny_bind (m := Builtin.Tuple.tupleExact _) (wpAny_newObj_type (wpAny_pure (wpAny_pure ⟨_, rfl, h⟩)) ok))
      | exact wpAny_bind (wpAny_bind (m := Builtin.Tuple.tupleExact _) (wpAny_newObj_type (wpAny_pure ⟨_, rfl, h⟩) ok))
  refine wpAny_bind (wpAny_callSpecial?_slot (name := Str.ofString "__getitem__") ht.typeIs PyProof.Rows.slot_tuple_getitem
    (wpAny_call_entry PyProof.Rows.slot_tuple_getitem ht.typeIs entry_tuple_getitem (wpAny_mono body (fun fin s' z => ?_) fun _ _ z => z) (args_tuple_getitem _ _)))
  obtain ⟨v, rfl, q⟩ := z
  first | exact ⟨v, rfl, wpAny_pure q⟩ | exact ⟨_, rfl, wpAny_pure q⟩
end
section
variable {X : Cx} {cl : Nat → Addr} {C : CallF} {e : Expr} {pos : Pos} {r : RE}
def tRv (K : PySem.W.Frag) (te : TE) : TE := fun σ H Q => te σ H fun x H1 => (∃ a xs, x = .ref a ∧ SqL K H1 a xs ∧ ∀ p, H1 p = none → Q (.ref p) (upd H1 p (.lst xs.reverse))) ∨ ∃ a xs, x = .ref a ∧ SqT K H1 a xs ∧ ∀ p, H1 p = none → Q (.ref p) (upd H1 p (.tup xs.reverse))
theorem pe_rv {te : TE} {k : Nat} {p1 p2 p3 : Pos} (he : PE X e te) : PE X (.Subscript e (.Slice none none (some (.UnaryOp .USub (.Constant (.int 1) k p1) p2)) p3) pos) (tRv X.K te) := by
  constructor
  intro pins s σ H Q I h
  refine Subscript_ (thn (he.run pins s σ H _ I h) fun v s1 hh => ?_)
  obtain ⟨x, H1, I1, r1, q1⟩ := hh
  have hm1 : PO X (some (.UnaryOp .USub (.Constant (.int 1) k p1) p2)) (tPart (tUn (rU fun i => .int (-i)) (tC (.int 1)))) := po_some (pe_un un_neg pe_int)
  refine wpAny_Slice (thn (po_none.run pins s1 σ H1 (fun o H2 => o = none ∧ H2 = H1) I1 ⟨rfl, rfl⟩) fun vl s2 h2 => ?_)
  obtain ⟨l, H2, I2, pl, rfl, rfl⟩ := h2
  refine thn (po_none.run pins s2 σ H2 (fun o H3 => o = none ∧ H3 = H2) I2 ⟨rfl, rfl⟩) fun vu s3 h3 => ?_
  obtain ⟨u, H3, I3, pu, rfl, rfl⟩ := h3
  refine thn (hm1.run pins s3 σ H3 (fun o H4 => o = some (-1) ∧ H4 = H3) I3 ⟨1, rfl, -1, rfl, rfl, rfl⟩) fun vs s4 h4 => ?_
  obtain ⟨o, H4, I4, ps, rfl, rfl⟩ := h4
  have I5 : Inv X pins σ H4 { s4 with heap := s4.heap.push { cls := .type "slice", data := .fields #[vl, vu, vs] } } := I4.kept (t' := s4.toks) fun b ob q => Heap.get?_push_of_some _ q
  rcases q1 with ⟨a, xs, rfl, hx, q⟩ | ⟨a, xs, rfl, hx, q⟩
  · cases r1
    obtain ⟨its, rv, ht, hz⟩ := I5.list hx
    have hlen := rv.length
    show wpAny (model X.prog X.w) X.A (subscriptTail e (.Slice none none (some (.UnaryOp .USub (.Constant (.int 1) k p1) p2)) p3) (.ref a) (.ref s4.heap.objs.size)) (EP X pins σ Q) X.xe { s4 with heap := s4.heap.push { cls := .type "slice", data := .fields #[vl, vu, vs] } }
    refine tail_any (ops := [.ref a, .ref s4.heap.objs.size]) ht.isList.typeIs (PySem.slot_list_getitem.lookup) ?_ (by with_unfolding_all rfl)
    refine wpAny_getItem_list_slice ht.isList (Heap.IsSliceOf.new _ vl vu vs) pl pu ps (by decide) ?_ (by rw [List.size_toArray]; omega)
    rw [PySem.W.krv_pick]
    refine ⟨.ref _, _, I5.laid (t' := s4.toks) (o := .lst xs.reverse) (fun b ob q => Heap.get?_push_of_some _ q) (Nat.le_refl _) ?_, rfl, q _ (I5.hok.fresh (Nat.le_refl _))⟩
    exact ⟨by rw [List.length_reverse]; exact hz, _, 0, rv.reverse, Heap.get?_push_size _ rfl⟩
  · cases r1
    obtain ⟨its, rv, ht, hz⟩ := I5.tuple hx
    have hlen := rv.length
    cases pl
    cases pu
    show wpAny (model X.prog X.w) X.A (subscriptTail e (.Slice none none (some (.UnaryOp .USub (.Constant (.int 1) k p1) p2)) p3) (.ref a) (.ref s4.heap.objs.size)) (EP X pins σ Q) X.xe { s4 with heap := s4.heap.push { cls := .type "slice", data := .fields #[.none, .none, vs] } }
    refine tail_any (ops := [.ref a, .ref s4.heap.objs.size]) ht.typeIs (PyProof.Rows.slot_tuple_getitem.lookup) ?_ (by with_unfolding_all rfl)
    refine getItem_tupRev ht (Heap.IsSliceOf.new _ .none .none vs) ps ?_ (by rw [List.size_toArray]; omega)
    refine ⟨.ref _, _, I5.laid (t' := s4.toks) (o := .tup xs.reverse) (fun b ob q => Heap.get?_push_of_some _ q) (Nat.le_refl _) ?_, rfl, q _ (I5.hok.fresh (Nat.le_refl _))⟩
    exact ⟨by rw [List.length_reverse]; exact hz, its.reverse, rv.reverse, IsTup.new _ _⟩
theorem Reps.rev {K : PySem.W.Frag} {G : Hp} {xs : List D} {vs : List V} (h : Reps K cl G xs vs) : Reps K cl G xs.reverse vs.reverse := by
  have : ∀ {xs : List D} {vs : List V}, Paired (Rep K cl G) xs vs → Paired (Rep K cl G) xs.reverse vs.reverse := by
    intro xs vs h
    induction h with
    | nil => exact .nil
    | cons r t ih => rw [List.reverse_cons, List.reverse_cons]; exact Paired.append ih (.cons r .nil)
  exact Reps.of (this h.pair)
theorem se_rev {k : Nat} {p1 p2 p3 : Pos} (he : SE X cl e (evalE C r)) : SE X cl (.Subscript e (.Slice none none (some (.UnaryOp .USub (.Constant (.int 1) k p1) p2)) p3) pos) (evalE C (.rev r)) := by
  refine pe_by (pe_rv he) fun σ H Q h => ?_
  obtain ⟨env, S, G, ι, rp, re, po⟩ := h
  rw [evalE] at po
  refine ⟨env, S, G, ι, rp, re, Post.seq po fun sv S1 v H1 G1 ι1 e1 rp1 ex1 r1 po1 => ?_⟩
  cases qr : rd S1 sv with
  | none => simp only [qr] at po1; exact po1.elim
  | some d =>
    cases d with
    | lst xs =>
      simp only [qr] at po1
      obtain ⟨a, vs, rfl, h1, h2⟩ := rd_rep rp1 r1 qr
      refine .inl ⟨a, vs, rfl, .inl (.inl h1), fun p hp => ?_⟩
      have el := Ext.lay (ι := ι1) (o := .lst vs.reverse) rp1.gs hp
      exact po1 (.ref p) _ _ ι1 (rp1.lay hp) (ex1.trans el) ⟨p, _, rfl, upd_same, Reps.up' (Reps.rev h2) el.g⟩
    | tup xs =>
      simp only [qr] at po1
      obtain ⟨a, vs, rfl, h1, h2⟩ := RepT.sq rp1.gs (rd_rep rp1 r1 qr)
      refine .inr ⟨a, vs, rfl, h1, fun p hp => ?_⟩
      have el := Ext.lay (ι := ι1) (o := .tup vs.reverse) rp1.gs hp
      exact po1 (.ref p) _ _ ι1 (rp1.lay hp) (ex1.trans el) ⟨p, _, rfl, .inl (.inl upd_same), Reps.up' (Reps.rev h2) el.g⟩
    | _ => simp only [qr] at po1; exact po1.elim
end
end R
end
section
set_option linter.all false
set_option maxRecDepth 100000
set_option maxHeartbeats 1000000
/-! R14d: a dict that has a list of its own which changes. -/
namespace R
open PySem PySem.Spec PyProof.Rows L2
section
variable {K : PySem.W.Frag} {cl : Nat → Addr} {G H G1 H1 : Hp} {ι ι1 : List Addr} {S S1 : Sto}
theorem eqK_eq {k d : D} (h : eqK k d = true) : k = d := by
  cases d <;> cases k <;> first
    | (cases h; done)
    | (have h := of_decide_eq_true h; rw [h])
theorem eqK_self {k : D} {κ : Key} (h : keyRep k κ) : eqK k k = true := by rw [eqK_of h h]; simp
theorem RepO.look {k key : D} {κ : Key} {b : Addr} (hk : keyRep k κ) : ∀ {kvs : List (D × D)} {ks : List (Key × V)}, RepO K cl G key b kvs ks →
    (eqK k key = true → hasD k kvs = true → valV ks κ = some (.ref b)) ∧ (eqK k key = false → ∀ d, lookD k kvs = some d → ∃ w, valV ks κ = some w ∧ Rep K cl G d w)
  | [], _, h => ⟨fun _ e => (by cases e), fun _ d e => (by cases e)⟩
  | (k', d') :: r, _, h => by
    obtain ⟨κ', v, s, rfl, h2, h3, h4⟩ := h
    have e := eqK_of hk h2
    obtain ⟨i1, i2⟩ := RepO.look hk h4
    by_cases hc : κ' = κ
    · rw [decide_eq_true hc] at e
      have ek := eqK_eq e
      refine ⟨fun q _ => ?_, fun q d z => ?_⟩
      · rw [valV_pos (p := (κ', v)) hc]
        rcases h3 with ⟨_, rfl⟩ | ⟨n, _⟩
        · rfl
        · rw [← ek, ← eqK_eq q, eqK_self hk] at n; cases n
      · have : lookD k ((k', d') :: r) = some d' := by simp [lookD, e]
        rw [this] at z
        cases z
        rcases h3 with ⟨n, _⟩ | ⟨_, n⟩
        · rw [← ek] at n
          rw [eqK_eq n, eqK_of hk hk] at q
          simp at q
        · exact ⟨v, by rw [valV_pos (p := (κ', v)) hc], n⟩
    · rw [decide_eq_false hc] at e
      have a1 : hasD k ((k', d') :: r) = hasD k r := by simp [hasD, e]
      have a2 : lookD k ((k', d') :: r) = lookD k r := by simp [lookD, e]
      rw [valV_neg (p := (κ', v)) hc, a1, a2]
      exact ⟨i1, i2⟩
theorem RepO.all {key : D} {b : Addr} {xs : List D} (hr : Rep K cl G (.lst xs) (.ref b)) : ∀ {kvs : List (D × D)} {ks : List (Key × V)}, RepO K cl G key b kvs ks → RepK K cl G (kvs.map fun q => if eqK key q.1 = true then (q.1, D.lst xs) else q) ks
  | [], _, h => by cases (show _ = [] from h); rfl
  | (k', d') :: r, _, h => by
    obtain ⟨κ', v, s, rfl, h2, h3, h4⟩ := h
    rw [List.map_cons]
    rcases h3 with ⟨n, rfl⟩ | ⟨n, h3⟩
    · simp only [n, if_true]
      exact ⟨κ', _, s, rfl, h2, hr, RepO.all hr h4⟩
    · simp only [n, Bool.false_eq_true, if_false]
      exact ⟨κ', _, s, rfl, h2, h3, RepO.all hr h4⟩
theorem RepO.mp {k : D} {κ : Key} {b : Addr} (hk : keyRep k κ) : ∀ {kvs : List (D × D)} {ks : List (Key × V)}, RepK K cl G kvs ks →
    RepO K cl G k b (kvs.map fun q => if eqK k q.1 = true then (q.1, D.non) else q) (ks.map fun q => if q.1 = κ then (q.1, V.ref b) else q)
  | [], _, h => by cases (show _ = [] from h); rfl
  | (k', d') :: r, _, h => by
    obtain ⟨κ', v', s, rfl, h2, h3, h4⟩ := h
    have e := eqK_of hk h2
    rw [List.map_cons, List.map_cons]
    by_cases hc : κ' = κ
    · rw [decide_eq_true hc] at e
      simp only [e, if_true]
      exact ⟨κ', _, _, by simp only [if_pos hc], h2, .inl ⟨e, rfl⟩, RepO.mp hk h4⟩
    · rw [decide_eq_false hc] at e
      simp only [e, Bool.false_eq_true, if_false]
      exact ⟨κ', v', _, by simp only [if_neg hc], h2, .inr ⟨e, h3⟩, RepO.mp hk h4⟩
theorem RepO.app {k : D} {κ : Key} {b : Addr} (hk : keyRep k κ) : ∀ {kvs : List (D × D)} {ks : List (Key × V)}, RepK K cl G kvs ks → hasD k kvs = false → RepO K cl G k b (kvs ++ [(k, .non)]) (ks ++ [(κ, .ref b)])
  | [], _, h, _ => by cases (show _ = [] from h); exact ⟨κ, _, [], rfl, hk, .inl ⟨eqK_self hk, rfl⟩, rfl⟩
  | (k', d') :: r, _, h, hn => by
    obtain ⟨κ', v', s, rfl, h2, h3, h4⟩ := h
    have hn : (eqK k k' || hasD k r) = false := hn
    obtain ⟨n1, n2⟩ := Bool.or_eq_false_iff.mp hn
    exact ⟨κ', v', _, rfl, h2, .inr ⟨n1, h3⟩, RepO.app hk h4 n2⟩
theorem RepO.put {k : D} {κ : Key} {b : Addr} (hk : keyRep k κ) {kvs : List (D × D)} {ks : List (Key × V)} (h : RepK K cl G kvs ks) : RepO K cl G k b (putD k .non kvs) (putK ks κ (.ref b)) := by
  unfold putD putK
  rw [valV_any, RepK.has hk h]
  cases hq : (valV ks κ).isSome with
  | true => rw [if_pos rfl, if_pos rfl]; exact RepO.mp hk h
  | false => rw [if_neg (by simp), if_neg (by simp)]; exact RepO.app hk h (by rw [RepK.has hk h, hq])
theorem frz_post {sv : SV} {v : V} {Q : VK} (rp : RpH K cl S1 G1 ι1 H1) (ex : Ext G H ι G1 H1 ι1) (r : RepS K cl G1 ι1 sv v) (h : Post K cl (RSv K cl) G ι H Q (frzS sv S1)) : Q v H1 := by
  cases sv with
  | p d => exact h v H1 G1 ι1 rp ex r
  | l n =>
    obtain ⟨a, ha, rfl⟩ := r
    unfold frzS at h
    cases qn : S1[n]? with
    | none => simp only [qn] at h; exact h.elim
    | some c =>
      have z := rp.cel n a c ha qn
      cases c with
      | lst xs =>
        simp only [qn] at h
        obtain ⟨z0, vs, z1, z2⟩ := z
        have hd : Rep K cl (upd G1 a (.lst vs)) (.lst xs) (.ref a) := ⟨a, vs, rfl, upd_same, Reps.up' z2 (same_upd z0)⟩
        obtain ⟨k1, k2⟩ := RpH.kill hd rp ha z1 z0
        exact h _ H1 _ ι1 k1 (ex.trans k2) hd
      | dct k =>
        simp only [qn] at h
        obtain ⟨z0, vs, z1, z2⟩ := z
        have hd : Rep K cl (upd G1 a (.dK vs)) (.dct k) (.ref a) := ⟨a, vs, rfl, upd_same, RepK.up (same_upd z0) _ _ z2⟩
        obtain ⟨k1, k2⟩ := RpH.kill hd rp ha z1 z0
        exact h _ H1 _ ι1 k1 (ex.trans k2) hd
      | fro d => simp only [qn] at h; exact h _ H1 G1 ι1 rp ex z
      | _ => simp only [qn] at h; exact h.elim
theorem frzO_post {sv : SV} {v : V} {Q : VK} (rp : RpH K cl S1 G1 ι1 H1) (ex : Ext G H ι G1 H1 ι1) (r : RepS K cl G1 ι1 sv v) (h : Post K cl (RSv K cl) G ι H Q (frzOS sv S1)) : Q v H1 := by
  cases sv with
  | p d => exact frz_post rp ex r h
  | l n =>
    cases qn : S1[n]? with
    | none => unfold frzOS at h; simp only [qn] at h; exact frz_post rp ex r h
    | some c =>
      cases c with
      | own kvs key m =>
        unfold frzOS at h
        simp only [qn] at h
        obtain ⟨a, ha, rfl⟩ := r
        obtain ⟨z0, ks, b, z1, z2, z3, z4⟩ := rp.cel n a _ ha qn
        cases qm : S1[m]? with
        | none => simp only [qm] at h; exact h.elim
        | some c2 =>
          cases c2 with
          | lst xs =>
            simp only [qm] at h
            by_cases hk : keyD key = true
            · rw [if_pos hk] at h
              obtain ⟨y0, vs, y1, y2⟩ := rp.cel m b _ z1 qm
              have hd1 : Rep K cl (upd G1 b (.lst vs)) (.lst xs) (.ref b) := ⟨b, vs, rfl, upd_same, Reps.up' y2 (same_upd y0)⟩
              obtain ⟨k1, k2⟩ := RpH.kill hd1 rp z1 y1 y0
              have ga : (upd G1 b (.lst vs)) a = none := by rw [upd_ne (Ne.symm z2)]; exact z0
              have hd2 : Rep K cl (upd (upd G1 b (.lst vs)) a (.dK ks)) (.dct (kvs.map fun q => if eqK key q.1 = true then (q.1, D.lst xs) else q)) (.ref a) :=
                ⟨a, ks, rfl, upd_same, RepO.all (b := b) (Rep.up (same_upd ga) _ _ hd1) (RepO.up (same_upd ga) (RepO.up k2.g z4))⟩
              obtain ⟨k3, k4⟩ := RpH.kill hd2 k1 ha z3 ga
              exact h _ H1 _ ι1 k3 (ex.trans (k2.trans k4)) hd2
            · rw [if_neg hk] at h; exact h.elim
          | _ => simp only [qm] at h; exact h.elim
      | _ => unfold frzOS at h; simp only [qn] at h; exact frz_post rp ex r h
end
section
variable {X : Cx} {cl : Nat → Addr} {C : CallF} {e : Expr} {x : Str} {p pos po : Pos} {r : RE} {k : D} {κ : Key} {i N : Nat}
theorem se_frzE (he : SE X cl e (evalE C r)) : SE X cl e (evalE C (.frzE r)) := by
  refine pe_by he fun σ H Q h => ?_
  obtain ⟨env, S, G, ι, rp, re, po⟩ := h
  rw [evalE] at po
  exact ⟨env, S, G, ι, rp, re, Post.seq po fun sv S1 v H1 G1 ι1 e1 rp1 ex1 r1 po1 => frzO_post rp1 ex1 r1 po1⟩
theorem se_frzO (hN : X.N[i]? = some x) (hv : Vis X.env.scope x) (hd : (x == ("__debug__" : Str)) = false) (hcd : (x == ("__classdict__" : Str)) = false) : SE X cl (.Name x pos) (evalE C (.frzO i)) := by
  refine pe_by (pe_var hN hv hd hcd) fun σ H Q h => ?_
  obtain ⟨env, S, G, ι, rp, re, po⟩ := h
  rw [evalE] at po
  obtain ⟨sv, q, po⟩ := post_ofO po
  obtain ⟨v, h1, h2⟩ := re.at_ i sv (env_get q)
  exact ⟨v, h1, frzO_post rp .refl h2 po⟩
/-- own[k] -/
theorem idxO_post {K : PySem.W.Frag} {S1 : Sto} {G H G1 H1 : Hp} {ι ι1 : List Addr} {sv : SV} {v : V} {Q : VK} (hk : keyRep k κ) (rp : RpH K cl S1 G1 ι1 H1) (ex : Ext G H ι G1 H1 ι1) (r : RepS K cl G1 ι1 sv v) (h : Post K cl (RSv K cl) G ι H Q (idxOS k sv S1)) :
    ∃ a w, v = .ref a ∧ DGet H1 a (kV κ) (some w) ∧ Q w H1 := by
  cases sv with
  | p d => exact h.elim
  | l n =>
    obtain ⟨a, ha, rfl⟩ := r
    unfold idxOS at h
    cases qn : S1[n]? with
    | none => simp only [qn] at h; exact h.elim
    | some c =>
      have z := rp.cel n a c ha qn
      cases c with
      | own kvs key m =>
        simp only [qn] at h
        obtain ⟨z0, ks, b, z1, z2, z3, z4⟩ := z
        by_cases hkd : keyD k = true
        · rw [if_pos hkd] at h
          obtain ⟨l1, l2⟩ := RepO.look hk z4
          by_cases he : eqK k key = true
          · rw [if_pos he] at h
            by_cases hh : hasD k kvs = true
            · rw [if_pos hh] at h
              have e := l1 he hh
              exact ⟨a, .ref b, rfl, by rw [← e]; exact DGet.k z3, h _ H1 G1 ι1 rp ex ⟨b, z1, rfl⟩⟩
            · rw [if_neg hh] at h; exact h.elim
          · rw [if_neg he] at h
            obtain ⟨d, qd, h⟩ := post_ofO h
            obtain ⟨w, e, rw'⟩ := l2 (by simpa using he) d qd
            exact ⟨a, w, rfl, by rw [← e]; exact DGet.k z3, h _ H1 G1 ι1 rp ex rw'⟩
        · rw [if_neg hkd] at h; exact h.elim
      | dct kvs =>
        simp only [qn] at h
        obtain ⟨z0, ks, z1, z2⟩ := z
        by_cases hkd : keyD k = true
        · rw [if_pos hkd] at h
          obtain ⟨d, qd, h⟩ := post_ofO h
          rcases RepK.look hk z2 with ⟨n1, _⟩ | ⟨d', w, e1, e2, e3⟩
          · rw [qd] at n1; cases n1
          · rw [qd] at e1
            cases e1
            exact ⟨a, w, rfl, by rw [← e2]; exact DGet.k z1, h _ H1 G1 ι1 rp ex e3⟩
        · rw [if_neg hkd] at h; exact h.elim
      | _ => simp only [qn] at h; exact h.elim
theorem se_idxO {kk : Nat} {ix : Expr} (hr : Room kk X.A) (hN : X.N[i]? = some x) (hv : Vis X.env.scope x) (hd : (x == ("__debug__" : Str)) = false) (hcd : (x == ("__classdict__" : Str)) = false) (hk : keyRep k κ) (hx : PE X ix (tC (kV κ))) (hs : NoSl ix) :
    SE X cl (.Subscript (.Name x po) ix pos) (evalE C (.idxO i k)) := by
  refine pe_by (pe_dget (by have := hr.un; omega) (pe_var hN hv hd hcd) hx hs) fun σ H Q h => ?_
  obtain ⟨env, S, G, ι, rp, re, po⟩ := h
  rw [evalE] at po
  obtain ⟨sv, q, po⟩ := post_ofO po
  obtain ⟨v, h1, h2⟩ := re.at_ i sv (env_get q)
  exact ⟨v, h1, idxO_post hk rp .refl h2 po⟩
/-- own[k] = a fresh list that stays own -/
theorem ss_sidxO {kk : Nat} {ix : Expr} (hr : Room kk X.A) (hN : X.N[i]? = some x) (hv : Vis X.env.scope x) (hd : (x == ("__debug__" : Str)) = false) (hcd : (x == ("__classdict__" : Str)) = false) (hk : keyRep k κ) (hx : PE X ix (tC (kV κ)))
    (he : SN X cl e (evalE C r)) (ha : ∀ v, assign (.Subscript (.Name x po) ix p) X.env v = (do
      let ov ← holding [v] (eval (.Name x po) X.env)
      let iv ← holding [v, ov] (eval ix X.env)
      standAt p
      holding [v, ov, iv] (setItem ov iv v)
      release [v, ov, iv] [])) : SS X cl (.Assign [.Subscript (.Name x po) ix p] e pos) (exec C N (.sidxO i k r)) :=
  ps_by (ps_asg he (pg_sub (pe_var hN hv hd hcd) hx (set_ld (by have := hr.un; omega)) ha) (swaps_tg (l := pos.line) (env := X.env) (show notName (.Subscript (.Name x po) ix p) = true from rfl)) (by cases e <;> rfl) rfl) fun E σ H h => by
    obtain ⟨env, S, G, ι, rp, re, po⟩ := h
    rw [exec] at po
    refine ⟨env, S, G, ι, rp, re, ?_⟩
    cases qv : evalE C r env S with
    | exc _ _ _ => rw [qv] at po; exact po.elim
    | bad => rw [qv] at po; exact po.elim
    | ok sv S1 =>
      rw [qv] at po
      simp only [Res.st_ok] at po
      intro v H1 G1 ι1 rp1 ex1 r1
      obtain ⟨b, rfl, hb0, hbg, hbn, r1⟩ := r1
      cases sv with
      | l _ => exact r1.elim
      | p d =>
        cases d with
        | lst xs =>
          obtain ⟨vs, hb1, hb2⟩ := r1
          cases qe : env.get i with
          | none => simp only [qe] at po; exact po.elim
          | some sa =>
            cases sa with
            | p _ => simp only [qe] at po; exact po.elim
            | l n =>
              simp only [qe] at po
              obtain ⟨w, hw, a, hla, rfl⟩ := re.at_ i _ (env_get qe)
              obtain ⟨t1, ht1⟩ := ex1.i
              have la : ι1[n]? = some a := by
                rw [ht1, List.getElem?_append_left (List.getElem?_eq_some_iff.mp hla).1]; exact hla
              cases qs : S1[n]? with
              | none => simp only [qs] at po; exact po.elim
              | some cc =>
                cases cc with
                | dct kvs =>
                  simp only [qs] at po
                  by_cases hh : keyD k = true ∧ kvs.length < line
                  · rw [if_pos hh] at po
                    obtain ⟨z0, ks, z1, z2⟩ := rp1.cel n a _ la qs
                    have nab : b ≠ a := fun q => hbn (q ▸ List.mem_of_getElem? la)
                    have rp2 := rp1.cell (c := .lst xs) (by rw [hb1]; simp) hbn ⟨hbg, vs, hb1, hb2⟩
                    have la2 : (ι1 ++ [b])[n]? = some a := by rw [List.getElem?_append_left (List.getElem?_eq_some_iff.mp la).1]; exact la
                    have lb2 : (ι1 ++ [b])[S1.length]? = some b := by rw [← rp1.len]; simp
                    have rp3 := rp2.put (o := .dK (putK ks κ (.ref b))) (c := .own (putD k .non kvs) k S1.length) la2 z0 ⟨z0, _, b, lb2, nab, upd_same, RepO.put hk z2⟩
                    have hn : n < S1.length := (List.getElem?_eq_some_iff.mp qs).1
                    rw [List.set_append_left _ _ hn] at rp3
                    have ex3 := (ex1.trans (Ext.put (G := G1) (H := H1) (o := .dK (putK ks κ (.ref b))) la)).cell hb0
                    exact ⟨_, hw, .inr ⟨a, _, rfl, DPut.k z1 (by rw [← z2.length, sline]; exact hh.2), po σ _ G1 (ι1 ++ [b]) rp3 ex3 (re.up ex3)⟩⟩
                  · rw [if_neg hh] at po; exact po.elim
                | _ => simp only [qs] at po; exact po.elim
        | _ => exact po.elim
/-- own[k][j] = e -/
theorem ss_sidx2 {kk : Nat} {ix jx : Expr} {rj : RE} {p1 : Pos} (hr : Room kk X.A) (hN : X.N[i]? = some x) (hv : Vis X.env.scope x) (hd : (x == ("__debug__" : Str)) = false) (hcd : (x == ("__classdict__" : Str)) = false) (hk : keyRep k κ) (hx : PE X ix (tC (kV κ))) (hs : NoSl ix)
    (hj : SE X cl jx (evalE C rj)) (he : SE X cl e (evalE C r)) (ha : ∀ v, assign (.Subscript (.Subscript (.Name x po) ix p1) jx p) X.env v = (do
      let ov ← holding [v] (eval (.Subscript (.Name x po) ix p1) X.env)
      let iv ← holding [v, ov] (eval jx X.env)
      standAt p
      holding [v, ov, iv] (setItem ov iv v)
      release [v, ov, iv] [])) : SS X cl (.Assign [.Subscript (.Subscript (.Name x po) ix p1) jx p] e pos) (exec C N (.sidx2 i k rj r)) :=
  ps_by (ps_asg he (pg_sub (se_idxO hr hN hv hd hcd hk hx hs) hj set_list ha) (swaps_tg (l := pos.line) (env := X.env) (show notName (.Subscript (.Subscript (.Name x po) ix p1) jx p) = true from rfl)) (by cases e <;> rfl) rfl) fun E σ H h => by
    obtain ⟨env, S, G, ι, rp, re, po⟩ := h
    rw [exec] at po
    refine ⟨env, S, G, ι, rp, re, PostS.seq po fun sv S1 v H1 G1 ι1 e1 rp1 ex1 r1 po1 => ?_⟩
    obtain ⟨sa, qe, po1⟩ := posts_ofO po1
    refine (show tX X.K cl (RSv X.K cl) (evalE C (.idxO i k)) σ H1 _ from ⟨env, S1, G1, ι1, rp1, re.up ex1, ?_⟩)
    rw [evalE, qe]
    refine PostS.seq po1 fun u S2 ow H2 G2 ι2 e2 rp2 ex2 r2 po2 => ?_
    refine ⟨env, S2, G2, ι2, rp2, (re.up ex1).up ex2, PostS.seq po2 fun xv S3 iv H3 G3 ι3 e3 rp3 ex3 r3 po3 => ?_⟩
    cases sv with
    | l _ => exact po3.elim
    | p dv =>
      cases xv with
      | l _ => exact po3.elim
      | p dx =>
        cases u with
        | p _ => exact po3.elim
        | l m =>
          simp only [pur_p] at po3
          obtain ⟨b, hb, rfl⟩ := RepS.up r2 ex3
          cases qs : S3[m]? with
          | none => rw [qs] at po3; exact po3.elim
          | some cc =>
            rw [qs] at po3
            have z := rp3.cel m b cc hb qs
            cases cc with
            | lst xs =>
              simp only at po3
              obtain ⟨c', qc, po3⟩ := posts_ofO po3
              cases dx with
              | int jj =>
                obtain ⟨z0, vs, z1, z2⟩ := z
                cases r3
                have qc : (L2.ixN xs.length jj).map (fun q => Cell.lst (xs.set q dv)) = some c' := qc
                cases qi : L2.ixN xs.length jj with
                | none => rw [qi] at qc; cases qc
                | some q =>
                  rw [qi] at qc
                  cases qc
                  have ep := Ext.put (G := G3) (H := H3) (o := .lst (vs.set q v)) hb
                  have rv := RepS.up (RepS.up r1 ex2) ex3
                  exact ⟨b, vs, jj, q, rfl, rfl, z1, by rw [← z2.length]; exact qi, po3 σ _ G3 ι3 (rp3.put hb z0 ⟨z0, _, upd_same, Reps.of (Paired.set z2.pair rv q)⟩) ep ((((re.up ex1).up ex2).up ex3).up ep)⟩
              | _ => cases qc
            | _ => exact po3.elim
end
end R
end
section
set_option linter.all false
set_option maxRecDepth 100000
set_option maxHeartbeats 1000000
/-! R15: a check of the little language against the program's text. -/
namespace R
open PySem PySem.Spec PyProof.Rows L2
structure Tab where
  fns : List (Str × Nat) := []
  cls : List (Str × (Nat × Nat)) := []
  mth : List (Nat × Str × Nat) := []
  prp : List (Nat × Str × Nat) := []
  fld : List (Nat × Str) := []
  con : List (Str × D) := []
  kwf : List (Nat × List Str × List Nat) := []
  kwc : List (Nat × List Str × List Nat) := []
  fre : List Str := []
  exc : List (Str × Nat) := []
  isx : List (Str × List (Nat × Bool)) := []
/-! small checks -/
def glB (sc : Scope) (y : Str) : Bool := decide (sc.names.lookup y = some .globalImplicit) && !(y == ("__debug__" : Str))
def visB (sc : Scope) (y : Str) : Bool := decide (sc.names.lookup y = some .local) || decide (sc.names.lookup y = some .cell) || decide (sc.names.lookup y = some .free)
def locB (sc so : Scope) (y : Str) : Bool := decide (sc.names.lookup y = some .local) || decide (sc.names.lookup y = some .cell) && decide (so.names.lookup y = some .cell)
/-- a block's scope within another's -/
def reS (sc scope : Scope) : Scope := { scope with names := scope.names.map fun (n, kd) => if (kd == NameKind.free && sc.kind == .function && sc.names.lookup n == some .cell) then (n, NameKind.cell) else (n, kd) }
def varB (sc : Scope) (N : List Str) (i : Nat) (y : Str) : Bool := decide (N[i]? = some y) && visB sc y && !(y == ("__debug__" : Str)) && !(y == ("__classdict__" : Str))
def bltB (T : Tab) (sc : Scope) (y : Str) : Bool := glB sc y && decide (y ∈ T.fre)
def litB : D → Const → Bool
  | .non, .none => true
  | .bl b, .bool c => b == c
  | .int i, .int j => decide (i = j)
  | .str u, .str w => decide (u = w)
  | _, _ => false
def opB : Op → Operator → Bool
  | .add, .Add => true | .sub, .Sub => true | .mul, .Mult => true | .fdiv, .FloorDiv => true | .mod, .Mod => true | .pow, .Pow => true | _, _ => false
def cmB : Cm → CmpOp → Bool
  | .eq, .Eq => true | .ne, .NotEq => true | .lt, .Lt => true | .le, .LtE => true | .gt, .Gt => true | .ge, .GtE => true | .in_, .In => true | .nin, .NotIn => true | .is_, .Is => true | .isn, .IsNot => true | _, _ => false
theorem opB_ok {o : Op} {p : Operator} (h : opB o p = true) : p = o.py := by cases o <;> cases p <;> first | rfl | cases h
theorem cmB_ok {o : Cm} {p : CmpOp} (h : cmB o p = true) : p = o.py := by cases o <;> cases p <;> first | rfl | cases h
def ownOf (N : List Str) (vs : List Nat) : List (Str × Nat) := vs.filterMap fun j => (N[j]?).map fun y => (y, j)
def blkB (N : List Str) (sc scope : Scope) (vs : List Nat) : Bool := blkC N sc scope (ownOf N vs) && decide ((ownOf N vs).map (·.2) = vs)
def notSet : Expr → Bool
  | .Set _ _ _ => false
  | _ => true
theorem folded_of {it : Expr} {env : PySem.Env} (h : notSet it = true) (x : Value) : foldedSetIterable it env x = pure x := by cases it <;> first | rfl | cases h
def isTup : Expr → Bool
  | .Tuple _ _ _ => true
  | _ => false
def isNew : RE → Bool
  | .lst _ => true
  | .lc _ _ _ _ _ => true
  | .dc _ _ _ _ _ => true
  | .bi f _ => f.new
  | .lrg _ => true
  | .lrg2 _ _ => true
  | .dsp _ => true
  | .lit _ => true
  | _ => false
def isBO : Expr → Bool
  | .BoolOp _ (_ :: _ :: _) _ => true
  | _ => false
mutual
def ckG (T : Tab) (sc so : Scope) (N : List Str) : RT → Expr → Bool
  | .nm i, x => match x with
    | .Name y _ => decide (N[i]? = some y) && locB sc so y
    | _ => false
  | .tp ts, x => match x with
    | .Tuple es _ _ => ckGs T sc so N ts es
    | _ => false
  | .fld c i f, x => match x with
    | .Attribute (.Name y _) g _ => varB sc N i y && decide (g = f) && decide ((c, f) ∈ T.fld)
    | _ => false
def ckGs (T : Tab) (sc so : Scope) (N : List Str) : List RT → List Expr → Bool
  | [], es => match es with
    | [] => true
    | _ => false
  | t :: ts, es => match es with
    | x :: xs => noStar x && ckG T sc so N t x && ckGs T sc so N ts xs
    | [] => false
end
structure Facts (P : Program) (w : World) (K : PySem.W.Frag) (mg : Str → Option Value) (base : Heap) (cl : Nat → Addr) (C : CallF) (T : Tab) (k : Nat) : Prop where
  fn : ∀ y f, T.fns.lookup y = some f → ∃ n fa fd ps, ArOk C n f ∧ FnG P w K mg base k fa fd ps (spR K cl C n f) ∧ mg y = some (.ref fa) ∧ PySem.W.keepIn K (.ref fa) = true ∧ Binds K fd ps [] ∧ ∀ q ∈ T.kwf, q.1 = f → KwB K fd ps q.2.1 q.2.2 0
  cls : ∀ y c f, T.cls.lookup y = some (c, f) → ∃ n fa fd ps, ArOk C n f ∧ Mk K (cl c) fa ∧ FnG P w K mg base k fa fd ps (spR K cl C n f) ∧ mg y = some (.ref (cl c)) ∧ Binds K fd ps [] ∧ ∀ q ∈ T.kwc, q.1 = f → KwB K fd ps q.2.1 q.2.2 1
  mth : ∀ c m f, (c, m, f) ∈ T.mth → ∃ n fa fd ps, ArOk C n f ∧ FnG P w K mg base k fa fd ps (spR K cl C n f) ∧ Binds K fd ps [] ∧ Cls K (cl c) ∧ Meth K (cl c) m fa
  prp : ∀ c m f, (c, m, f) ∈ T.prp → ∃ n fa fd ps pr, ArOk C n f ∧ FnG P w K mg base k fa fd ps (spR K cl C n f) ∧ Binds K fd ps [] ∧ Cls K (cl c) ∧ PropOf K (cl c) m pr fa
  fld : ∀ c g, (c, g) ∈ T.fld → Cls K (cl c) ∧ NoAttr K (cl c) g
  con : ∀ y d, T.con.lookup y = some d → ∃ v u, mg y = some u ∧ RelV v u ∧ ∀ G, Rep K cl G d v
  fre : ∀ y ∈ T.fre, mg y = none
  exc : ∃ D fI fd, (∀ p ∈ T.exc, mg p.1 = some (.ref (cl p.2)) ∧ ExcF K D fI (cl p.2)) ∧ (T.exc ≠ [] → PySem.W.typeIn K (.ref fI) = some (.type "function") ∧ FnG P w K mg base k fI fd ["self", "value"] (spI K D fI) ∧ Binds K fd ["self", "value"] []) ∧
    ∀ p ∈ T.isx, ∃ tv cv, ((∃ u, mg p.1 = some u ∧ RelV tv u) ∨ (mg p.1 = none ∧ ∃ u, bootBuiltins p.1 = some u ∧ RelV tv u ∧ p.1 ≠ "__name__")) ∧ (∀ u, RelV tv u → u = cv) ∧ ∀ c b, p.2.lookup c = some b → ExcF K D fI (cl c) ∧ PySem.W.kitOne K (.ref (cl c)) cv = some b
abbrev FactsX (X : Cx) (cl : Nat → Addr) (C : CallF) (T : Tab) (k : Nat) : Prop := Facts X.prog X.w X.K X.mg X.base cl C T k
structure Gd (X : Cx) (sc so : Scope) (N : List Str) (k : Nat) : Prop where
  esc : X.env.scope = sc
  eN : X.N = N
  nod : N.Nodup
  calm : X.calm = true
  cA : Calm X.A
  room : Room (k + 1) X.A
  fn : ∀ y, so.names.lookup y = some .cell → X.fn y = true
  hp : PassesOwn (model X.prog X.w) X.A X.env X.xe
section
variable {X : Cx} {cl : Nat → Addr} {C : CallF} {T : Tab} {k : Nat} {sc so scope : Scope} {N : List Str} {y : Str}
theorem reS_ok {c : List (Str × Addr)} {L : Addr} {env : PySem.Env} : (compEnvC scope c L env).scope = reS env.scope scope := rfl
theorem Gd.blk (g : Gd X sc so N k) (scope : Scope) : Blk X scope fun Y => Gd Y (reS sc scope) scope N k := fun s H L c fp =>
  ⟨by rw [← g.esc]; exact reS_ok, g.eN, g.nod, g.calm, g.cA, g.room, fun y h => by show (scope.names.lookup y == some .cell) = true; rw [h]; rfl, PassesOwn.never⟩
theorem Gd.gl (g : Gd X sc so N k) (h : glB sc y = true) : Gl X y ∧ (y == ("__debug__" : Str)) = false := by
  unfold glB at h
  obtain ⟨h1, h2⟩ := Bool.and_eq_true_iff.mp h
  refine ⟨?_, by simpa using h2⟩
  show X.env.scope.names.lookup y = _
  rw [g.esc]
  exact of_decide_eq_true h1
theorem Gd.blt (g : Gd X sc so N k) (F : FactsX X cl C T k) (h : bltB T sc y = true) : Gl X y ∧ X.mg y = none := by
  obtain ⟨h1, h2⟩ := Bool.and_eq_true_iff.mp h
  exact ⟨(g.gl h1).1, F.fre y (of_decide_eq_true h2)⟩
theorem Gd.var {i : Nat} (g : Gd X sc so N k) (h : varB sc N i y = true) : X.N[i]? = some y ∧ Vis X.env.scope y ∧ (y == ("__debug__" : Str)) = false ∧ (y == ("__classdict__" : Str)) = false := by
  unfold varB at h
  simp only [Bool.and_eq_true, decide_eq_true_eq, Bool.not_eq_true'] at h
  obtain ⟨⟨⟨h1, h2⟩, h3⟩, h4⟩ := h
  refine ⟨by rw [g.eN]; exact h1, ?_, h3, h4⟩
  unfold visB at h2
  simp only [Bool.or_eq_true, decide_eq_true_eq] at h2
  rw [g.esc]
  rcases h2 with (h2 | h2) | h2
  · exact .inl h2
  · exact .inr (.inl h2)
  · exact .inr (.inr h2)
theorem Gd.loc (g : Gd X sc so N k) (h : locB sc so y = true) : Loc X.env.scope y ∧ (X.fn y = true ∨ X.env.scope.names.lookup y = some .local) := by
  unfold locB at h
  simp only [Bool.or_eq_true, Bool.and_eq_true, decide_eq_true_eq] at h
  rw [g.esc]
  rcases h with h | h
  · exact ⟨.inl h, .inr h⟩
  · exact ⟨.inr h.1, .inl (g.fn y h.2)⟩
theorem Gd.blkOk {vs : List Nat} (g : Gd X sc so N k) (h : blkB N sc scope vs = true) : ∃ own : List (Str × Nat), vs = own.map (·.2) ∧ BlkOk X.N X.env.scope scope own := by
  unfold blkB at h
  obtain ⟨h1, h2⟩ := Bool.and_eq_true_iff.mp h
  refine ⟨ownOf N vs, (of_decide_eq_true h2).symm, ?_⟩
  rw [g.eN, g.esc]
  exact blkOk_by h1
theorem assign_one {x : Expr} {xs : List Expr} {env : PySem.Env} (h : noStar x = true) : assignEach (x :: xs) env = (false, assign x env) :: assignEach xs env := by
  cases x <;> first | rfl | cases h
theorem assign_each {x : Expr} {xs : List Expr} {env : PySem.Env} (h : noStar x = true) : (assignEach (x :: xs) env).map (·.2) = assign x env :: (assignEach xs env).map (·.2) ∧ (assignEach (x :: xs) env).length = (assignEach xs env).length + 1 ∧
    ((assignEach xs env).findIdx? (·.1) = none → (assignEach (x :: xs) env).findIdx? (·.1) = none) := by
  rw [assign_one h]
  exact ⟨rfl, rfl, fun q => by rw [List.findIdx?_cons, q]; rfl⟩
mutual
theorem ckG_ok (g : Gd X sc so N k) (F : FactsX X cl C T k) : ∀ (t : RT) (x : Expr), ckG T sc so N t x = true → SG X cl x t
  | .nm i, x, h => by
    unfold ckG at h
    split at h
    · obtain ⟨h1, h2⟩ := Bool.and_eq_true_iff.mp h
      obtain ⟨h3, h4⟩ := g.loc h2
      exact sg_nm (by rw [g.eN]; exact g.nod) (by rw [g.eN]; exact of_decide_eq_true h1) h3 h4
    · cases h
  | .tp ts, x, h => by
    unfold ckG at h
    split at h
    · obtain ⟨h1, h2, h3⟩ := ckGs_ok g F ts _ h
      exact sg_tp g.calm h1 h2 h3
    · cases h
  | .fld c i f, x, h => by
    unfold ckG at h
    split at h
    · simp only [Bool.and_eq_true, decide_eq_true_eq] at h
      obtain ⟨⟨h1, rfl⟩, h3⟩ := h
      obtain ⟨a1, a2, a3, a4⟩ := g.var h1
      obtain ⟨c1, c2⟩ := F.fld _ _ h3
      exact sg_fld a1 a2 a3 a4 c1 c2
    · cases h
theorem ckGs_ok (g : Gd X sc so N k) (F : FactsX X cl C T k) : ∀ (ts : List RT) (xs : List Expr), ckGs T sc so N ts xs = true → SGs X cl xs ts ∧ (assignEach xs X.env).length = ts.length ∧ (assignEach xs X.env).findIdx? (·.1) = none
  | [], xs, h => by
    unfold ckGs at h
    split at h
    · exact ⟨sgs_nil, rfl, rfl⟩
    · cases h
  | t :: ts, xs, h => by
    unfold ckGs at h
    split at h
    · simp only [Bool.and_eq_true] at h
      obtain ⟨⟨h1, h2⟩, h3⟩ := h
      obtain ⟨b1, b2, b3⟩ := ckGs_ok g F ts _ h3
      obtain ⟨e1, e2, e3⟩ := assign_each (x := _) (xs := _) (env := X.env) h1
      exact ⟨sgs_cons (ckG_ok g F t _ h2) b1 e1, by rw [e2, b2]; rfl, e3 b3⟩
    · cases h
end
end
end R
end
section
set_option linter.all false
set_option maxRecDepth 100000
set_option maxHeartbeats 1000000
/-! R16: the check of expressions and that it is right. -/
namespace R
open PySem PySem.Spec PyProof.Rows L2
def pl (t : Bool) (x : Expr) : Bool := !t || plainT x
def conB : Option D → D → Bool
  | some (.int i), .int j => decide (i = j)
  | some (.str i), .str j => decide (i = j)
  | _, _ => false
theorem conB_ok {o : Option D} {d : D} (h : conB o d = true) : o = some d := by
  unfold conB at h
  split at h
  · rw [of_decide_eq_true h]
  · rw [of_decide_eq_true h]
  · cases h
def allArg (kws : List Keyword) : Bool := kws.all fun q => q.arg.isSome
def argNames (kws : List Keyword) : List Str := kws.filterMap fun q => q.arg
theorem kw_all {kws : List Keyword} {env : PySem.Env} {pos : Pos} : (backToKw pos (keywordEach kws env)).all (fun x => x.1.isSome) = allArg kws := by
  induction kws with
  | nil => rfl
  | cons a r ih =>
    obtain ⟨a1, a2, a3⟩ := a
    show (a1.isSome && (backToKw pos (keywordEach r env)).all (fun x => x.1.isSome)) = (a1.isSome && allArg r)
    rw [ih]
theorem kw_names {kws : List Keyword} {env : PySem.Env} {pos : Pos} : (backToKw pos (keywordEach kws env)).filterMap (fun x => x.1) = argNames kws := by
  induction kws with
  | nil => rfl
  | cons a r ih =>
    obtain ⟨a1, a2, a3⟩ := a
    show List.filterMap (fun x => x.1) ((a1, _) :: backToKw pos (keywordEach r env)) = List.filterMap (fun q => q.arg) (⟨a1, a2, a3⟩ :: r)
    rw [List.filterMap_cons, List.filterMap_cons, ih]
    rfl
theorem kw_none {kws : List Keyword} {env : PySem.Env} {pos : Pos} (h : allArg kws = true) : ((backTo pos (starEach [] env)).any (fun x => x.1) || (backToKw pos (keywordEach kws env)).any (fun x => x.1.isNone)) = false := by
  show (backToKw pos (keywordEach kws env)).any (fun x => x.1.isNone) = false
  induction kws with
  | nil => rfl
  | cons a r ih =>
    obtain ⟨a1, a2, a3⟩ := a
    have h : (a1.isSome && allArg r) = true := h
    obtain ⟨h1, h2⟩ := Bool.and_eq_true_iff.mp h
    show (a1.isNone || (backToKw pos (keywordEach r env)).any (fun x => x.1.isNone)) = false
    rw [ih h2]
    cases a1 with
    | none => cases h1
    | some z => rfl
def meB : Me → Nat → Bool
  | .index, 1 => true
  | .count, 1 => true
  | .get, 1 => true
  | .get, 2 => true
  | .split, 1 => true
  | .join, 1 => true
  | _, _ => false
mutual
def ck (T : Tab) (N : List Str) : RE → Bool → Scope → Scope → Expr → Bool
  | .var i, t, sc, so, x => pl t x && (match x with
    | .Name y _ => varB sc N i y
    | _ => false)
  | .frz i, t, sc, so, x => pl t x && (match x with
    | .Name y _ => varB sc N i y
    | _ => false)
  | .cn d, t, sc, so, x => pl t x && (match x with
    | .Constant c _ _ => litB d c
    | _ => false)
  | .gl d, t, sc, so, x => pl t x && (match x with
    | .Name y _ => glB sc y && conB (T.con.lookup y) d
    | _ => false)
  | .op o a b, t, sc, so, x => pl t x && (match x with
    | .BinOp l p r _ => opB o p && ck T N a false sc so l && ck T N b false sc so r
    | _ => false)
  | .neg a, t, sc, so, x => pl t x && (match x with
    | .UnaryOp p l _ => (match p with | .USub => true | _ => false) && ck T N a false sc so l
    | _ => false)
  | .not_ a, t, sc, so, x => (match x with
    | .UnaryOp p l _ => (match p with | .Not => true | _ => false) && ck T N a t sc so l
    | _ => false)
  | .cmp o a b, t, sc, so, x => (match x with
    | .Compare l ps cs _ => (match ps with
      | [p] => (match cs with
        | [r] => cmB o p && noSet r && ck T N a false sc so l && ck T N b false sc so r
        | _ => false)
      | _ => false)
    | _ => false)
  | .chain o1 o2 a b c, t, sc, so, x => (match x with
    | .Compare l ps cs _ => (match ps with
      | [p, p'] => (match cs with
        | [r, r'] => cmB o1 p && cmB o2 p' && noSet r' && ck T N a false sc so l && ck T N b false sc so r && ck T N c false sc so r'
        | _ => false)
      | _ => false)
    | _ => false)
  | .and_ a b, t, sc, so, x => (match x with
    | .BoolOp q zs p => (match q with
      | .And => (match zs with
        | l :: r :: rest => ck T N a t sc so l && (match rest with
          | [] => ck T N b t sc so r
          | r' :: rest' => ck T N b t sc so (.BoolOp .And (r :: r' :: rest') p))
        | _ => false)
      | _ => false)
    | _ => false)
  | .or_ a b, t, sc, so, x => (match x with
    | .BoolOp q zs p => (match q with
      | .Or => (match zs with
        | l :: r :: rest => ck T N a t sc so l && (match rest with
          | [] => ck T N b t sc so r
          | r' :: rest' => ck T N b t sc so (.BoolOp .Or (r :: r' :: rest') p))
        | _ => false)
      | _ => false)
    | _ => false)
  | .ife c a b, t, sc, so, x => pl t x && (match x with
    | .IfExp c' a' b' _ => ck T N c true sc so c' && ck T N a false sc so a' && ck T N b false sc so b'
    | _ => false)
  | .tup es, t, sc, so, x => pl t x && (match x with
    | .Tuple xs _ _ => cks T N es sc so xs
    | _ => false)
  | .lst es, t, sc, so, x => pl t x && (match x with
    | .List xs _ => cks T N es sc so xs
    | _ => false)
  | .new r, t, sc, so, x => pl t x && isNew r && ck T N r false sc so x
  | .dsp es, t, sc, so, x => pl t x && (match x with
    | .Dict ks vs _ => decide (ks.length ≤ 15) && ckD T N es sc so ks vs
    | _ => false)
  | .idx a i, t, sc, so, x => pl t x && (match x with
    | .Subscript l s _ => noSlice s && ck T N a false sc so l && ck T N i false sc so s
    | _ => false)
  | .sl a lo hi, t, sc, so, x => pl t x && (match x with
    | .Subscript l s _ => (match s with
      | .Slice lo' hi' st _ => st.isNone && ck T N a false sc so l && ckO T N lo sc so lo' && ckO T N hi sc so hi'
      | _ => false)
    | _ => false)
  | .bi f es, t, sc, so, x => pl t x && (match x with
    | .Call g zs ks _ => (match g with
      | .Name y _ => decide (y = f.name) && bltB T sc y && ks.isEmpty && !zs.isEmpty && zs.all noStar && cks T N es sc so zs
      | _ => false)
    | _ => false)
  | .lrg a, t, sc, so, x => pl t x && (match x with
    | .Call (.Name y _) [.Call (.Name y' _) [z] [] _] [] _ => decide (y = "list") && decide (y' = "range") && bltB T sc y && bltB T sc y' && noStar z && ck T N a false sc so z
    | _ => false)
  | .lrg2 a b, t, sc, so, x => pl t x && (match x with
    | .Call (.Name y _) [.Call (.Name y' _) [z, z'] [] _] [] _ => decide (y = "list") && decide (y' = "range") && bltB T sc y && bltB T sc y' && noStar z && noStar z' && ck T N a false sc so z && ck T N b false sc so z'
    | _ => false)
  | .lit a, t, sc, so, x => pl t x && (match x with
    | .Call (.Name y _) [.Call (.Attribute l g ap) [] [] cp] [] _ => decide (y = "list") && decide (g = "items") && bltB T sc y && noCall l && (ap.endLine == cp.line) && ck T N a false sc so l
    | _ => false)
  | .rev a, t, sc, so, x => pl t x && (match x with
    | .Subscript l (.Slice none none (some (.UnaryOp .USub (.Constant (.int i) _ _) _)) _) _ => decide (i = 1) && ck T N a false sc so l
    | _ => false)
  | .isi a ty, t, sc, so, x => pl t x && (match x with
    | .Call (.Name y _) [z, .Name y' _] [] _ => decide (y = "isinstance") && !ty.own && decide (y' = ty.nm) && bltB T sc y && bltB T sc y' && noStar z && ck T N a false sc so z
    | _ => false)
  | .me m o es, t, sc, so, x => pl t x && (match x with
    | .Call (.Attribute l g ap) zs [] cp => decide (g = m.name) && noCall l && (ap.endLine == cp.line) && zs.all noStar && meB m zs.length && ck T N o false sc so l && cks T N es sc so zs
    | _ => false)
  | .mm m i es, t, sc, so, x => pl t x && (match x with
    | .Call (.Attribute (.Name y _) g ap) (z :: zs) [] cp => decide (g = m.name) && varB sc N i y && (ap.endLine == cp.line) && (z :: zs).all noStar && decide ((z :: zs).length < 20) && cks T N es sc so (z :: zs)
    | _ => false)
  | .call f es, t, sc, so, x => pl t x && (match x with
    | .Call (.Name y _) zs [] _ => glB sc y && decide (T.fns.lookup y = some f) && zs.all noStar && cks T N es sc so zs
    | _ => false)
  | .callK f perm es, t, sc, so, x => pl t x && (match x with
    | .Call (.Name y _) [] ks _ => glB sc y && decide (T.fns.lookup y = some f) && allArg ks && RE.plain es && decide (RE.len es = (argNames ks).length) && decide ((f, argNames ks, perm) ∈ T.kwf) && ckK T N es sc so ks
    | _ => false)
  | .meth c m f o es, t, sc, so, x => pl t x && (match x with
    | .Call (.Attribute l g ap) zs [] cp => (decide (g = m) && noCall l && decide (zs.length < 20) && (ap.endLine == cp.line)) && decide ((c, m, f) ∈ T.mth) && zs.all noStar && ck T N o false sc so l && cks T N es sc so zs
    | _ => false)
  | .prp c f o, t, sc, so, x => pl t x && (match x with
    | .Attribute l g _ => noCall l && decide ((c, g, f) ∈ T.prp) && ck T N o false sc so l
    | _ => false)
  | .make c f es, t, sc, so, x => pl t x && (match x with
    | .Call (.Name y _) (z :: zs) [] _ => glB sc y && decide (T.cls.lookup y = some (c, f)) && (z :: zs).all noStar && cks T N es sc so (z :: zs)
    | _ => false)
  | .mkf c f es, t, sc, so, x => pl t x && (match x with
    | .Call (.Name y _) (z :: zs) [] _ => glB sc y && decide (T.cls.lookup y = some (c, f)) && (z :: zs).all noStar && cks T N es sc so (z :: zs)
    | _ => false)
  | .makeK c f perm es, t, sc, so, x => pl t x && (match x with
    | .Call (.Name y _) [] ks _ => glB sc y && decide (T.cls.lookup y = some (c, f)) && allArg ks && RE.plain es && decide (RE.len es = (argNames ks).length) && decide ((f, argNames ks, perm) ∈ T.kwc) && ckK T N es sc so ks
    | _ => false)
  | .mkfK c f perm es, t, sc, so, x => pl t x && (match x with
    | .Call (.Name y _) [] ks _ => glB sc y && decide (T.cls.lookup y = some (c, f)) && allArg ks && RE.plain es && decide (RE.len es = (argNames ks).length) && decide ((f, argNames ks, perm) ∈ T.kwc) && ckK T N es sc so ks
    | _ => false)
  | .fld c a f, t, sc, so, x => pl t x && (match x with
    | .Attribute l g _ => decide (g = f) && noCall l && decide ((c, g) ∈ T.fld) && ck T N a false sc so l
    | _ => false)
  | .lc vs tg it ifs elt, t, sc, so, x => pl t x && (match x with
    | .ListComp elx [⟨tgx, iter, ifx, asy⟩] scope _ => decide (asy = 0) && notSet iter && (tg.slots.all fun j => decide (j ∈ vs)) && blkB N sc scope vs && ckI T N it sc so tgx iter && ckG T (reS sc scope) scope N tg tgx && ckF T N ifs (reS sc scope) scope ifx && ck T N elt false (reS sc scope) scope elx
    | _ => false)
  | .dc vs tg it rk rv, t, sc, so, x => pl t x && (match x with
    | .DictComp kx vx [⟨tgx, iter, ifx, asy⟩] scope _ => decide (asy = 0) && ifx.isEmpty && notSet iter && (tg.slots.all fun j => decide (j ∈ vs)) && blkB N sc scope vs && ckI T N it sc so tgx iter && ckG T (reS sc scope) scope N tg tgx && ck T N rk false (reS sc scope) scope kx && ck T N rv false (reS sc scope) scope vx
    | _ => false)
  | .idxO i k, t, sc, so, x => pl t x && (match x with
    | .Subscript (.Name y _) (.Constant c _ _) _ => varB sc N i y && litB k c && keyD k
    | _ => false)
  | .frzO i, t, sc, so, x => pl t x && (match x with
    | .Name y _ => varB sc N i y
    | _ => false)
  | .frzE r, t, sc, so, x => pl t x && ck T N r false sc so x
  | .exm c a, t, sc, so, x => pl t x && (match x with
    | .Call (.Name y _) [z] [] _ => glB sc y && decide ((y, c) ∈ T.exc) && noStar z && ck T N a false sc so z
    | _ => false)
  | .erv cs a, t, sc, so, x => pl t x && (match x with
    | .Attribute l g _ => decide (g = "value") && noCall l && (cs.all fun c => T.exc.any fun p => p.2 == c) && ck T N a false sc so l
    | _ => false)
  | .isE a bs yy, t, sc, so, x => pl t x && (match x with
    | .Call (.Name y _) [z, .Name y' _] [] _ => decide (y = "isinstance") && decide (y' = yy) && bltB T sc y && glB sc y' && decide ((yy, bs) ∈ T.isx) && noStar z && ck T N a false sc so z
    | _ => false)
def cks (T : Tab) (N : List Str) : REs → Scope → Scope → List Expr → Bool
  | .nil, sc, so, xs => xs.isEmpty
  | .cons r rs, sc, so, xs => (match xs with
    | x :: xs => noStar x && ck T N r false sc so x && cks T N rs sc so xs
    | _ => false)
  | .star r rs, sc, so, xs => (match xs with
    | .Starred x _ :: xs => ck T N r false sc so x && cks T N rs sc so xs
    | _ => false)
def ckK (T : Tab) (N : List Str) : REs → Scope → Scope → List Keyword → Bool
  | .nil, sc, so, xs => xs.isEmpty
  | .cons r rs, sc, so, xs => (match xs with
    | ⟨_, x, _⟩ :: xs => ck T N r false sc so x && ckK T N rs sc so xs
    | _ => false)
  | .star _ _, sc, so, xs => false
def ckF (T : Tab) (N : List Str) : REs → Scope → Scope → List Expr → Bool
  | .nil, sc, so, xs => xs.isEmpty
  | .cons r rs, sc, so, xs => (match xs with
    | [x] => (match rs with
      | .nil => ck T N r true sc so x
      | _ => false)
    | _ => false)
  | .star _ _, sc, so, xs => false
def ckD (T : Tab) (N : List Str) : REs → Scope → Scope → List (Option Expr) → List Expr → Bool
  | .nil, sc, so, ks, vs => ks.isEmpty && vs.isEmpty
  | .cons rk q, sc, so, ks, vs => (match q with
    | .cons rv rs => (match ks, vs with
      | some kx :: ks, vx :: vs => ck T N rk false sc so kx && ck T N rv false sc so vx && ckD T N rs sc so ks vs
      | _, _ => false)
    | _ => false)
  | .star _ _, _, _, _, _ => false
def ckO (T : Tab) (N : List Str) : RO → Scope → Scope → Option Expr → Bool
  | .non, sc, so, x => x.isNone
  | .som r, sc, so, x => (match x with
    | some x => ck T N r false sc so x
    | none => false)
def ckI (T : Tab) (N : List Str) : RI → Scope → Scope → Expr → Expr → Bool
  | .e r, sc, so, tg, x => ck T N r false sc so x
  | .rng1 r, sc, so, tg, x => (match x with
    | .Call (.Name y _) [z] [] _ => decide (y = "range") && bltB T sc y && noStar z && ck T N r false sc so z
    | _ => false)
  | .rng2 r r', sc, so, tg, x => (match x with
    | .Call (.Name y _) [z, z'] [] _ => decide (y = "range") && bltB T sc y && noStar z && noStar z' && ck T N r false sc so z && ck T N r' false sc so z'
    | _ => false)
  | .enum r, sc, so, tg, x => isTup tg && (match x with
    | .Call (.Name y _) [z] [] _ => decide (y = "enumerate") && bltB T sc y && noStar z && ck T N r false sc so z
    | _ => false)
  | .zip r r', sc, so, tg, x => isTup tg && (match x with
    | .Call (.Name y _) [z, z'] [] _ => decide (y = "zip") && bltB T sc y && noStar z && noStar z' && ck T N r false sc so z && ck T N r' false sc so z'
    | _ => false)
end
end R
end
section
set_option linter.all false
set_option maxRecDepth 100000
set_option maxHeartbeats 4000000
/-! R17: the check of expressions is right. -/
namespace R
open PySem PySem.Spec PyProof.Rows L2
def J (X : Cx) (cl : Nat → Addr) (C : CallF) (r : RE) (t : Bool) (x : Expr) : Prop := match t with
  | true => ST X cl x (evalT C r) ∧ (isBO x = true → SW X cl x (evalT C r))
  | false => SE X cl x (evalE C r) ∧ (isNew r = true → SN X cl x (evalE C r))
def isTst : RE → Bool
  | .and_ _ _ => true
  | .or_ _ _ => true
  | .not_ _ => true
  | _ => false
theorem dflt {C : CallF} {r : RE} (h : isTst r = false) (env : Env) (S : Sto) : evalT C r env S = (evalE C r env S).bind fun v S => match rd S v with | some d => ofO (truD d) S | none => .bad := by
  cases r <;> first | (cases h; done) | (simp only [evalT]; done) | (simp only [evalT]; rfl)
section
variable {X : Cx} {cl : Nat → Addr} {C : CallF} {T : Tab} {k : Nat} {sc so scope : Scope} {N : List Str} {y : Str} {r : RE} {x : Expr} {t : Bool}
theorem j_of (hp : pl t x = true) (h : isTst r = false) (he : SE X cl x (evalE C r)) (hn : isNew r = true → SN X cl x (evalE C r)) : J X cl C r t x := by
  cases t with
  | false => exact ⟨he, hn⟩
  | true =>
    have hp : plainT x = true := hp
    refine ⟨st_truth hp (dflt h) he, fun z => ?_⟩
    cases x <;> first | (cases z; done) | (cases hp; done)
theorem j_of' (hp : pl t x = true) (h : isTst r = false) (hw : isNew r = false) (he : SE X cl x (evalE C r)) : J X cl C r t x := j_of hp h he fun z => by rw [hw] at z; cases z
theorem j_nw (hp : pl t x = true) (h : isTst r = false) (hn : SN X cl x (evalE C r)) : J X cl C r t x := j_of hp h (se_of_sn hn) fun _ => hn
theorem and2 {a b : Bool} (h : (a && b) = true) : a = true ∧ b = true := Bool.and_eq_true_iff.mp h
theorem se_lit {d : D} {c : Const} {j : Nat} {p : Pos} (h : litB d c = true) : SE X cl (.Constant c j p) (evalE C (.cn d)) := by
  unfold litB at h
  split at h
  · exact se_const pe_non fun _ => rfl
  · rw [eq_of_beq h]; exact se_const pe_bl fun _ => rfl
  · rw [of_decide_eq_true h]; exact se_const pe_int fun _ => rfl
  · rw [of_decide_eq_true h]; exact se_const pe_str fun _ => rfl
  · cases h
theorem sk_nil : SK X cl [] (evalEs C .nil) := by
  refine ⟨fun pos pins s σ H Q I h => ?_⟩
  refine pk_nil.run pos pins s σ H Q I ?_
  obtain ⟨env, S, G, ι, rp, re, po⟩ := h
  rw [evalEs] at po
  exact po [] H G ι rp .refl .nil
theorem sk_cons {nm : Option Str} {kp : Pos} {rs : REs} {ks : List Keyword} (he : SE X cl x (evalE C r)) (hr : SK X cl ks (evalEs C rs)) : SK X cl (⟨nm, x, kp⟩ :: ks) (evalEs C (.cons r rs)) := by
  refine ⟨fun pos pins s σ H Q I h => ?_⟩
  refine (pk_cons he hr).run pos pins s σ H Q I ?_
  obtain ⟨env, S, G, ι, rp, re, po⟩ := h
  rw [evalEs] at po
  refine ⟨env, S, G, ι, rp, re, Post.seq po fun sv S1 v H1 G1 ι1 e1 rp1 ex1 r1 po1 => ⟨env, S1, G1, ι1, rp1, re.up ex1, ?_⟩⟩
  refine Post.seq (Post.up po1 ex1 (fun _ _ _ _ _ h => h)) fun svs S2 vs H2 G2 ι2 e2 rp2 ex2 r2 po2 => ?_
  exact (Post.up po2 ex2 (fun _ _ _ _ _ h => h)) (v :: vs) H2 G2 ι2 rp2 .refl (.cons (RepS.up r1 ex2) r2)
theorem meth_ht {l : Expr} {m : Str} {ap cp : Pos} {zs : List Expr} {env : PySem.Env} (h : noCall l = true) (h2 : zs.all noStar = true) (h3 : zs.length < 20) (h4 : (ap.endLine == cp.line) = true) :
    eval (.Call (.Attribute l m ap) zs [] cp) env = (eval l env >>= fun ov => (standAt ap.atName >>= fun _ => (holding [ov] (getMethod ov m (do return (← importBound l env).getD true)) >>= fun fm => callWith cp fm.1 fm.2 (backTo cp (starEach zs env)) (backToKw cp (keywordEach [] env))))) := by
  have few : methodCallForm (zs.length + ([] : List Keyword).length) (backTo cp (starEach zs env)) (backToKw cp (keywordEach [] env)) = true := few_ok h2 h3
  have e1 : eval (.Call (.Attribute l m ap) zs [] cp) env = (attributeBase l m env (eval l env) >>= fun ov => (standAt ap.atName >>= fun _ => methodCall l m ap cp env ov (zs.length + ([] : List Keyword).length) (backTo cp (starEach zs env)) (backToKw cp (keywordEach [] env)))) := rfl
  rw [e1, base_of h]
  unfold methodCall
  rw [few]
  unfold methodCallPos calleeOf
  rw [h4]
  rfl
theorem key_lit {k : D} {c : Const} {j : Nat} {p : Pos} (h : litB k c = true) (hk : keyD k = true) : ∃ κ, keyRep k κ ∧ PE X (.Constant c j p) (tC (kV κ)) := by
  unfold litB at h
  split at h
  · cases hk
  · cases hk
  · rw [of_decide_eq_true h]; exact ⟨_, rfl, pe_int⟩
  · rw [of_decide_eq_true h]; exact ⟨_, rfl, pe_str⟩
  · cases h
theorem noSl_const {c : Const} {j : Nat} {p : Pos} : NoSl (.Constant c j p) := by
  first | rfl | (intros; rfl) | (unfold NoSl; intros; rfl)
mutual
theorem ck_ok : ∀ (r : RE) {t : Bool} {sc so : Scope} {x : Expr} {X : Cx}, Gd X sc so N k → FactsX X cl C T k → ck T N r t sc so x = true → J X cl C r t x
  | .var i, t, sc, so, x, X, g, F, h => by
    unfold ck at h
    obtain ⟨hp, h⟩ := and2 h
    split at h
    · obtain ⟨h1, h2, h3, h4⟩ := g.var h
      exact j_of' hp rfl rfl (se_var h1 h2 h3 h4)
    · cases h
  | .frz i, t, sc, so, x, X, g, F, h => by
    unfold ck at h
    obtain ⟨hp, h⟩ := and2 h
    split at h
    · obtain ⟨h1, h2, h3, h4⟩ := g.var h
      exact j_of' hp rfl rfl (se_frz h1 h2 h3 h4)
    · cases h
  | .cn d, t, sc, so, x, X, g, F, h => by
    unfold ck at h
    obtain ⟨hp, h⟩ := and2 h
    split at h
    · exact j_of' hp rfl rfl (se_lit h)
    · cases h
  | .gl d, t, sc, so, x, X, g, F, h => by
    unfold ck at h
    obtain ⟨hp, h⟩ := and2 h
    split at h
    · obtain ⟨h1, h2⟩ := and2 h
      obtain ⟨h3, h4⟩ := g.gl h1
      obtain ⟨v, u, h5, h6, h7⟩ := F.con _ _ (conB_ok h2)
      exact j_of' hp rfl rfl (se_glob (pe_glob h3 h5 h6 h4) h7)
    · cases h
  | .op o a b, t, sc, so, x, X, g, F, h => by
    unfold ck at h
    obtain ⟨hp, h⟩ := and2 h
    split at h
    · obtain ⟨h, h3⟩ := and2 h
      obtain ⟨h1, h2⟩ := and2 h
      cases opB_ok h1
      exact j_of' hp rfl rfl (se_op (ck_ok a g F h2).1 (ck_ok b g F h3).1)
    · cases h
  | .neg a, t, sc, so, x, X, g, F, h => by
    unfold ck at h
    obtain ⟨hp, h⟩ := and2 h
    split at h
    · obtain ⟨h1, h2⟩ := and2 h
      split at h1
      · exact j_of' hp rfl rfl (se_neg (ck_ok a g F h2).1)
      · cases h1
    · cases h
  | .not_ a, t, sc, so, x, X, g, F, h => by
    unfold ck at h
    split at h
    · obtain ⟨h1, h2⟩ := and2 h
      split at h1
      · cases t with
        | true => exact ⟨st_not (ck_ok a g F h2).1, fun z => by cases z⟩
        | false => exact ⟨se_not (ck_ok a g F h2).1, fun z => by cases z⟩
      · cases h1
    · cases h
  | .cmp o a b, t, sc, so, x, X, g, F, h => by
    unfold ck at h
    split at h
    · split at h
      · split at h
        · obtain ⟨h, h4⟩ := and2 h
          obtain ⟨h, h3⟩ := and2 h
          obtain ⟨h1, h2⟩ := and2 h
          cases cmB_ok h1
          cases t with
          | true => exact ⟨st_cmp g.room h2 (ck_ok a g F h3).1 (ck_ok b g F h4).1, fun z => by cases z⟩
          | false => exact ⟨se_cmp g.room h2 (ck_ok a g F h3).1 (ck_ok b g F h4).1, fun z => by cases z⟩
        · cases h
      · cases h
    · cases h
  | .chain o1 o2 a b c, t, sc, so, x, X, g, F, h => by
    unfold ck at h
    split at h
    · split at h
      · split at h
        · obtain ⟨h, h6⟩ := and2 h
          obtain ⟨h, h5⟩ := and2 h
          obtain ⟨h, h4⟩ := and2 h
          obtain ⟨h, h3⟩ := and2 h
          obtain ⟨h1, h2⟩ := and2 h
          cases cmB_ok h1
          cases cmB_ok h2
          cases t with
          | true => exact ⟨st_chain g.room h3 (ck_ok a g F h4).1 (ck_ok b g F h5).1 (ck_ok c g F h6).1, fun z => by cases z⟩
          | false => exact ⟨se_chain g.room h3 (ck_ok a g F h4).1 (ck_ok b g F h5).1 (ck_ok c g F h6).1, fun z => by cases z⟩
        · cases h
      · cases h
    · cases h
  | .and_ a b, t, sc, so, x, X, g, F, h => by
    unfold ck at h
    split at h
    · split at h
      · split at h
        · obtain ⟨h1, h2⟩ := and2 h
          have ja := ck_ok a g F h1
          split at h2
          · have jb := ck_ok b g F h2
            cases t with
            | true =>
              exact ⟨PW.pt (sw_and ja.1 (sw_one jb.1)), fun _ => sw_and ja.1 (sw_one jb.1)⟩
            | false => exact ⟨se_and ja.1 (se_one jb.1), fun z => by cases z⟩
          · have jb := ck_ok b g F h2
            cases t with
            | true =>
              exact ⟨PW.pt (sw_and ja.1 (jb.2 rfl)), fun _ => sw_and ja.1 (jb.2 rfl)⟩
            | false => exact ⟨se_and ja.1 jb.1, fun z => by cases z⟩
        · cases h
      · cases h
    · cases h
  | .or_ a b, t, sc, so, x, X, g, F, h => by
    unfold ck at h
    split at h
    · split at h
      · split at h
        · obtain ⟨h1, h2⟩ := and2 h
          have ja := ck_ok a g F h1
          split at h2
          · have jb := ck_ok b g F h2
            cases t with
            | true =>
              exact ⟨PW.pt (sw_or ja.1 (sw_one jb.1)), fun _ => sw_or ja.1 (sw_one jb.1)⟩
            | false => exact ⟨se_or ja.1 (se_one jb.1), fun z => by cases z⟩
          · have jb := ck_ok b g F h2
            cases t with
            | true =>
              exact ⟨PW.pt (sw_or ja.1 (jb.2 rfl)), fun _ => sw_or ja.1 (jb.2 rfl)⟩
            | false => exact ⟨se_or ja.1 jb.1, fun z => by cases z⟩
        · cases h
      · cases h
    · cases h
  | .ife c a b, t, sc, so, x, X, g, F, h => by
    unfold ck at h
    obtain ⟨hp, h⟩ := and2 h
    split at h
    · obtain ⟨h, h3⟩ := and2 h
      obtain ⟨h1, h2⟩ := and2 h
      exact j_of' hp rfl rfl (se_ife (ck_ok c g F h1).1 (ck_ok a g F h2).1 (ck_ok b g F h3).1)
    · cases h
  | .tup es, t, sc, so, x, X, g, F, h => by
    unfold ck at h
    obtain ⟨hp, h⟩ := and2 h
    split at h
    · exact j_of' hp rfl rfl (se_tup (cks_ok es g F h))
    · cases h
  | .lst es, t, sc, so, x, X, g, F, h => by
    unfold ck at h
    obtain ⟨hp, h⟩ := and2 h
    split at h
    · exact j_nw hp rfl (sn_lst (cks_ok es g F h))
    · cases h
  | .new r, t, sc, so, x, X, g, F, h => by
    unfold ck at h
    obtain ⟨h, h2⟩ := and2 h
    obtain ⟨hp, h1⟩ := and2 h
    exact j_of' hp rfl rfl (se_new ((ck_ok r g F h2).2 h1))
  | .dsp es, t, sc, so, x, X, g, F, h => by
    unfold ck at h
    obtain ⟨hp, h⟩ := and2 h
    split at h
    · rename_i ks vs p _
      obtain ⟨h1, h2⟩ := and2 h
      have hd := ckD_ok es g F h2
      cases ks with
      | nil =>
        cases es with
        | nil =>
          unfold ckD at h2
          cases (List.isEmpty_iff.mp (and2 h2).2)
          exact j_nw hp rfl sn_dsp0
        | cons r q =>
          unfold ckD at h2
          split at h2
          · cases h2
          · cases h2
        | star _ _ => unfold ckD at h2; cases h2
      | cons k1 ks => exact j_nw hp rfl (sn_dsp (by simp) (of_decide_eq_true h1) hd)
    · cases h
  | .idx a i, t, sc, so, x, X, g, F, h => by
    unfold ck at h
    obtain ⟨hp, h⟩ := and2 h
    split at h
    · obtain ⟨h, h3⟩ := and2 h
      obtain ⟨h1, h2⟩ := and2 h
      exact j_of' hp rfl rfl (se_idx g.room h1 (ck_ok a g F h2).1 (ck_ok i g F h3).1)
    · cases h
  | .sl a lo hi, t, sc, so, x, X, g, F, h => by
    unfold ck at h
    obtain ⟨hp, h⟩ := and2 h
    split at h
    · split at h
      · obtain ⟨h, h4⟩ := and2 h
        obtain ⟨h, h3⟩ := and2 h
        obtain ⟨h1, h2⟩ := and2 h
        cases (Option.isNone_iff_eq_none.mp h1)
        exact j_of' hp rfl rfl (se_sl (ck_ok a g F h2).1 (ckO_ok lo g F h3) (ckO_ok hi g F h4))
      · cases h
    · cases h
  | .bi f es, t, sc, so, x, X, g, F, h => by
    unfold ck at h
    obtain ⟨hp, h⟩ := and2 h
    split at h
    · rename_i gx zs ks p _
      split at h
      · obtain ⟨h, h6⟩ := and2 h
        obtain ⟨h, h5⟩ := and2 h
        obtain ⟨h, h4⟩ := and2 h
        obtain ⟨h, h3⟩ := and2 h
        obtain ⟨h1, h2⟩ := and2 h
        obtain ⟨b1, b2⟩ := g.blt F h2
        cases (of_decide_eq_true h1)
        cases (List.isEmpty_iff.mp h3)
        cases zs with
        | nil => cases h4
        | cons z zs =>
          have ha := cks_ok es g F h6
          cases hf : f.new with
          | true => exact j_nw hp rfl (sn_bif hf g.calm h5 b1 b2 ha)
          | false => exact j_of' hp rfl hf (se_bif hf g.calm g.cA g.room h5 b1 b2 ha)
      · cases h
    · cases h
  | .lrg a, t, sc, so, x, X, g, F, h => by
    unfold ck at h
    obtain ⟨hp, h⟩ := and2 h
    split at h
    · obtain ⟨h, h6⟩ := and2 h
      obtain ⟨h, h5⟩ := and2 h
      obtain ⟨h, h4⟩ := and2 h
      obtain ⟨h, h3⟩ := and2 h
      obtain ⟨h1, h2⟩ := and2 h
      cases (of_decide_eq_true h1)
      cases (of_decide_eq_true h2)
      obtain ⟨b1, b2⟩ := g.blt F h3
      obtain ⟨b3, b4⟩ := g.blt F h4
      exact j_nw hp rfl (sn_lrg g.calm b1 b2 b3 b4 h5 (ck_ok a g F h6).1)
    · cases h
  | .lrg2 a b, t, sc, so, x, X, g, F, h => by
    unfold ck at h
    obtain ⟨hp, h⟩ := and2 h
    split at h
    · obtain ⟨h, h8⟩ := and2 h
      obtain ⟨h, h7⟩ := and2 h
      obtain ⟨h, h6⟩ := and2 h
      obtain ⟨h, h5⟩ := and2 h
      obtain ⟨h, h4⟩ := and2 h
      obtain ⟨h, h3⟩ := and2 h
      obtain ⟨h1, h2⟩ := and2 h
      cases (of_decide_eq_true h1)
      cases (of_decide_eq_true h2)
      obtain ⟨b1, b2⟩ := g.blt F h3
      obtain ⟨b3, b4⟩ := g.blt F h4
      exact j_nw hp rfl (sn_lrg2 g.calm b1 b2 b3 b4 h5 h6 (ck_ok a g F h7).1 (ck_ok b g F h8).1)
    · cases h
  | .lit a, t, sc, so, x, X, g, F, h => by
    unfold ck at h
    obtain ⟨hp, h⟩ := and2 h
    split at h
    · obtain ⟨h, h6⟩ := and2 h
      obtain ⟨h, h5⟩ := and2 h
      obtain ⟨h, h4⟩ := and2 h
      obtain ⟨h, h3⟩ := and2 h
      obtain ⟨h1, h2⟩ := and2 h
      cases (of_decide_eq_true h1)
      cases (of_decide_eq_true h2)
      obtain ⟨b1, b2⟩ := g.blt F h3
      exact j_nw hp rfl (sn_lit g.calm b1 b2 h4 h5 (ck_ok a g F h6).1)
    · cases h
  | .rev a, t, sc, so, x, X, g, F, h => by
    unfold ck at h
    obtain ⟨hp, h⟩ := and2 h
    split at h
    · obtain ⟨h1, h2⟩ := and2 h
      cases (of_decide_eq_true h1)
      exact j_of' hp rfl rfl (se_rev (ck_ok a g F h2).1)
    · cases h
  | .isi a ty, t, sc, so, x, X, g, F, h => by
    unfold ck at h
    obtain ⟨hp, h⟩ := and2 h
    split at h
    · obtain ⟨h, h7⟩ := and2 h
      obtain ⟨h, h6⟩ := and2 h
      obtain ⟨h, h5⟩ := and2 h
      obtain ⟨h, h4⟩ := and2 h
      obtain ⟨h, h3⟩ := and2 h
      obtain ⟨h1, h2⟩ := and2 h
      cases (of_decide_eq_true h1)
      cases (of_decide_eq_true h3)
      obtain ⟨b1, b2⟩ := g.blt F h4
      obtain ⟨b3, b4⟩ := g.blt F h5
      exact j_of' hp rfl rfl (se_isi (by simpa using h2) h6 b1 b2 b3 b4 (ck_ok a g F h7).1)
    · cases h
  | .me m o es, t, sc, so, x, X, g, F, h => by
    unfold ck at h
    obtain ⟨hp, h⟩ := and2 h
    split at h
    · rename_i l gn ap zs cp _
      obtain ⟨h, h7⟩ := and2 h
      obtain ⟨h, h6⟩ := and2 h
      obtain ⟨h, h5⟩ := and2 h
      obtain ⟨h, h4⟩ := and2 h
      obtain ⟨h, h3⟩ := and2 h
      obtain ⟨h1, h2⟩ := and2 h
      cases (of_decide_eq_true h1)
      have ho := (ck_ok o g F h6).1
      refine j_of' hp rfl rfl ?_
      cases es with
      | star _ _ => 
        cases zs with
        | nil => unfold cks at h7; cases h7
        | cons z zs =>
          unfold cks at h7
          split at h7
          · rename_i e1; cases e1; cases (and2 h4).1
          · cases h7
      | nil => 
        unfold cks at h7
        cases (List.isEmpty_iff.mp h7)
        cases m <;> cases h5
      | cons r1 rs =>
        unfold cks at h7
        split at h7
        · rename_i z zs' _
          obtain ⟨h7, h8⟩ := and2 h7
          obtain ⟨h9, h10⟩ := and2 h7
          have hz := (ck_ok r1 g F h10).1
          cases rs with
          | nil =>
            unfold cks at h8
            cases (List.isEmpty_iff.mp h8)
            cases m with
            | index => exact se_meIndex g.room h2 h9 h3 ho hz
            | get => exact se_meGet1 g.room h2 h9 h3 ho hz
            | split => exact se_meStr (.inl rfl) h2 h9 h3 ho hz
            | join => exact se_meStr (.inr rfl) h2 h9 h3 ho hz
            | count => exact se_meCount g.room h2 h9 h3 ho hz
          | star _ _ =>
            unfold cks at h8
            split at h8
            · cases (and2 (and2 h4).2).1
            · cases h8
          | cons r2 rs =>
            unfold cks at h8
            split at h8
            · rename_i z2 zs2 _ _
              obtain ⟨h8, h11⟩ := and2 h8
              obtain ⟨h12, h13⟩ := and2 h8
              cases zs2 with
              | cons _ _ => cases m <;> cases h5
              | nil =>
                cases rs with
                | nil =>
                  cases m with
                  | get => exact se_meGet2 g.room h2 h9 h12 h3 ho hz (ck_ok r2 g F h13).1
                  | _ => cases h5
                | cons _ _ => unfold cks at h11; cases h11
                | star _ _ => unfold cks at h11; cases h11
            · cases h8
        · cases h7
    · cases h
  | .mm m i es, t, sc, so, x, X, g, F, h => by
    unfold ck at h
    obtain ⟨hp, h⟩ := and2 h
    split at h
    · obtain ⟨h, h6⟩ := and2 h
      obtain ⟨h, h5⟩ := and2 h
      obtain ⟨h, h4⟩ := and2 h
      obtain ⟨h, h3⟩ := and2 h
      obtain ⟨h1, h2⟩ := and2 h
      cases (of_decide_eq_true h1)
      obtain ⟨v1, v2, v3, v4⟩ := g.var h2
      exact j_of' hp rfl rfl (se_mm v1 v2 v3 v4 h4 (of_decide_eq_true h5) h3 (cks_ok es g F h6))
    · cases h
  | .call f es, t, sc, so, x, X, g, F, h => by
    unfold ck at h
    obtain ⟨hp, h⟩ := and2 h
    split at h
    · rename_i y p zs cp _
      obtain ⟨h, h4⟩ := and2 h
      obtain ⟨h, h3⟩ := and2 h
      obtain ⟨h1, h2⟩ := and2 h
      obtain ⟨b1, b2⟩ := g.gl h1
      obtain ⟨n, fa, fd, ps, ar, fg, c1, c2, c3, _⟩ := F.fn _ _ (of_decide_eq_true h2)
      refine j_of' hp rfl rfl ?_
      have ha := cks_ok es g F h4
      cases zs with
      | nil =>
        cases es with
        | nil => exact se_call0 ar fg g.cA (g.room.mono (Nat.le_succ _)) b1 c1 c2 c3 b2
        | cons _ _ => unfold cks at h4; cases h4
        | star _ _ => unfold cks at h4; cases h4
      | cons z zs => exact se_call ar fg g.cA (g.room.mono (Nat.le_succ _)) b1 c1 c2 c3 b2 h3 ha
    · cases h
  | .callK f perm es, t, sc, so, x, X, g, F, h => by
    unfold ck at h
    obtain ⟨hp, h⟩ := and2 h
    split at h
    · obtain ⟨h, h7⟩ := and2 h
      obtain ⟨h, h6⟩ := and2 h
      obtain ⟨h, h5⟩ := and2 h
      obtain ⟨h, h4⟩ := and2 h
      obtain ⟨h, h3⟩ := and2 h
      obtain ⟨h1, h2⟩ := and2 h
      obtain ⟨b1, b2⟩ := g.gl h1
      obtain ⟨n, fa, fd, ps, ar, fg, c1, c2, c3, c4⟩ := F.fn _ _ (of_decide_eq_true h2)
      exact j_of' hp rfl rfl (se_callK ar fg g.cA (g.room.mono (Nat.le_succ _)) b1 c1 c2 (c4 _ (of_decide_eq_true h6) rfl) (ckK_ok es g F h7) h4 (of_decide_eq_true h5) (by rw [kw_all]; exact h3) kw_names b2 (kw_none h3))
    · cases h
  | .meth c m f o es, t, sc, so, x, X, g, F, h => by
    unfold ck at h
    obtain ⟨hp, h⟩ := and2 h
    split at h
    · rename_i l gn ap zs cp _
      obtain ⟨h, h5⟩ := and2 h
      obtain ⟨h, h4⟩ := and2 h
      obtain ⟨h, h3⟩ := and2 h
      obtain ⟨h1, h2⟩ := and2 h
      obtain ⟨h1, hli⟩ := and2 h1
      obtain ⟨h1, hle⟩ := and2 h1
      obtain ⟨h1, hnc⟩ := and2 h1
      cases (of_decide_eq_true h1)
      obtain ⟨n, fa, fd, ps, ar, fg, c1, c2, c3⟩ := F.mth _ _ _ (of_decide_eq_true h2)
      refine j_of' hp rfl rfl ?_
      have ho := (ck_ok o g F h4).1
      have ha := cks_ok es g F h5
      cases zs with
      | nil =>
        cases es with
        | nil => exact se_meth0 ar fg g.cA (g.room.mono (Nat.le_succ _)) c1 c2 c3 ho (meth_ht hnc h3 (of_decide_eq_true hle) hli)
        | cons _ _ => unfold cks at h5; cases h5
        | star _ _ => unfold cks at h5; cases h5
      | cons z zs => exact se_meth ar fg g.cA (g.room.mono (Nat.le_succ _)) c1 c2 c3 ho h3 ha (meth_ht hnc h3 (of_decide_eq_true hle) hli)
    · cases h
  | .prp c f o, t, sc, so, x, X, g, F, h => by
    unfold ck at h
    obtain ⟨hp, h⟩ := and2 h
    split at h
    · obtain ⟨h, h3⟩ := and2 h
      obtain ⟨h1, h2⟩ := and2 h
      obtain ⟨n, fa, fd, ps, pr, ar, fg, c1, c2, c3⟩ := F.prp _ _ _ (of_decide_eq_true h2)
      exact j_of' hp rfl rfl (se_prp ar fg g.cA g.room c1 c2 c3 (ck_ok o g F h3).1 (base_of h1))
    · cases h
  | .make c f es, t, sc, so, x, X, g, F, h => by
    unfold ck at h
    obtain ⟨hp, h⟩ := and2 h
    split at h
    · obtain ⟨h, h4⟩ := and2 h
      obtain ⟨h, h3⟩ := and2 h
      obtain ⟨h1, h2⟩ := and2 h
      obtain ⟨b1, b2⟩ := g.gl h1
      obtain ⟨n, fa, fd, ps, ar, c0, fg, c1, c2, _⟩ := F.cls _ _ _ (of_decide_eq_true h2)
      exact j_of' hp rfl rfl (se_make ar c0 fg g.cA g.room b1 c1 c2 b2 h3 (cks_ok es g F h4))
    · cases h
  | .mkf c f es, t, sc, so, x, X, g, F, h => by
    unfold ck at h
    obtain ⟨hp, h⟩ := and2 h
    split at h
    · obtain ⟨h, h4⟩ := and2 h
      obtain ⟨h, h3⟩ := and2 h
      obtain ⟨h1, h2⟩ := and2 h
      obtain ⟨b1, b2⟩ := g.gl h1
      obtain ⟨n, fa, fd, ps, ar, c0, fg, c1, c2, _⟩ := F.cls _ _ _ (of_decide_eq_true h2)
      exact j_of' hp rfl rfl (se_mkf ar c0 fg g.cA g.room b1 c1 c2 b2 h3 (cks_ok es g F h4))
    · cases h
  | .makeK c f perm es, t, sc, so, x, X, g, F, h => by
    unfold ck at h
    obtain ⟨hp, h⟩ := and2 h
    split at h
    · obtain ⟨h, h7⟩ := and2 h
      obtain ⟨h, h6⟩ := and2 h
      obtain ⟨h, h5⟩ := and2 h
      obtain ⟨h, h4⟩ := and2 h
      obtain ⟨h, h3⟩ := and2 h
      obtain ⟨h1, h2⟩ := and2 h
      obtain ⟨b1, b2⟩ := g.gl h1
      obtain ⟨n, fa, fd, ps, ar, c0, fg, c1, c2, c4⟩ := F.cls _ _ _ (of_decide_eq_true h2)
      exact j_of' hp rfl rfl (se_makeK ar c0 fg g.cA g.room b1 c1 (c4 _ (of_decide_eq_true h6) rfl) (ckK_ok es g F h7) h4 (of_decide_eq_true h5) (by rw [kw_all]; exact h3) kw_names b2 (kw_none h3))
    · cases h
  | .mkfK c f perm es, t, sc, so, x, X, g, F, h => by
    unfold ck at h
    obtain ⟨hp, h⟩ := and2 h
    split at h
    · obtain ⟨h, h7⟩ := and2 h
      obtain ⟨h, h6⟩ := and2 h
      obtain ⟨h, h5⟩ := and2 h
      obtain ⟨h, h4⟩ := and2 h
      obtain ⟨h, h3⟩ := and2 h
      obtain ⟨h1, h2⟩ := and2 h
      obtain ⟨b1, b2⟩ := g.gl h1
      obtain ⟨n, fa, fd, ps, ar, c0, fg, c1, c2, c4⟩ := F.cls _ _ _ (of_decide_eq_true h2)
      exact j_of' hp rfl rfl (se_mkfK ar c0 fg g.cA g.room b1 c1 (c4 _ (of_decide_eq_true h6) rfl) (ckK_ok es g F h7) h4 (of_decide_eq_true h5) (by rw [kw_all]; exact h3) kw_names b2 (kw_none h3))
    · cases h
  | .fld c a f, t, sc, so, x, X, g, F, h => by
    unfold ck at h
    obtain ⟨hp, h⟩ := and2 h
    split at h
    · obtain ⟨h, h4⟩ := and2 h
      obtain ⟨h, h3⟩ := and2 h
      obtain ⟨h1, h2⟩ := and2 h
      cases (of_decide_eq_true h1)
      obtain ⟨c1, c2⟩ := F.fld _ _ (of_decide_eq_true h3)
      exact j_of' hp rfl rfl (se_fld c1 c2 (ck_ok a g F h4).1 (base_of h2))
    · cases h
  | .lc vs tg it ifs elt, t, sc, so, x, X, g, F, h => by
    unfold ck at h
    obtain ⟨hp, h⟩ := and2 h
    split at h
    · obtain ⟨h, h8⟩ := and2 h
      obtain ⟨h, h7⟩ := and2 h
      obtain ⟨h, h6⟩ := and2 h
      obtain ⟨h, h5⟩ := and2 h
      obtain ⟨h, h4⟩ := and2 h
      obtain ⟨h, h3⟩ := and2 h
      obtain ⟨h1, h2⟩ := and2 h
      cases (of_decide_eq_true h1)
      obtain ⟨own, rfl, bk⟩ := g.blkOk h4
      have gb := g.blk
      refine j_nw hp rfl (sn_lc g.calm (by rw [g.eN]; exact g.nod) (fun j hj => of_decide_eq_true (List.all_eq_true.mp h3 j hj)) (ckI_ok it g F h5) bk (fun s H L c fp => ckG_ok (g.blk _ s H L c fp) F tg _ h6) (fun s H L c fp => ckF_ok ifs (g.blk _ s H L c fp) F h7) (fun s H L c fp => (ck_ok elt (g.blk _ s H L c fp) F h8).1) (folded_of h2))
    · cases h
  | .dc vs tg it rk rv, t, sc, so, x, X, g, F, h => by
    unfold ck at h
    obtain ⟨hp, h⟩ := and2 h
    split at h
    · obtain ⟨h, h9⟩ := and2 h
      obtain ⟨h, h8⟩ := and2 h
      obtain ⟨h, h7⟩ := and2 h
      obtain ⟨h, h6⟩ := and2 h
      obtain ⟨h, h5⟩ := and2 h
      obtain ⟨h, h4⟩ := and2 h
      obtain ⟨h, h3⟩ := and2 h
      obtain ⟨h1, h2⟩ := and2 h
      cases (of_decide_eq_true h1)
      cases (List.isEmpty_iff.mp h2)
      obtain ⟨own, rfl, bk⟩ := g.blkOk h5
      refine j_nw hp rfl (sn_dc g.calm (by rw [g.eN]; exact g.nod) (fun j hj => of_decide_eq_true (List.all_eq_true.mp h4 j hj)) (ckI_ok it g F h6) bk (fun s H L c fp => ckG_ok (g.blk _ s H L c fp) F tg _ h7) (fun s H L c fp => (ck_ok rk (g.blk _ s H L c fp) F h8).1) (fun s H L c fp => (ck_ok rv (g.blk _ s H L c fp) F h9).1) (folded_of h3))
    · cases h
  | .idxO i k, t, sc, so, x, X, g, F, h => by
    unfold ck at h
    obtain ⟨hp, h⟩ := and2 h
    split at h
    · obtain ⟨h, h3⟩ := and2 h
      obtain ⟨h1, h2⟩ := and2 h
      obtain ⟨v1, v2, v3, v4⟩ := g.var h1
      obtain ⟨κ, k1, k2⟩ := key_lit (X := X) h2 h3
      exact j_of' hp rfl rfl (se_idxO g.room v1 v2 v3 v4 k1 k2 noSl_const)
    · cases h
  | .frzO i, t, sc, so, x, X, g, F, h => by
    unfold ck at h
    obtain ⟨hp, h⟩ := and2 h
    split at h
    · obtain ⟨h1, h2, h3, h4⟩ := g.var h
      exact j_of' hp rfl rfl (se_frzO h1 h2 h3 h4)
    · cases h
  | .frzE r, t, sc, so, x, X, g, F, h => by
    unfold ck at h
    obtain ⟨hp, h⟩ := and2 h
    exact j_of' hp rfl rfl (se_frzE (ck_ok r g F h).1)
  | .exm c a, t, sc, so, x, X, g, F, h => by
    unfold ck at h
    obtain ⟨hp, h⟩ := and2 h
    split at h
    · obtain ⟨h, h4⟩ := and2 h
      obtain ⟨h, h3⟩ := and2 h
      obtain ⟨h1, h2⟩ := and2 h
      have h2 := of_decide_eq_true h2
      obtain ⟨g1, g2⟩ := g.gl h1
      obtain ⟨D, fI, fd, f1, f2, f3⟩ := F.exc
      obtain ⟨e1, e2, e3⟩ := f2 (fun z => by rw [z] at h2; cases h2)
      obtain ⟨e4, e5⟩ := f1 _ h2
      exact j_of' hp rfl rfl (se_exm e5 e1 e2 g.cA g.room e3 g1 e4 g2 h3 (ck_ok a g F h4).1)
    · cases h
  | .erv cs a, t, sc, so, x, X, g, F, h => by
    unfold ck at h
    obtain ⟨hp, h⟩ := and2 h
    split at h
    · obtain ⟨h, h4⟩ := and2 h
      obtain ⟨h, h3⟩ := and2 h
      obtain ⟨h1, h2⟩ := and2 h
      cases of_decide_eq_true h1
      obtain ⟨D, fI, fd, f1, f2, f3⟩ := F.exc
      refine j_of' hp rfl rfl (se_erv (D := D) (fI := fI) (fun c hc => ?_) (ck_ok a g F h4).1 (base_of h2))
      obtain ⟨p, hp1, hp2⟩ := List.any_eq_true.mp (List.all_eq_true.mp h3 c hc)
      have := (f1 p hp1).2
      rw [eq_of_beq hp2] at this
      exact this
    · cases h
  | .isE a bs yy, t, sc, so, x, X, g, F, h => by
    unfold ck at h
    obtain ⟨hp, h⟩ := and2 h
    split at h
    · obtain ⟨h, h7⟩ := and2 h
      obtain ⟨h, h6⟩ := and2 h
      obtain ⟨h, h5⟩ := and2 h
      obtain ⟨h, h4⟩ := and2 h
      obtain ⟨h, h3⟩ := and2 h
      obtain ⟨h1, h2⟩ := and2 h
      cases of_decide_eq_true h1
      cases of_decide_eq_true h2
      obtain ⟨b1, b2⟩ := g.blt F h3
      obtain ⟨b3, b4⟩ := g.gl h4
      obtain ⟨D, fI, fd, f1, f2, f3⟩ := F.exc
      obtain ⟨tv, cv, k1, k2, k3⟩ := f3 _ (of_decide_eq_true h5)
      refine j_of' hp rfl rfl (se_isE (D := D) (fI := fI) (tv := tv) h6 b1 b2 ?_ k2 k3 (ck_ok a g F h7).1)
      rcases k1 with ⟨u, m1, m2⟩ | ⟨m0, u, m1, m2, m3⟩
      · exact pe_glob b3 m1 m2 b4
      · exact pe_bltn b3 m0 m1 m2 m3 b4
    · cases h
theorem cks_ok : ∀ (rs : REs) {sc so : Scope} {xs : List Expr} {X : Cx}, Gd X sc so N k → FactsX X cl C T k → cks T N rs sc so xs = true → SA X cl xs (evalEs C rs)
  | .nil, sc, so, xs, X, g, F, h => by
    unfold cks at h
    cases (List.isEmpty_iff.mp h)
    exact sa_nil
  | .cons r rs, sc, so, xs, X, g, F, h => by
    unfold cks at h
    split at h
    · obtain ⟨h, h3⟩ := and2 h
      obtain ⟨h1, h2⟩ := and2 h
      exact sa_cons h1 (ck_ok r g F h2).1 (cks_ok rs g F h3)
    · cases h
  | .star r rs, sc, so, xs, X, g, F, h => by
    unfold cks at h
    split at h
    · obtain ⟨h1, h2⟩ := and2 h
      exact sa_star (ck_ok r g F h1).1 (cks_ok rs g F h2)
    · cases h
theorem ckK_ok : ∀ (rs : REs) {sc so : Scope} {xs : List Keyword} {X : Cx}, Gd X sc so N k → FactsX X cl C T k → ckK T N rs sc so xs = true → SK X cl xs (evalEs C rs)
  | .nil, sc, so, xs, X, g, F, h => by
    unfold ckK at h
    cases (List.isEmpty_iff.mp h)
    exact sk_nil
  | .cons r rs, sc, so, xs, X, g, F, h => by
    unfold ckK at h
    split at h
    · obtain ⟨h1, h2⟩ := and2 h
      exact sk_cons (ck_ok r g F h1).1 (ckK_ok rs g F h2)
    · cases h
  | .star r rs, sc, so, xs, X, g, F, h => by
    unfold ckK at h
    cases h
theorem ckF_ok : ∀ (rs : REs) {sc so : Scope} {xs : List Expr} {X : Cx}, Gd X sc so N k → FactsX X cl C T k → ckF T N rs sc so xs = true → STs X cl xs (evalIfs C rs)
  | .nil, sc, so, xs, X, g, F, h => by
    unfold ckF at h
    cases (List.isEmpty_iff.mp h)
    exact sts_nil
  | .cons r rs, sc, so, xs, X, g, F, h => by
    unfold ckF at h
    split at h
    · split at h
      · exact sts_one (ck_ok r g F h).1
      · cases h
    · cases h
  | .star r rs, sc, so, xs, X, g, F, h => by
    unfold ckF at h
    cases h
theorem ckD_ok : ∀ (rs : REs) {sc so : Scope} {ks : List (Option Expr)} {vs : List Expr} {X : Cx}, Gd X sc so N k → FactsX X cl C T k → ckD T N rs sc so ks vs = true → DPs X cl C ks vs rs
  | .nil, sc, so, ks, vs, X, g, F, h => by
    unfold ckD at h
    obtain ⟨h1, h2⟩ := and2 h
    cases (List.isEmpty_iff.mp h1)
    cases (List.isEmpty_iff.mp h2)
    exact dps_nil
  | .cons rk .nil, sc, so, ks, vs, X, g, F, h => by
    unfold ckD at h
    cases h
  | .cons rk (.star _ _), sc, so, ks, vs, X, g, F, h => by
    unfold ckD at h
    cases h
  | .cons rk (.cons rv rs), sc, so, ks, vs, X, g, F, h => by
    unfold ckD at h
    simp only at h
    split at h
    · obtain ⟨h, h3⟩ := and2 h
      obtain ⟨h1, h2⟩ := and2 h
      exact dps_cons (ck_ok rk g F h1).1 (ck_ok rv g F h2).1 (ckD_ok rs g F h3)
    · cases h
  | .star r rs, sc, so, ks, vs, X, g, F, h => by
    unfold ckD at h
    cases h
theorem ckO_ok : ∀ (r : RO) {sc so : Scope} {x : Option Expr} {X : Cx}, Gd X sc so N k → FactsX X cl C T k → ckO T N r sc so x = true → SO X cl x (evalO C r)
  | .non, sc, so, x, X, g, F, h => by
    unfold ckO at h
    cases (Option.isNone_iff_eq_none.mp h)
    exact so_none
  | .som r, sc, so, x, X, g, F, h => by
    unfold ckO at h
    split at h
    · exact so_some (ck_ok r g F h).1
    · cases h
theorem ckI_ok : ∀ (r : RI) {sc so : Scope} {tg x : Expr} {X : Cx}, Gd X sc so N k → FactsX X cl C T k → ckI T N r sc so tg x = true → SI X cl tg x (evalI C r)
  | .e r, sc, so, tg, x, X, g, F, h => by
    unfold ckI at h
    exact si_e (ck_ok r g F h).1
  | .rng1 r, sc, so, tg, x, X, g, F, h => by
    unfold ckI at h
    split at h
    · obtain ⟨h, h4⟩ := and2 h
      obtain ⟨h, h3⟩ := and2 h
      obtain ⟨h1, h2⟩ := and2 h
      cases (of_decide_eq_true h1)
      obtain ⟨b1, b2⟩ := g.blt F h2
      exact si_rng1 b1 b2 h3 (ck_ok r g F h4).1
    · cases h
  | .rng2 r r', sc, so, tg, x, X, g, F, h => by
    unfold ckI at h
    split at h
    · obtain ⟨h, h6⟩ := and2 h
      obtain ⟨h, h5⟩ := and2 h
      obtain ⟨h, h4⟩ := and2 h
      obtain ⟨h, h3⟩ := and2 h
      obtain ⟨h1, h2⟩ := and2 h
      cases (of_decide_eq_true h1)
      obtain ⟨b1, b2⟩ := g.blt F h2
      exact si_rng2 b1 b2 h3 h4 (ck_ok r g F h5).1 (ck_ok r' g F h6).1
    · cases h
  | .enum r, sc, so, tg, x, X, g, F, h => by
    unfold ckI at h
    obtain ⟨ht, h⟩ := and2 h
    split at h
    · obtain ⟨h, h4⟩ := and2 h
      obtain ⟨h, h3⟩ := and2 h
      obtain ⟨h1, h2⟩ := and2 h
      cases (of_decide_eq_true h1)
      obtain ⟨b1, b2⟩ := g.blt F h2
      cases tg <;> first | (cases ht; done) | exact si_enum b1 b2 h3 (ck_ok r g F h4).1
    · cases h
  | .zip r r', sc, so, tg, x, X, g, F, h => by
    unfold ckI at h
    obtain ⟨ht, h⟩ := and2 h
    split at h
    · obtain ⟨h, h6⟩ := and2 h
      obtain ⟨h, h5⟩ := and2 h
      obtain ⟨h, h4⟩ := and2 h
      obtain ⟨h, h3⟩ := and2 h
      obtain ⟨h1, h2⟩ := and2 h
      cases (of_decide_eq_true h1)
      obtain ⟨b1, b2⟩ := g.blt F h2
      cases tg <;> first | (cases ht; done) | exact si_zip b1 b2 h3 h4 (ck_ok r g F h5).1 (ck_ok r' g F h6).1
    · cases h
end
end
end R
end
section
set_option linter.all false
set_option maxRecDepth 100000
set_option maxHeartbeats 4000000
/-! R18: the check of statements. -/
namespace R
open PySem PySem.Spec PyProof.Rows L2
def isTupE : Expr → Bool
  | .Tuple _ _ _ => true
  | _ => false
def locName (sc : Scope) : Expr → Bool
  | .Name y _ => decide (sc.names.lookup y = some .local)
  | _ => false
/-- no swapped stores: some target is no plain local -/
def swNo (sc : Scope) (tg e : Expr) : Bool := !isTupE e || (match tg with
  | .Tuple ts _ _ => ts.any fun t => !locName sc t
  | .List _ _ => false
  | _ => true)
section
variable {X : Cx} {cl : Nat → Addr} {C : CallF} {T : Tab} {k : Nat} {sc so scope : Scope} {N : List Str} {y : Str} {r : RE} {x : Expr} {t : Bool}
theorem names_lt {env : PySem.Env} {l : Nat} : ∀ {ts : List Expr}, (ts.any fun t => !locName env.scope t) = true → (ts.filterMap fun | .Name id pos => if env.kindOf id == some .local && pos.line == l then some id else none | _ => none).length < ts.length
  | [], h => by cases h
  | q :: ts, h => by
    have le : ∀ {ts : List Expr}, (ts.filterMap fun | .Name id pos => if env.kindOf id == some .local && pos.line == l then some id else none | _ => none).length ≤ ts.length := fun {ts} => List.length_filterMap_le _ _
    rw [List.any_cons] at h
    rw [List.filterMap_cons]
    rcases Bool.or_eq_true_iff.mp h with h | h
    · split
      · have := @le ts; simp only [List.length_cons]; omega
      · rename_i z hz
        split at hz
        · rename_i id pos _
          have hl : ¬ env.scope.names.lookup id = some .local := by simpa [locName] using h
          have : (env.kindOf id == some .local) = false := by
            show (env.scope.names.lookup id == some .local) = false
            simpa using hl
          rw [this] at hz
          cases hz
        · cases hz
    · have := names_lt (l := l) h
      split <;> (simp only [List.length_cons]; omega)
theorem sw_no {tg e : Expr} {env : PySem.Env} (h : swNo env.scope tg e = true) : swappedStores [tg] e env = pure none := by
  unfold swNo at h
  rcases Bool.or_eq_true_iff.mp h with h | h
  · cases e <;> first | (cases tg <;> rfl) | (cases h; done)
  · cases tg with
    | Tuple ts kk pp =>
      cases e with
      | Tuple vs k2 p2 =>
        have h : (ts.any fun t => !locName env.scope t) = true := h
        have hlt := names_lt (l := (ts.head?.map (·.pos.line)).getD 0) h
        unfold swappedStores
        simp only
        split
        · rfl
        · split
          · rfl
          · split
            · rfl
            · rename_i hh
              exfalso
              apply hh
              rw [Bool.or_eq_true]
              left
              exact bne_iff_ne.mpr (Nat.ne_of_lt hlt)
      | _ => rfl
    | List ts pp => cases h
    | _ => cases e <;> rfl
theorem sw_two {a b : Expr} {x y : Str} {px py pt pt2 : Pos} {kt k2 : Nat} {env : PySem.Env} (hk : env.scope.kind = .function) (hx : env.scope.names.lookup x = some .local) (hy : env.scope.names.lookup y = some .local) (hl : (py.line == px.line) = true) (hn : x ≠ y)
    (ha : noStar a = true) (hb : noStar b = true) (h1 : ([a, b].all (foldedForSure 8)) = false) (h2 : ([a, b].all (constantsAlone 8)) = false) : swappedStores [.Tuple [.Name x px, .Name y py] kt pt] (.Tuple [a, b] k2 pt2) env = pure (some [x, y]) := by
  have kx : env.kindOf x = some .local := hx
  have ky : env.kindOf y = some .local := hy
  have hbk : env.blockKind = .function := by unfold Env.blockKind; rw [hk]; rfl
  have hv : ([a, b].any fun | .Starred .. => true | _ => false) = false := by
    cases a <;> first | (cases ha; done) | (cases b <;> first | (cases hb; done) | rfl)
  have fm : ∀ g : Expr → Option Str, g (.Name x px) = some x → g (.Name y py) = some y → [Expr.Name x px, Expr.Name y py].filterMap g = [x, y] := fun g g1 g2 => by
    rw [List.filterMap_cons, g1, List.filterMap_cons, g2]; rfl
  have hd : ([x, y] : List Str).eraseDups.length = 2 := by
    rw [List.eraseDups_cons, List.filter_cons, if_pos (by simpa using Ne.symm hn)]; rfl
  unfold swappedStores
  simp only [hbk]
  rw [if_neg (by simp), if_neg (fun z => Bool.noConfusion (z.symm.trans hv)), fm _ (by
    show (if (env.kindOf x == some NameKind.local && px.line == px.line) = true then some x else none) = some x
    rw [kx]; simp) (by
    show (if (env.kindOf y == some NameKind.local && py.line == px.line) = true then some y else none) = some y
    rw [ky, hl]; rfl), hd, h1, h2]
  rfl
theorem sw_three {a b c : Expr} {x y z : Str} {px py pz pt pt2 : Pos} {kt k2 : Nat} {env : PySem.Env} (hk : env.scope.kind = .function) (hx : env.scope.names.lookup x = some .local) (hy : env.scope.names.lookup y = some .local) (hz : env.scope.names.lookup z = some .local)
    (hl : (py.line == px.line) = true) (hl2 : (pz.line == px.line) = true) (hn : x ≠ y) (hn2 : x ≠ z) (hn3 : y ≠ z)
    (ha : noStar a = true) (hb : noStar b = true) (hc : noStar c = true) (h1 : ([a, b, c].all (foldedForSure 8)) = false) (h2 : ([a, b, c].all (constantsAlone 8)) = false) : swappedStores [.Tuple [.Name x px, .Name y py, .Name z pz] kt pt] (.Tuple [a, b, c] k2 pt2) env = pure (some [x, y, z]) := by
  have kx : env.kindOf x = some .local := hx
  have ky : env.kindOf y = some .local := hy
  have kz : env.kindOf z = some .local := hz
  have hbk : env.blockKind = .function := by unfold Env.blockKind; rw [hk]; rfl
  have hs : ∀ {e : Expr}, noStar e = true → (match e with | .Starred .. => true | _ => false) = false := fun {e} h => by
    cases e <;> first | rfl | cases h
  have hv : ([a, b, c].any fun | .Starred .. => true | _ => false) = false := by
    rw [List.any_cons, List.any_cons, List.any_cons, hs ha, hs hb, hs hc]; rfl
  have fm : ∀ g : Expr → Option Str, g (.Name x px) = some x → g (.Name y py) = some y → g (.Name z pz) = some z → [Expr.Name x px, Expr.Name y py, Expr.Name z pz].filterMap g = [x, y, z] := fun g g1 g2 g3 => by
    rw [List.filterMap_cons, g1, List.filterMap_cons, g2, List.filterMap_cons, g3]; rfl
  have hd : ([x, y, z] : List Str).eraseDups.length = 3 := by
    rw [List.eraseDups_cons, List.filter_cons, if_pos (by simpa using Ne.symm hn), List.filter_cons, if_pos (by simpa using Ne.symm hn2), List.eraseDups_cons, List.filter_nil, List.filter_cons, if_pos (by simpa using Ne.symm hn3)]; rfl
  unfold swappedStores
  simp only [hbk]
  rw [if_neg (by simp), if_neg (fun z => Bool.noConfusion (z.symm.trans hv)), fm _ (by
    show (if (env.kindOf x == some NameKind.local && px.line == px.line) = true then some x else none) = some x
    rw [kx]; simp) (by
    show (if (env.kindOf y == some NameKind.local && py.line == px.line) = true then some y else none) = some y
    rw [ky, hl]; rfl) (by
    show (if (env.kindOf z == some NameKind.local && pz.line == px.line) = true then some z else none) = some z
    rw [kz, hl2]; rfl), hd, h1, h2]
  rfl
theorem sw_yes {e : Expr} {p : Pos} {y : Str} {l : Nat} {env : PySem.Env} {sc2 : Scope} (hk : env.scope.kind = .function) (hy : env.scope.names.lookup y = some .local) (hl : (p.line == e.pos.line) = true) (ha : (sc2.names.any fun (n, kd) => n == y && (kd == .local || kd == .cell)) = false)
    (he : (∃ a b c, e = .ListComp a b sc2 c) ∨ ∃ a b c d, e = .DictComp a b c sc2 d) : swapsWith e (some (.Name y p)) l env = pure true := by
  have ky : env.kindOf y = some .local := hy
  have hb : env.blockKind = .function := by unfold Env.blockKind; rw [hk]; rfl
  rcases he with ⟨a, b, c, rfl⟩ | ⟨a, b, c, d, rfl⟩
  · unfold swapsWith
    simp only [hb, ky, ha, hl]
    rfl
  · unfold swapsWith
    simp only [hb, ky, ha, hl]
    rfl
end
end R
end
section
set_option linter.all false
set_option maxRecDepth 100000
set_option maxHeartbeats 4000000
/-! R19: the check of statements and that it is right. -/
namespace R
open PySem PySem.Spec PyProof.Rows L2
def isFn (sc : Scope) : Bool := match sc.kind with
  | .function => true
  | _ => false
def names2 (sc2 : Scope) (y : Str) : Bool := !(sc2.names.any fun (n, kd) => n == y && (kd == .local || kd == .cell))
def nmsB (N : List Str) (sc so : Scope) : List Nat → List Expr → Bool
  | [], es => es.isEmpty
  | i :: js, es => match es with
    | .Name y _ :: r => decide (N[i]? = some y) && locB sc so y && nmsB N sc so js r
    | _ => false
/-- a comprehension stored in a local name of the same row -/
def ckC (T : Tab) (N : List Str) : RE → Scope → Scope → Expr → Bool
  | .lc vs tg it ifs elt, sc, so, x => (match x with
    | .ListComp elx [⟨tgx, iter, ifx, asy⟩] scope _ => decide (asy = 0) && notSet iter && (tg.slots.all fun j => decide (j ∈ vs)) && blkB N sc scope vs && ckI T N it sc so tgx iter && ckG T (reS sc scope) scope N tg tgx && ckF T N ifs (reS sc scope) scope ifx && ck T N elt false (reS sc scope) scope elx
    | _ => false)
  | .dc vs tg it rk rv, sc, so, x => (match x with
    | .DictComp kx vx [⟨tgx, iter, ifx, asy⟩] scope _ => decide (asy = 0) && ifx.isEmpty && notSet iter && (tg.slots.all fun j => decide (j ∈ vs)) && blkB N sc scope vs && ckI T N it sc so tgx iter && ckG T (reS sc scope) scope N tg tgx && ck T N rk false (reS sc scope) scope kx && ck T N rv false (reS sc scope) scope vx
    | _ => false)
  | _, _, _, _ => false
def unNew : RE → Bool × RE
  | .new r => (true, r)
  | r => (false, r)
def scopeOf : Expr → Option Scope
  | .ListComp _ _ s _ => some s
  | .DictComp _ _ _ s _ => some s
  | _ => none
def setB (T : Tab) (N : List Str) (sc so : Scope) (i : Nat) (r : RE) (y : Str) (p : Pos) (e : Expr) : Bool :=
  decide (N[i]? = some y) && locB sc so y && ((noComp e && ck T N r false sc so e) || (decide (sc.names.lookup y = some .cell) && ck T N r false sc so e) ||
    (isFn sc && decide (sc.names.lookup y = some .local) && (p.line == e.pos.line) && (match scopeOf e with | some s2 => names2 s2 y | none => false) && ckC T N (unNew r).2 sc so e))
mutual
def ckS (T : Tab) (N : List Str) : RS → Scope → Scope → Stmt → Bool
  | .set i r, sc, so, x => (match x with
    | .Assign [.Name y p] e _ => setB T N sc so i r y p e
    | _ => false)
  | .setT t r, sc, so, x => (match x with
    | .Assign [tg] e _ => notName tg && noStar tg && ckG T sc so N t tg && ck T N r false sc so e && swNo sc tg e
    | _ => false)
  | .par js rs, sc, so, x => (match x with
    | .Assign [.Tuple ts _ _] (.Tuple es _ _) _ => isFn sc && es.all noStar && nmsB N sc so js ts && cks T N rs sc so es && decide (js.length ≤ 1000) &&
      (swNo sc (.Tuple ts 0 default) (.Tuple es 0 default) || (!(es.all (foldedForSure 8)) && !(es.all (constantsAlone 8)) && decide (es.length = ts.length) && (match ts with
        | [.Name y p, .Name y' p'] => decide (sc.names.lookup y = some .local) && decide (sc.names.lookup y' = some .local) && (p'.line == p.line) && decide (y ≠ y')
        | [.Name y p, .Name y' p', .Name y2 p2] => decide (sc.names.lookup y = some .local) && decide (sc.names.lookup y' = some .local) && decide (sc.names.lookup y2 = some .local) && (p'.line == p.line) && (p2.line == p.line) && decide (y ≠ y') && decide (y ≠ y2) && decide (y' ≠ y2)
        | _ => false)))
    | _ => false)
  | .aug _ _ _, _, _, _ => false
  | .sidxO i k r, sc, so, x => (match x with
    | .Assign [.Subscript (.Name y _) (.Constant c _ _) _] e _ => varB sc N i y && litB k c && keyD k && isNew r && ck T N r false sc so e
    | _ => false)
  | .sidx2 i k rj r, sc, so, x => (match x with
    | .Assign [.Subscript (.Subscript (.Name y _) (.Constant c _ _) _) jx _] e _ => varB sc N i y && litB k c && keyD k && noSlice jx && ck T N rj false sc so jx && ck T N r false sc so e
    | _ => false)
  | .sidx i rk rv, sc, so, x => (match x with
    | .Assign [.Subscript (.Name y _) ix _] e _ => varB sc N i y && noSlice ix && ck T N rk false sc so ix && ck T N rv false sc so e
    | _ => false)
  | .sfld _ _ _ _, _, _, _ => false
  | .ex r, sc, so, x => (match x with
    | .Expr e _ => noComp e && ck T N r false sc so e
    | _ => false)
  | .ret r, sc, so, x => (match x with
    | .Return (some e) _ => ck T N r false sc so e
    | _ => false)
  | .retn, sc, so, x => (match x with
    | .Return none _ => true
    | _ => false)
  | .ife t a b, sc, so, x => (match x with
    | .If c body els _ => ck T N t true sc so c && ckSs T N a sc so body && ckSs T N b sc so els
    | _ => false)
  | .for_ t it b, sc, so, x => (match x with
    | .For tg iter body [] _ => notSet iter && ckI T N it sc so tg iter && ckG T sc so N t tg && ckSs T N b sc so body
    | _ => false)
  | .whl t b, sc, so, x => (match x with
    | .While c body [] _ => ck T N t true sc so c && ckSs T N b sc so body
    | _ => false)
  | .brk, sc, so, x => (match x with
    | .Break _ => true
    | _ => false)
  | .cnt, sc, so, x => (match x with
    | .Continue _ => true
    | _ => false)
  | .pas, sc, so, x => (match x with
    | .Pass _ => true
    | .Expr (.Constant (.str _) _ _) _ => true
    | _ => false)
  | .nev, _, _, _ => true
def ckSs (T : Tab) (N : List Str) : RSs → Scope → Scope → List Stmt → Bool
  | .nil, sc, so, xs => xs.isEmpty
  | .cons s ss, sc, so, xs => (match xs with
    | x :: xs => ckS T N s sc so x && ckSs T N ss sc so xs
    | [] => false)
end
section
variable {cl : Nat → Addr} {C : CallF} {T : Tab} {k : Nat} {N : List Str} {M : Nat}
theorem nms_ok {X : Cx} {sc so : Scope} (g : Gd X sc so N k) : ∀ {js : List Nat} {es : List Expr}, nmsB N sc so js es = true → PGs X es (tNms js) ∧ es.length = js.length ∧ es.all noStar = true
  | [], es, h => by
    unfold nmsB at h
    cases (List.isEmpty_iff.mp h)
    exact ⟨pgs_nm_nil, rfl, rfl⟩
  | i :: js, es, h => by
    unfold nmsB at h
    split at h
    · obtain ⟨h, h3⟩ := and2 h
      obtain ⟨h1, h2⟩ := and2 h
      obtain ⟨a1, a2⟩ := g.loc h2
      obtain ⟨b1, b2, b3⟩ := nms_ok g h3
      exact ⟨pgs_nm_cons (by rw [g.eN]; exact g.nod) (by rw [g.eN]; exact of_decide_eq_true h1) a1 a2 b1, by simp [b2], by simp [b3, noStar]⟩
    · cases h
theorem each_len {env : PySem.Env} : ∀ {es : List Expr}, es.all noStar = true → (assignEach es env).length = es.length ∧ (assignEach es env).findIdx? (·.1) = none
  | [], _ => ⟨rfl, rfl⟩
  | e :: es, h => by
    obtain ⟨h1, h2⟩ := and2 (show (noStar e && es.all noStar) = true from h)
    obtain ⟨a, b⟩ := each_len (env := env) h2
    obtain ⟨_, c, d⟩ := assign_each (x := e) (xs := es) (env := env) h1
    exact ⟨by rw [c, a]; rfl, d b⟩
theorem isFn_ok {sc : Scope} (h : isFn sc = true) : sc.kind = .function := by
  unfold isFn at h
  split at h
  · assumption
  · cases h
theorem ckC_ok {X : Cx} {sc so : Scope} {r : RE} {e : Expr} {i : Nat} {y : Str} {p pos : Pos} (g : Gd X sc so N k) (F : FactsX X cl C T k) (hN : X.N[i]? = some y) (hy : X.env.scope.names.lookup y = some .local) (hw : swapsWith e (some (.Name y p)) pos.line X.env = pure true)
    (h : ckC T N r sc so e = true) : SS X cl (.Assign [.Name y p] e pos) (exec C M (.set i r)) ∧ SS X cl (.Assign [.Name y p] e pos) (exec C M (.set i (.new r))) := by
  unfold ckC at h
  split at h
  · split at h
    · obtain ⟨h, h8⟩ := and2 h
      obtain ⟨h, h7⟩ := and2 h
      obtain ⟨h, h6⟩ := and2 h
      obtain ⟨h, h5⟩ := and2 h
      obtain ⟨h, h4⟩ := and2 h
      obtain ⟨h, h3⟩ := and2 h
      obtain ⟨h1, h2⟩ := and2 h
      cases (of_decide_eq_true h1)
      obtain ⟨own, rfl, bk⟩ := g.blkOk h4
      have nd : X.N.Nodup := by rw [g.eN]; exact g.nod
      have sl := fun j hj => of_decide_eq_true (List.all_eq_true.mp h3 j hj)
      exact ⟨ss_setLc g.calm nd hN hy hw sl (ckI_ok _ g F h5) bk (fun s H L c fp => ckG_ok (g.blk _ s H L c fp) F _ _ h6) (fun s H L c fp => ckF_ok _ (g.blk _ s H L c fp) F h7) (fun s H L c fp => (ck_ok _ (g.blk _ s H L c fp) F h8).1) (folded_of h2),
        ss_setLcN g.calm nd hN hy hw sl (ckI_ok _ g F h5) bk (fun s H L c fp => ckG_ok (g.blk _ s H L c fp) F _ _ h6) (fun s H L c fp => ckF_ok _ (g.blk _ s H L c fp) F h7) (fun s H L c fp => (ck_ok _ (g.blk _ s H L c fp) F h8).1) (folded_of h2)⟩
    · cases h
  · split at h
    · obtain ⟨h, h9⟩ := and2 h
      obtain ⟨h, h8⟩ := and2 h
      obtain ⟨h, h7⟩ := and2 h
      obtain ⟨h, h6⟩ := and2 h
      obtain ⟨h, h5⟩ := and2 h
      obtain ⟨h, h4⟩ := and2 h
      obtain ⟨h, h3⟩ := and2 h
      obtain ⟨h1, h2⟩ := and2 h
      cases (of_decide_eq_true h1)
      cases (List.isEmpty_iff.mp h2)
      obtain ⟨own, rfl, bk⟩ := g.blkOk h5
      have nd : X.N.Nodup := by rw [g.eN]; exact g.nod
      have sl := fun j hj => of_decide_eq_true (List.all_eq_true.mp h4 j hj)
      exact ⟨ss_setDc g.calm nd hN hy hw sl (ckI_ok _ g F h6) bk (fun s H L c fp => ckG_ok (g.blk _ s H L c fp) F _ _ h7) (fun s H L c fp => (ck_ok _ (g.blk _ s H L c fp) F h8).1) (fun s H L c fp => (ck_ok _ (g.blk _ s H L c fp) F h9).1) (folded_of h3),
        ss_setDcN g.calm nd hN hy hw sl (ckI_ok _ g F h6) bk (fun s H L c fp => ckG_ok (g.blk _ s H L c fp) F _ _ h7) (fun s H L c fp => (ck_ok _ (g.blk _ s H L c fp) F h8).1) (fun s H L c fp => (ck_ok _ (g.blk _ s H L c fp) F h9).1) (folded_of h3)⟩
    · cases h
  · cases h
theorem setB_ok {X : Cx} {sc so : Scope} {r : RE} {e : Expr} {i : Nat} {y : Str} {p pos : Pos} (g : Gd X sc so N k) (F : FactsX X cl C T k) (h : setB T N sc so i r y p e = true) : SS X cl (.Assign [.Name y p] e pos) (exec C M (.set i r)) := by
  unfold setB at h
  obtain ⟨h, h3⟩ := and2 h
  obtain ⟨h1, h2⟩ := and2 h
  have hN : X.N[i]? = some y := by rw [g.eN]; exact of_decide_eq_true h1
  have nd : X.N.Nodup := by rw [g.eN]; exact g.nod
  obtain ⟨a1, a2⟩ := g.loc h2
  rcases Bool.or_eq_true_iff.mp h3 with h3 | h3
  · rcases Bool.or_eq_true_iff.mp h3 with h3 | h3
    · obtain ⟨h4, h5⟩ := and2 h3
      exact ss_set nd hN a1 a2 (swaps_no h4) (ck_ok r g F h5).1
    · obtain ⟨h4, h5⟩ := and2 h3
      exact ss_set nd hN a1 a2 (swaps_cell (by rw [g.esc]; exact of_decide_eq_true h4)) (ck_ok r g F h5).1
  · obtain ⟨h3, h8⟩ := and2 h3
    obtain ⟨h3, h7⟩ := and2 h3
    obtain ⟨h3, h6⟩ := and2 h3
    obtain ⟨h4, h5⟩ := and2 h3
    have hy : X.env.scope.names.lookup y = some .local := by rw [g.esc]; exact of_decide_eq_true h5
    have hw : swapsWith e (some (.Name y p)) pos.line X.env = pure true := by
      cases e with
      | ListComp a b s c => exact sw_yes (by rw [g.esc]; exact isFn_ok h4) hy h6 (by simpa [names2, scopeOf] using h7) (.inl ⟨_, _, _, rfl⟩)
      | DictComp a b c s d => exact sw_yes (by rw [g.esc]; exact isFn_ok h4) hy h6 (by simpa [names2, scopeOf] using h7) (.inr ⟨_, _, _, _, rfl⟩)
      | _ => cases h7
    have z := ckC_ok (M := M) (pos := pos) g F hN hy hw h8
    cases r with
    | new r => exact z.2
    | _ => exact z.1
theorem sub_ht {env : PySem.Env} {y : Str} {po p : Pos} {ix : Expr} (h : noSlice ix = true) (v : Value) : assign (.Subscript (.Name y po) ix p) env v = (do
      let ov ← holding [v] (eval (.Name y po) env)
      let iv ← holding [v, ov] (eval ix env)
      standAt p
      holding [v, ov, iv] (setItem ov iv v)
      release [v, ov, iv] []) := by
  cases ix <;> first | rfl | cases h
theorem sub_ht2 {env : PySem.Env} {o jx : Expr} {p : Pos} (h : noSlice jx = true) (v : Value) : assign (.Subscript o jx p) env v = (do
      let ov ← holding [v] (eval o env)
      let iv ← holding [v, ov] (eval jx env)
      standAt p
      holding [v, ov, iv] (setItem ov iv v)
      release [v, ov, iv] []) := by
  cases jx <;> first | rfl | cases h
mutual
theorem ckS_ok : ∀ (s : RS) {sc so : Scope} {x : Stmt} {X : Cx}, Gd X sc so N k → FactsX X cl C T k → ckS T N s sc so x = true → SS X cl x (exec C M s)
  | .set i r, sc, so, x, X, g, F, h => by
    unfold ckS at h
    split at h
    · exact setB_ok g F h
    · cases h
  | .setT t r, sc, so, x, X, g, F, h => by
    unfold ckS at h
    split at h
    · obtain ⟨h, h5⟩ := and2 h
      obtain ⟨h, h4⟩ := and2 h
      obtain ⟨h, h3⟩ := and2 h
      obtain ⟨h1, h2⟩ := and2 h
      exact ss_setT h1 (ckG_ok g F t _ h3) (ck_ok r g F h4).1 (sw_no (by rw [g.esc]; exact h5)) (by rw [assign_one h2]; rfl)
    · cases h
  | .par js rs, sc, so, x, X, g, F, h => by
    unfold ckS at h
    split at h
    · rename_i ts kt pt es k2 pt2 pos
      obtain ⟨h, h6⟩ := and2 h
      obtain ⟨h, h5⟩ := and2 h
      obtain ⟨h, h4⟩ := and2 h
      obtain ⟨h, h3⟩ := and2 h
      obtain ⟨h1, h2⟩ := and2 h
      obtain ⟨b1, b2, b3⟩ := nms_ok g h3
      have ha := cks_ok rs g F h4
      have nd : X.N.Nodup := by rw [g.eN]; exact g.nod
      have hk : X.env.scope.kind = .function := by rw [g.esc]; exact isFn_ok h1
      rcases Bool.or_eq_true_iff.mp h6 with h6 | h6
      · obtain ⟨c1, c2⟩ := each_len (env := X.env) b3
        refine ss_parN g.calm b1 ha (by rw [c1, b2]) c2 (of_decide_eq_true h5) (sw_no ?_) rfl
        rw [g.esc]
        exact h6
      · obtain ⟨h6, h10⟩ := and2 h6
        obtain ⟨h6, h9⟩ := and2 h6
        obtain ⟨h7, h8⟩ := and2 h6
        have h7 : (es.all (foldedForSure 8)) = false := by simpa using h7
        have h8 : (es.all (constantsAlone 8)) = false := by simpa using h8
        have h9 := of_decide_eq_true h9
        split at h10
        · have lk : ∀ {q : Str}, decide (sc.names.lookup q = some .local) = true → X.env.scope.names.lookup q = some .local := fun d => by rw [g.esc]; exact of_decide_eq_true d
          obtain ⟨h10, d4⟩ := and2 h10
          obtain ⟨h10, d3⟩ := and2 h10
          obtain ⟨d1, d2⟩ := and2 h10
          match js, b2, h3 with
          | [i, j], _, h3 =>
            match es, h9, ha, h2, h7, h8 with
            | [a, b], _, ha, h2, h7, h8 =>
              simp only [nmsB, Bool.and_eq_true, decide_eq_true_eq] at h3
              simp only [List.all_cons, List.all_nil, Bool.and_eq_true] at h2
              have hij : i ≠ j := fun e => by
                rw [e, h3.2.1.1] at h3
                exact (of_decide_eq_true d4) (Option.some.inj h3.1.1).symm
              have e1 := lk d1
              have e2 := lk d2
              exact ss_par2 g.calm nd (by rw [g.eN]; exact h3.1.1) (by rw [g.eN]; exact h3.2.1.1) hij e1 e2 ha (sw_two hk e1 e2 d3 (of_decide_eq_true d4) h2.1 h2.2.1 h7 h8)
        · have lk : ∀ {q : Str}, decide (sc.names.lookup q = some .local) = true → X.env.scope.names.lookup q = some .local := fun d => by rw [g.esc]; exact of_decide_eq_true d
          obtain ⟨h10, d8⟩ := and2 h10
          obtain ⟨h10, d7⟩ := and2 h10
          obtain ⟨h10, d6⟩ := and2 h10
          obtain ⟨h10, d5⟩ := and2 h10
          obtain ⟨h10, d4⟩ := and2 h10
          obtain ⟨h10, d3⟩ := and2 h10
          obtain ⟨d1, d2⟩ := and2 h10
          match js, b2, h3 with
          | [i, j, l], _, h3 =>
            match es, h9, ha, h2, h7, h8 with
            | [a, b, c], _, ha, h2, h7, h8 =>
              simp only [nmsB, Bool.and_eq_true, decide_eq_true_eq] at h3
              simp only [List.all_cons, List.all_nil, Bool.and_eq_true] at h2
              have n1 := h3.1.1
              have n2 := h3.2.1.1
              have n3 := h3.2.2.1.1
              have hij : i ≠ j := fun e => by
                rw [e, n2] at n1
                exact (of_decide_eq_true d6) (Option.some.inj n1).symm
              have hil : i ≠ l := fun e => by
                rw [e, n3] at n1
                exact (of_decide_eq_true d7) (Option.some.inj n1).symm
              have hjl : j ≠ l := fun e => by
                rw [e, n3] at n2
                exact (of_decide_eq_true d8) (Option.some.inj n2).symm
              have e1 := lk d1
              have e2 := lk d2
              have e3 := lk d3
              exact ss_par3 g.calm nd (by rw [g.eN]; exact n1) (by rw [g.eN]; exact n2) (by rw [g.eN]; exact n3) hij hil hjl e1 e2 e3 ha (sw_three hk e1 e2 e3 d4 d5 (of_decide_eq_true d6) (of_decide_eq_true d7) (of_decide_eq_true d8) h2.1 h2.2.1 h2.2.2.1 h7 h8)
        · cases h10
    · cases h
  | .aug _ _ _, sc, so, x, X, g, F, h => by
    unfold ckS at h
    cases h
  | .sidxO i k r, sc, so, x, X, g, F, h => by
    unfold ckS at h
    split at h
    · obtain ⟨h, h5⟩ := and2 h
      obtain ⟨h, h4⟩ := and2 h
      obtain ⟨h, h3⟩ := and2 h
      obtain ⟨h1, h2⟩ := and2 h
      obtain ⟨v1, v2, v3, v4⟩ := g.var h1
      obtain ⟨κ, k1, k2⟩ := key_lit (X := X) h2 h3
      exact ss_sidxO g.room v1 v2 v3 v4 k1 k2 ((ck_ok r g F h5).2 h4) fun _ => rfl
    · cases h
  | .sidx2 i k rj r, sc, so, x, X, g, F, h => by
    unfold ckS at h
    split at h
    · obtain ⟨h, h6⟩ := and2 h
      obtain ⟨h, h5⟩ := and2 h
      obtain ⟨h, h4⟩ := and2 h
      obtain ⟨h, h3⟩ := and2 h
      obtain ⟨h1, h2⟩ := and2 h
      obtain ⟨v1, v2, v3, v4⟩ := g.var h1
      obtain ⟨κ, k1, k2⟩ := key_lit (X := X) h2 h3
      exact ss_sidx2 g.room v1 v2 v3 v4 k1 k2 noSl_const (ck_ok rj g F h5).1 (ck_ok r g F h6).1 (sub_ht2 h4)
    · cases h
  | .sidx i rk rv, sc, so, x, X, g, F, h => by
    unfold ckS at h
    split at h
    · obtain ⟨h, h4⟩ := and2 h
      obtain ⟨h, h3⟩ := and2 h
      obtain ⟨h1, h2⟩ := and2 h
      obtain ⟨v1, v2, v3, v4⟩ := g.var h1
      exact ss_sidx g.room v1 v2 v3 v4 (ck_ok rk g F h3).1 (ck_ok rv g F h4).1 (sub_ht h2)
    · cases h
  | .sfld _ _ _ _, sc, so, x, X, g, F, h => by
    unfold ckS at h
    cases h
  | .ex r, sc, so, x, X, g, F, h => by
    unfold ckS at h
    split at h
    · obtain ⟨h1, h2⟩ := and2 h
      exact ss_ex h1 (ck_ok r g F h2).1
    · cases h
  | .ret r, sc, so, x, X, g, F, h => by
    unfold ckS at h
    split at h
    · exact ss_ret (ck_ok r g F h).1
    · cases h
  | .retn, sc, so, x, X, g, F, h => by
    unfold ckS at h
    split at h
    · exact ss_retn
    · cases h
  | .ife t a b, sc, so, x, X, g, F, h => by
    unfold ckS at h
    split at h
    · obtain ⟨h, h3⟩ := and2 h
      obtain ⟨h1, h2⟩ := and2 h
      exact ss_ife (ck_ok t g F h1).1 (ckSs_ok a g F h2) (ckSs_ok b g F h3)
    · cases h
  | .for_ t it b, sc, so, x, X, g, F, h => by
    unfold ckS at h
    split at h
    · obtain ⟨h, h4⟩ := and2 h
      obtain ⟨h, h3⟩ := and2 h
      obtain ⟨h1, h2⟩ := and2 h
      exact ss_for g.hp g.calm (ckI_ok it g F h2) (ckG_ok g F t _ h3) (ckSs_ok b g F h4) (folded_of h1)
    · cases h
  | .whl t b, sc, so, x, X, g, F, h => by
    unfold ckS at h
    split at h
    · obtain ⟨h1, h2⟩ := and2 h
      exact ss_whl g.hp (ck_ok t g F h1).1 (ckSs_ok b g F h2)
    · cases h
  | .brk, sc, so, x, X, g, F, h => by
    unfold ckS at h
    split at h
    · exact ss_brk
    · cases h
  | .cnt, sc, so, x, X, g, F, h => by
    unfold ckS at h
    split at h
    · exact ss_cnt
    · cases h
  | .pas, sc, so, x, X, g, F, h => by
    unfold ckS at h
    split at h
    · exact ss_pas
    · exact ss_doc
    · cases h
  | .nev, sc, so, x, X, g, F, h => ss_nev
theorem ckSs_ok : ∀ (s : RSs) {sc so : Scope} {x : List Stmt} {X : Cx}, Gd X sc so N k → FactsX X cl C T k → ckSs T N s sc so x = true → SSs X cl x (execs C M s)
  | .nil, sc, so, x, X, g, F, h => by
    unfold ckSs at h
    cases (List.isEmpty_iff.mp h)
    exact ss_nil
  | .cons s ss, sc, so, x, X, g, F, h => by
    unfold ckSs at h
    split at h
    · obtain ⟨h1, h2⟩ := and2 h
      exact ss_cons (ckS_ok s g F h1) (ckSs_ok ss g F h2)
    · cases h
end
end
end R
end
section
set_option linter.all false
set_option maxRecDepth 100000
set_option maxHeartbeats 4000000
/-! R20: defs: what the check gives. -/
namespace R
open PySem PySem.Spec PyProof.Rows L2
section
variable {K : PySem.W.Frag} {cl : Nat → Addr} {G H G' H' : Hp} {ι ι1 ι' : List Addr} {S S' : Sto}
abbrev At (ι : List Addr) : Nat → Addr → Prop := fun n a => ι[n]? = some a
theorem imp_pair : ∀ {svs : List SV} {vs : List V}, Paired (RepS K cl G ι) svs vs → ∃ ι1, Paired (At ι) (imps svs) ι1 ∧ ∀ pre : List Addr, Paired (RepS K cl G (pre ++ ι1)) (impV svs pre.length) vs
  | _, _, .nil => ⟨[], .nil, fun pre => .nil⟩
  | .p d :: svs, _, .cons r t => by
    obtain ⟨ι1, h1, h2⟩ := imp_pair t
    exact ⟨ι1, h1, fun pre => .cons r (h2 pre)⟩
  | .l n :: svs, _, .cons r t => by
    obtain ⟨ι1, h1, h2⟩ := imp_pair t
    obtain ⟨a, ha, rfl⟩ := r
    refine ⟨a :: ι1, .cons ha h1, fun pre => .cons ⟨a, by simp, rfl⟩ ?_⟩
    have z := h2 (pre ++ [a])
    rw [List.append_assoc, List.length_append] at z
    exact z
theorem impC_get : ∀ {ns : List Nat} {S1 : Sto}, impC S ns = some S1 → S1.length = ns.length ∧ ∀ (j : Nat) (c : Cell), S1[j]? = some c → ∃ n : Nat, ns[j]? = some n ∧ S[n]? = some c ∧ notOwn c = true
  | [], S1, h => by
    cases h
    exact ⟨rfl, fun j c e => by simp at e⟩
  | n :: r, S1, h => by
    unfold impC at h
    cases q1 : S[n]? with
    | none => rw [q1] at h; cases h
    | some c0 =>
      cases q2 : impC S r with
      | none => rw [q1, q2] at h; cases h
      | some cs =>
        rw [q1, q2] at h
        simp only at h
        by_cases ho : notOwn c0 = true
        case neg => rw [if_neg ho] at h; cases h
        rw [if_pos ho] at h
        cases h
        obtain ⟨h1, h2⟩ := impC_get q2
        refine ⟨by simp [h1], fun j c e => ?_⟩
        cases j with
        | zero => simp at e; subst e; exact ⟨n, rfl, q1, ho⟩
        | succ j => exact h2 j c (by simpa using e)
theorem nodupB_ok : ∀ {ns : List Nat}, nodupB ns = true → ns.Nodup
  | [], _ => List.nodup_nil
  | n :: r, h => by
    obtain ⟨h1, h2⟩ := and2 (show (!r.contains n && nodupB r) = true from h)
    exact List.nodup_cons.mpr ⟨by simpa using h1, nodupB_ok h2⟩
theorem at_nodup (nd : ι.Nodup) : ∀ {ns : List Nat} {ι1 : List Addr}, ns.Nodup → Paired (At ι) ns ι1 → ι1.Nodup ∧ ∀ a ∈ ι1, ∃ n ∈ ns, ι[n]? = some a
  | _, _, _, .nil => ⟨List.nodup_nil, fun a h => by cases h⟩
  | n :: ns, _, h, .cons (b := a) r t => by
    obtain ⟨h1, h2⟩ := List.nodup_cons.mp h
    obtain ⟨h3, h4⟩ := at_nodup nd h2 t
    refine ⟨List.nodup_cons.mpr ⟨fun m => ?_, h3⟩, fun b hb => ?_⟩
    · obtain ⟨n', hn, e⟩ := h4 a m
      rw [idx_unique nd r e] at h1
      exact h1 hn
    · rcases List.mem_cons.mp hb with rfl | hb
      · exact ⟨n, List.mem_cons_self .., r⟩
      · obtain ⟨n', hn, e⟩ := h4 b hb
        exact ⟨n', List.mem_cons_of_mem _ hn, e⟩
theorem at_get : ∀ {ns : List Nat} {ι1 : List Addr}, Paired (At ι) ns ι1 → ∀ {j : Nat} {a : Addr}, ι1[j]? = some a → ∃ n, ns[j]? = some n ∧ ι[n]? = some a
  | _, _, .nil, j, a, e => by simp at e
  | n :: ns, _, .cons r t, j, a, e => by
    cases j with
    | zero => simp at e; subst e; exact ⟨n, rfl, r⟩
    | succ j => exact at_get t (by simpa using e)
theorem CellRep.free {ι2 : List Addr} {a : Addr} {c : Cell} (h : CellRep K cl ι G H a c) (hn : notOwn c = true) : CellRep K cl ι2 G H a c := by
  cases c with
  | own _ _ _ => cases hn
  | lst _ => exact h
  | dct _ => exact h
  | obj _ _ => exact h
  | fro _ => exact h
  | dead => trivial
/-- the callee's cells -/
theorem RpH.imp (rp : RpH K cl S G ι H) {ns : List Nat} {S1 : Sto} (hn : ns.Nodup) (hp : Paired (At ι) ns ι1) (hS : impC S ns = some S1) : RpH K cl S1 G ι1 H := by
  obtain ⟨n1, n2⟩ := at_nodup rp.nd hn hp
  obtain ⟨s1, s2⟩ := impC_get hS
  refine ⟨rp.gs, by rw [s1, hp.length], n1, fun a ha => ?_, fun j a c e1 e2 => ?_⟩
  · obtain ⟨n, _, e⟩ := n2 a ha
    exact rp.inh a (List.mem_of_getElem? e)
  · obtain ⟨n, h1, h2⟩ := at_get hp e1
    obtain ⟨m, h3, h4, h5⟩ := s2 j c e2
    rw [h1] at h3; cases h3
    exact (rp.cel n a c h2 h4).free h5
theorem outC_len : ∀ {ns : List Nat} {cs : Sto} {S : Sto}, (outC S ns cs).length = S.length
  | [], cs, S => by unfold outC; rfl
  | n :: r, [], S => by unfold outC; rfl
  | n :: r, c :: cs, S => by unfold outC; rw [outC_len (ns := r)]; simp
theorem outC_ne : ∀ {ns : List Nat} {cs : Sto} {S : Sto} {n : Nat}, n ∉ ns → (outC S ns cs)[n]? = S[n]?
  | [], cs, S, n, _ => by unfold outC; rfl
  | m :: r, [], S, n, _ => by unfold outC; rfl
  | m :: r, c :: cs, S, n, h => by
    unfold outC
    have h' : n ≠ m ∧ n ∉ r := by simpa using h
    rw [outC_ne h'.2, List.getElem?_set_ne (Ne.symm h'.1)]
theorem outC_eq : ∀ {ns : List Nat} {cs : Sto} {S : Sto} {j n : Nat} {c : Cell}, ns.Nodup → ns[j]? = some n → cs[j]? = some c → n < S.length → (outC S ns cs)[n]? = some c
  | [], cs, S, j, n, c, _, h, _, _ => by simp at h
  | m :: r, [], S, j, n, c, _, _, h, _ => by simp at h
  | m :: r, c0 :: cs, S, j, n, c, hn, h1, h2, hl => by
    obtain ⟨h3, h4⟩ := List.nodup_cons.mp hn
    unfold outC
    cases j with
    | zero =>
      simp at h1 h2
      subst h1; subst h2
      rw [outC_ne h3, List.getElem?_set_self hl]
    | succ j => exact outC_eq h4 (by simpa using h1) (by simpa using h2) (by simpa using hl)
/-- back in the caller -/
theorem RpH.out (rp : RpH K cl S G ι H) {ns : List Nat} (hn : ns.Nodup) (hp : Paired (At ι) ns ι1) (rp' : RpH K cl S' G' ι' H') (x : Ext G H ι1 G' H' ι') (hc : clean ns S' = true) : RpH K cl (outC S ns S') G' ι H' ∧ Ext G H ι G' H' ι := by
  obtain ⟨n1, n2⟩ := at_nodup rp.nd hn hp
  obtain ⟨t, ht⟩ := x.i
  have sub : ∀ a ∈ ι1, a ∈ ι := fun a ha => let ⟨n, _, e⟩ := n2 a ha; List.mem_of_getElem? e
  have hl1 := hp.length
  refine ⟨⟨rp'.gs, by rw [outC_len, rp.len], rp.nd, fun a ha e => rp.inh a ha (x.hn a e), fun n a c e1 e2 => ?_⟩, x.g, ⟨[], by simp⟩, fun a u e na => x.fr a u e (fun z => na (sub a z)), fun a ha => .inl ha, fun a u e => ?_, x.hn⟩
  · by_cases hm : n ∈ ns
    · obtain ⟨j, hj, ej⟩ := List.mem_iff_getElem.mp hm
      have ej' : ns[j]? = some n := by rw [List.getElem?_eq_getElem hj, ej]
      have l1 : j < ι1.length := by rw [← hl1]; exact hj
      have l2 : j < S'.length := by rw [← rp'.len, ht, List.length_append]; omega
      have z := outC_eq (S := S) hn ej' (List.getElem?_eq_getElem l2) (by rw [← rp.len]; exact (List.getElem?_eq_some_iff.mp e1).1)
      rw [z] at e2
      cases e2
      have e3 : ι1[j]? = some a := by
        obtain ⟨m, h1, h2⟩ := at_get hp (List.getElem?_eq_getElem l1)
        rw [ej'] at h1; cases h1
        rw [h2] at e1; cases e1
        exact List.getElem?_eq_getElem l1
      have own : notOwn S'[j] = true := List.all_eq_true.mp hc S'[j] (List.mem_take_iff_getElem.mpr ⟨j, by omega, rfl⟩)
      refine (rp'.cel j a _ ?_ (List.getElem?_eq_getElem l2)).free own
      rw [ht, List.getElem?_append_left l1]
      exact e3
    · rw [outC_ne hm] at e2
      have na : a ∉ ι1 := fun z => by
        obtain ⟨m, h1, h2⟩ := n2 a z
        rw [idx_unique rp.nd e1 h2] at hm
        exact hm h1
      have ha := List.mem_of_getElem? e1
      refine (rp.cel n a c e1 e2).upG x.g (fun q => ?_) fun o q => x.fr a o q na
      cases q' : G' a with
      | none => rfl
      | some o =>
        rcases x.gn a o q' with z | z | z
        · rw [q] at z; cases z
        · exact absurd z (rp.inh a ha)
        · exact absurd z na
  · rcases x.gn a u e with z | z | z
    · exact .inl z
    · exact .inr (.inl z)
    · exact .inr (.inr (sub a z))
theorem env_start {fn : Fn} {svs : List SV} {vs : List V} {Nm : List Str} (hs : fn.slots = Nm.length) (h : Paired (RepS K cl G ι1) (impV svs 0) vs) (hl : svs.length = vs.length) : EnvR K cl (start fn svs) G ι1 (L2.start Nm vs) := by
  have hl2 := h.length
  refine ⟨?_, fun i sv e => ?_⟩
  · unfold R.start L2.start
    simp [hl2, hs, hl]
  · unfold R.start at e
    unfold L2.start
    by_cases hi : i < (impV svs 0).length
    · rw [List.getElem?_append_left (by simpa using hi), List.getElem?_map] at e
      cases q : (impV svs 0)[i]? with
      | none => rw [q] at e; cases e
      | some w =>
        rw [q] at e
        cases e
        obtain ⟨v, h1, h2⟩ := Paired.get h q
        exact ⟨v, by rw [List.getElem?_append_left (by simp; omega), List.getElem?_map, h1]; rfl, h2⟩
    · rw [List.getElem?_append_right (by simpa using hi)] at e
      have := List.mem_of_getElem? e
      have := List.eq_of_mem_replicate this
      cases this
/-- a cell of the callee's own -/
theorem fresh_of {ns : List Nat} {k : Nat} {p : Addr} (rp : RpH K cl S G ι H) (hp : Paired (At ι) ns ι1) (rp' : RpH K cl S' G' ι' H') (ex : Ext G H ι1 G' H' ι') (hk : ι'[k]? = some p) (hle : ns.length ≤ k) : H p = none ∧ p ∉ ι := by
  obtain ⟨t, ht⟩ := ex.i
  have hl1 := hp.length
  have n1 : p ∉ ι1 := fun z => by
    obtain ⟨j, hj, ej⟩ := List.mem_iff_getElem.mp z
    have e1 : ι'[j]? = some p := by rw [ht, List.getElem?_append_left hj, List.getElem?_eq_getElem hj, ej]
    have := idx_unique rp'.nd e1 hk
    omega
  have hp0 : H p = none := (ex.nw p (List.mem_of_getElem? hk)).resolve_left n1
  exact ⟨hp0, fun z => rp.inh p z hp0⟩
/-- a def's end -/
theorem end_post {ns : List Nat} {Q : VK} {q : StR} (rp : RpH K cl S G ι H) (hn : ns.Nodup) (hp : Paired (At ι) ns ι1) (h : Post K cl (RSv K cl) G ι H Q (endF ns S q)) : PostS K cl G ι1 H { nx := fun _ H' => Q .non H', rt := Q } q := by
  cases q with
  | nx e S' =>
    intro σ' H' G' ι' rp' ex re
    unfold endF at h
    by_cases hc : clean ns S' = true
    case neg => simp only [hc, Bool.false_eq_true, if_false] at h; exact h.elim
    simp only [hc, if_true] at h
    obtain ⟨a, b⟩ := rp.out hn hp rp' ex hc
    exact h .non H' G' ι a b rfl
  | rt sv S' =>
    intro v H' G' ι' rp' ex rv
    cases sv with
    | p d =>
      unfold endF at h
      by_cases hc : clean ns S' = true
      case neg => simp only [hc, Bool.false_eq_true, if_false] at h; exact h.elim
      simp only [hc, if_true] at h
      obtain ⟨a, b⟩ := rp.out hn hp rp' ex hc
      exact h v H' G' ι a b rv
    | l k =>
      obtain ⟨p, hk, rfl⟩ := rv
      unfold endF at h
      by_cases hc : clean ns S' = true
      case neg => simp only [hc, Bool.false_eq_true, if_false] at h; exact h.elim
      simp only [hc, if_true] at h
      obtain ⟨a, b⟩ := rp.out hn hp rp' ex hc
      cases qc : S'[k]? with
      | none => simp only [qc] at h; exact h.elim
      | some c =>
        have z := rp'.cel k p c hk qc
        have plain : notOwn c = true → ns.length ≤ k → Post K cl (RSv K cl) G ι H Q (.ok (.l S.length) (outC S ns S' ++ [c])) → Q (.ref p) H' := fun ho hle h => by
          obtain ⟨hp0, n2⟩ := fresh_of rp hp rp' ex hk hle
          have lk : (ι ++ [p])[S.length]? = some p := by rw [← rp.len]; simp
          exact h (.ref p) H' G' (ι ++ [p]) (a.cell (rp'.inh p (List.mem_of_getElem? hk)) n2 (z.free ho)) (b.cell hp0) ⟨p, lk, rfl⟩
        cases c with
        | own kvs key m =>
          simp only [qc] at h
          by_cases hle : ns.length ≤ k ∧ ns.length ≤ m ∧ m ≠ k
          · rw [if_pos hle] at h
            cases qm : S'[m]? with
            | none => simp only [qm] at h; exact h.elim
            | some c2 =>
              cases c2 with
              | lst xs =>
                simp only [qm] at h
                obtain ⟨z0, ks, d, z1, z2, z3, z4⟩ := z
                obtain ⟨hp0, n2⟩ := fresh_of rp hp rp' ex hk hle.1
                obtain ⟨hd0, n3⟩ := fresh_of rp hp rp' ex z1 hle.2.1
                have y := rp'.cel m d _ z1 qm
                have rpA := a.cell (c := .lst xs) (rp'.inh d (List.mem_of_getElem? z1)) n3 (y.free rfl)
                have ld : (ι ++ [d])[S.length]? = some d := by rw [← rp.len]; simp
                have ld2 : (ι ++ [d] ++ [p])[S.length]? = some d := by
                  rw [List.getElem?_append_left (List.getElem?_eq_some_iff.mp ld).1]; exact ld
                have n4 : p ∉ ι ++ [d] := fun q => by
                  rcases List.mem_append.mp q with q | q
                  · exact n2 q
                  · simp at q; exact z2 q.symm
                have rpB := rpA.cell (c := .own kvs key S.length) (rp'.inh p (List.mem_of_getElem? hk)) n4 ⟨z0, ks, d, ld2, z2, z3, z4⟩
                have lp : (ι ++ [d] ++ [p])[S.length + 1]? = some p := by rw [← rp.len]; simp
                exact h (.ref p) H' G' _ rpB ((b.cell hd0).cell hp0) ⟨p, lp, rfl⟩
              | _ => simp only [qm] at h; exact h.elim
          · rw [if_neg hle] at h; exact h.elim
        | lst _ => 
          simp only [qc] at h
          by_cases hle : ns.length ≤ k
          · rw [if_pos hle] at h; exact plain rfl hle h
          · rw [if_neg hle] at h; exact h.elim
        | dct _ => 
          simp only [qc] at h
          by_cases hle : ns.length ≤ k
          · rw [if_pos hle] at h; exact plain rfl hle h
          · rw [if_neg hle] at h; exact h.elim
        | obj _ _ => 
          simp only [qc] at h
          by_cases hle : ns.length ≤ k
          · rw [if_pos hle] at h; exact plain rfl hle h
          · rw [if_neg hle] at h; exact h.elim
        | fro _ => 
          simp only [qc] at h
          by_cases hle : ns.length ≤ k
          · rw [if_pos hle] at h; exact plain rfl hle h
          · rw [if_neg hle] at h; exact h.elim
        | dead => 
          simp only [qc] at h
          by_cases hle : ns.length ≤ k
          · rw [if_pos hle] at h; exact plain rfl hle h
          · rw [if_neg hle] at h; exact h.elim
  | bk e S' => exact h.elim
  | ct e S' => exact h.elim
  | exc c d S' => exact h.elim
  | bad => exact h.elim
end
section
variable {P : Program} {w : World} {K : PySem.W.Frag} {mg : Str → Option Value} {base : Heap} {cl : Nat → Addr} {x qual : Str} {params : Arguments} {body : List Stmt} {scope : Scope} {fa : Addr} {fd : FuncData} {Nm ps : List Str} {Tf : List Fn} {tab : Tab} {M d f k : Nat} {fn : Fn}
theorem callR_ok (h : Tf[f]? = some fn) {vs : List SV} {S S' : Sto} {a : SV} (e : callR Tf M (d + 1) f vs S = .ok a S') : vs.length = fn.np := by
  unfold callR at e
  rw [h] at e
  simp only [runF] at e
  split at e
  · rename_i hh
    exact hh.1
  · cases e
theorem fnR_ok (hT : Tf[f]? = some fn) (F : FunD K x qual params body scope [] [] fa fd) (Sc : FnScope Nm ps scope) (hnp : fn.np = ps.length) (hsl : fn.slots = Nm.length) (hck : ckSs tab Nm fn.body scope scope body = true) (facts : Facts P w K mg base cl (callR Tf M d) tab k) :
    FnG P w K mg base (k + 2) fa fd ps (spR K cl (callR Tf M (d + 1)) fn.np f) := by
  refine fnG_of F Sc (fun vs H Q E z => ?_) fun cdv A above s H vs Q cA hr hsp => ?_
  · obtain ⟨svs, S, G, ι, _, h2, h3, _⟩ := z
    rw [← h2.length, h3, hnp]
  · obtain ⟨svs, S, G, ι, rp, rr, hl, po⟩ := hsp
    have g : Gd (cxOf CX0 P w K mg base Nm qual scope fa cdv A above s H E0).nox scope scope Nm k := ⟨rfl, rfl, Sc.nd, rfl, cA, hr, fun _ _ => rfl, PassesOwn.never⟩
    refine ⟨_, ckSs_ok (M := M) fn.body g facts hck, ?_⟩
    unfold callR at po
    rw [hT] at po
    simp only [runF] at po
    by_cases hh : svs.length = fn.np ∧ fn.np ≤ fn.slots ∧ nodupB (imps svs) = true
    · rw [if_pos hh] at po
      cases qi : impC S (imps svs) with
      | none => rw [qi] at po; exact po.elim
      | some S1 =>
        rw [qi] at po
        simp only at po
        have nd := nodupB_ok hh.2.2
        obtain ⟨ι1, i1, i2⟩ := imp_pair rr
        exact ⟨start fn svs, S1, G, ι1, rp.imp nd i1 qi, env_start hsl (i2 []) rr.length, end_post rp nd i1 po⟩
    · rw [if_neg hh] at po; exact po.elim
/-! all defs -/
structure Ent (K : PySem.W.Frag) (Tf : List Fn) (tab : Tab) (f : Nat) (fa : Addr) (fd : FuncData) (ps : List Str) : Prop where
  ex : ∃ (fn : Fn) (x qual : Str) (params : Arguments) (body : List Stmt) (scope : Scope) (Nm : List Str), Tf[f]? = some fn ∧ FunD K x qual params body scope [] [] fa fd ∧ FnScope Nm ps scope ∧ fn.np = ps.length ∧ fn.slots = Nm.length ∧ ckSs tab Nm fn.body scope scope body = true
  bi : Binds K fd ps []
structure Stat (P : Program) (K : PySem.W.Frag) (mg : Str → Option Value) (cl : Nat → Addr) (Tf : List Fn) (tab : Tab) : Prop where
  fn : ∀ y f, tab.fns.lookup y = some f → ∃ fa fd ps, Ent K Tf tab f fa fd ps ∧ mg y = some (.ref fa) ∧ ∀ q ∈ tab.kwf, q.1 = f → KwB K fd ps q.2.1 q.2.2 0
  cls : ∀ y c f, tab.cls.lookup y = some (c, f) → ∃ fa fd ps, Ent K Tf tab f fa fd ps ∧ Mk K (cl c) fa ∧ mg y = some (.ref (cl c)) ∧ ∀ q ∈ tab.kwc, q.1 = f → KwB K fd ps q.2.1 q.2.2 1
  mth : ∀ c m f, (c, m, f) ∈ tab.mth → ∃ fa fd ps, Ent K Tf tab f fa fd ps ∧ Cls K (cl c) ∧ Meth K (cl c) m fa
  prp : ∀ c m f, (c, m, f) ∈ tab.prp → ∃ fa fd ps pr, Ent K Tf tab f fa fd ps ∧ Cls K (cl c) ∧ PropOf K (cl c) m pr fa
  fld : ∀ c g, (c, g) ∈ tab.fld → Cls K (cl c) ∧ NoAttr K (cl c) g
  con : ∀ y d, tab.con.lookup y = some d → ∃ v u, mg y = some u ∧ RelV v u ∧ ∀ G, Rep K cl G d v
  fre : ∀ y ∈ tab.fre, mg y = none
  exc : ∃ D fI fd, (∀ p ∈ tab.exc, mg p.1 = some (.ref (cl p.2)) ∧ ExcF K D fI (cl p.2)) ∧ (tab.exc ≠ [] → IniF K P D fI fd ∧ mg "super" = none ∧ Binds K fd ["self", "value"] []) ∧
    ∀ p ∈ tab.isx, ∃ tv cv, ((∃ u, mg p.1 = some u ∧ RelV tv u) ∨ (mg p.1 = none ∧ ∃ u, bootBuiltins p.1 = some u ∧ RelV tv u ∧ p.1 ≠ "__name__")) ∧ (∀ u, RelV tv u → u = cv) ∧ ∀ c b, p.2.lookup c = some b → ExcF K D fI (cl c) ∧ PySem.W.kitOne K (.ref (cl c)) cv = some b
theorem exc_none {P : Program} {K : PySem.W.Frag} {mg : Str → Option Value} {cl : Nat → Addr} {tab : Tab} (h1 : tab.exc = []) (h2 : tab.isx = []) (fd : FuncData) : ∃ D fI fd, (∀ p ∈ tab.exc, mg p.1 = some (.ref (cl p.2)) ∧ ExcF K D fI (cl p.2)) ∧ (tab.exc ≠ [] → IniF K P D fI fd ∧ mg "super" = none ∧ Binds K fd ["self", "value"] []) ∧
    ∀ p ∈ tab.isx, ∃ tv cv, ((∃ u, mg p.1 = some u ∧ RelV tv u) ∨ (mg p.1 = none ∧ ∃ u, bootBuiltins p.1 = some u ∧ RelV tv u ∧ p.1 ≠ "__name__")) ∧ (∀ u, RelV tv u → u = cv) ∧ ∀ c b, p.2.lookup c = some b → ExcF K D fI (cl c) ∧ PySem.W.kitOne K (.ref (cl c)) cv = some b :=
  ⟨0, 0, fd, (fun p hp => by rw [h1] at hp; cases hp), fun z => absurd h1 z, (fun p hp => by rw [h2] at hp; cases hp)⟩
theorem Ent.ok {fa : Addr} {fd : FuncData} {ps : List Str} (e : Ent K Tf tab f fa fd ps) (ih : Facts P w K mg base cl (callR Tf M d) tab k) : ∃ n, ArOk (callR Tf M (d + 1)) n f ∧ FnG P w K mg base (k + 2) fa fd ps (spR K cl (callR Tf M (d + 1)) n f) ∧ PySem.W.keepIn K (.ref fa) = true := by
  obtain ⟨fn, x, qual, params, body, scope, Nm, h1, h2, h3, h4, h5, h6⟩ := e.ex
  exact ⟨fn.np, fun vs S a S' z => callR_ok h1 z, fnR_ok h1 h2 h3 h4 h5 h6 ih, h2.kp⟩
theorem Ent.zero {fa : Addr} {fd : FuncData} {ps : List Str} (e : Ent K Tf tab f fa fd ps) : ∃ n, ArOk (callR Tf M 0) n f ∧ FnG P w K mg base k fa fd ps (spR K cl (callR Tf M 0) n f) ∧ PySem.W.keepIn K (.ref fa) = true := by
  obtain ⟨fn, x, qual, params, body, scope, Nm, h1, h2, h3, h4, h5, h6⟩ := e.ex
  refine ⟨0, fun vs S a S' z => (by cases (show Res.bad = Res.ok a S' from z)), ⟨fun vs H Q E z => ?_, fun _ _ _ _ _ z => ?_⟩, h2.kp⟩
  · obtain ⟨svs, S, G, ι, _, _, _, h⟩ := z
    exact h.elim
  · obtain ⟨svs, S, G, ι, _, _, _, h⟩ := z
    exact h.elim
theorem facts_of (st : Stat P K mg cl Tf tab) {C : CallF} (hk : 1 ≤ k) (h : ∀ f fa fd ps, Ent K Tf tab f fa fd ps → ∃ n, ArOk C n f ∧ FnG P w K mg base k fa fd ps (spR K cl C n f) ∧ PySem.W.keepIn K (.ref fa) = true) : Facts P w K mg base cl C tab k := by
  refine ⟨fun y f e => ?_, fun y c f e => ?_, fun c m f e => ?_, fun c m f e => ?_, st.fld, st.con, st.fre, ?_⟩
  · obtain ⟨fa, fd, ps, en, h1, h2⟩ := st.fn y f e
    obtain ⟨n, a1, a2, a3⟩ := h f fa fd ps en
    exact ⟨n, fa, fd, ps, a1, a2, h1, a3, en.bi, h2⟩
  · obtain ⟨fa, fd, ps, en, h0, h1, h2⟩ := st.cls y c f e
    obtain ⟨n, a1, a2, a3⟩ := h f fa fd ps en
    exact ⟨n, fa, fd, ps, a1, h0, a2, h1, en.bi, h2⟩
  · obtain ⟨fa, fd, ps, en, h0, h1⟩ := st.mth c m f e
    obtain ⟨n, a1, a2, a3⟩ := h f fa fd ps en
    exact ⟨n, fa, fd, ps, a1, a2, en.bi, h0, h1⟩
  · obtain ⟨fa, fd, ps, pr, en, h0, h1⟩ := st.prp c m f e
    obtain ⟨n, a1, a2, a3⟩ := h f fa fd ps en
    exact ⟨n, fa, fd, ps, pr, a1, a2, en.bi, h0, h1⟩
  · obtain ⟨D, fI, fd, e1, e2, e3⟩ := st.exc
    exact ⟨D, fI, fd, e1, fun z => let ⟨a, b, c⟩ := e2 z; ⟨a.tI, (init_ok a b).more hk, c⟩, e3⟩
theorem facts_all (st : Stat P K mg cl Tf tab) : ∀ d, Facts P w K mg base cl (callR Tf M d) tab (2 * d + 1)
  | 0 => facts_of st (by omega) fun f fa fd ps e => e.zero
  | d + 1 => facts_of (k := 2 * d + 1 + 2) st (by omega) fun f fa fd ps e => e.ok (facts_all st d)
end
end R
end
section
set_option linter.all false
set_option maxRecDepth 100000
set_option maxHeartbeats 2000000
/-! R21: the end: a law from what its def computes. -/
namespace R
open PySem PySem.Spec PyProof.Rows L2
section
variable {P : Program} {w : World} {K : PySem.W.Frag} {mg mb : Str → Option Value} {k : Nat} {fa a : Addr} {fd : FuncData} {x : Str} {sp : Sp} {z : Shared} {vs : List Value} {ns : List Int}
/-- what comes back to the top -/
abbrev Done (z : Shared) : Result → Shared → Prop := fun r s' => r = .ok (.ret (.bool true)) ∧ OldK z.heap s'.heap ∧ s'.os = z.os ∧ AllBare s'.gens
/-- from an abstract heap U in which nothing but the script may be tracked -/
theorem end_core (inK : K.In z.heap) (gl : z.heap.Ns mainGlobals mg) (bl : z.heap.Ns builtinsNs mb) (bb : ∀ y : Str, y ≠ "__name__" → mb y = bootBuiltins y) (lim : z.heap.NoLimit) (gn : z.gens = #[])
    (ha : z.heap.get? a = some { cls := .type "list", data := .seq vs.toArray }) (rm : Room k callerA) (cm : Calm callerA)
    (F : ∀ base : Heap, K.In base → base.Ns mainGlobals mg → FnG P w K mg base k fa fd [x] sp) (bind : ∀ (s : Shared) (u : Value), BindsTo s fd ⟨[u], []⟩ [(x, u)])
    {U : Hp} (oU : Only U) (hU : HOk P w U z.heap) (nU : ∀ b, U b ≠ none → b = a) (kU : U a ≠ none → K.lookup a = none) (hs : sp [.ref a] U (fun v _ => v = .bl true) E0) :
    codeAny (model P w) callerA (.call (.ref fa) ⟨[.ref a], []⟩) (Done z) z := by
  have free : ∀ {b : Addr}, b ≠ a → U b = none := fun {b} h => by
    cases q : U b with
    | none => rfl
    | some u => exact absurd (nU b (by rw [q]; simp)) h
  have keep : ∀ {b : Addr} {o : Obj}, z.heap.get? b = some o → U b = none → (hidT z.heap U).get? b = some o := fun e n => hidT_get e n
  have notD : ∀ {b : Addr} {o : Obj} {es : Array DictEntry} {ep : Nat}, z.heap.get? b = some o → o.data = .dict es ep → U b = none := fun {b o es ep} e d => by
    by_cases h : b = a
    · subst h
      rw [ha] at e
      cases e
      exact absurd (show Data.seq vs.toArray _ = Data.dict es ep from d) (fun q => nomatch q)
    · exact free h
  have nsU : ∀ {b : Addr} {m : Str → Option Value}, z.heap.Ns b m → (hidT z.heap U).Ns b m := fun {b m} q => by
    obtain ⟨o, es, ep, e, d, r⟩ := q
    exact ⟨o, es, ep, keep e (notD e d), d, r⟩
  have inU : K.In (hidT z.heap U) := fun b o e => keep (inK b o e) (by
    cases q : U b with
    | none => rfl
    | some u =>
      have hb := nU b (by rw [q]; simp)
      subst hb
      rw [kU (by rw [q]; simp)] at e
      cases e)
  have md : Mod K mg (hidT z.heap U) := by
    obtain ⟨mc, l1, l2⟩ := lim
    exact ⟨inU, nsU gl, ⟨mb, nsU bl, bb⟩, ⟨mc, nsU l1, l2⟩⟩
  have env : Env0 P w K mg (hidT z.heap U) callerA [] z U :=
    ⟨rfl, md, fun b o e => of_hidT e, Nat.le_of_eq (hidT_size _ _), trivial, fun b hb => absurd (show b ∈ ([] : List Addr) from hb) (by simp), hU, .of_eq gn⟩
  refine codeAny_mono ((F _ inU (nsU gl)).go (us := [.ref a]) (vs := [.ref a]) cm rm env (bind z (.ref a)) (.cons rfl .nil) hs) fun r s' h => ?_
  cases r with
  | error e => exact h.elim
  | ok fl =>
    cases fl with
    | ret u =>
      obtain ⟨v, U', os, bare, un, ok', rv, rfl⟩ := h
      cases (show u = Value.bool true from rv)
      refine ⟨rfl, OldK.of_keep fun b o e => ?_, os, bare⟩
      cases q : U b with
      | none => exact un.keep b o e q (fun m => absurd (show b ∈ ([] : List Addr) from m) (by simp)) (by simp)
      | some u =>
        rcases oU b with m | ⟨ob, xs, m⟩
        · rw [q] at m; cases m
        · obtain ⟨e1, _⟩ := hU b _ m
          obtain ⟨e2, _⟩ := ok' b _ (un.frzs b ob _ m)
          rw [e] at e1
          cases e1
          exact e2
    | next => exact h.elim
    | brk => exact h.elim
    | cont => exact h.elim
theorem end_call (inK : K.In z.heap) (gl : z.heap.Ns mainGlobals mg) (bl : z.heap.Ns builtinsNs mb) (bb : ∀ y : Str, y ≠ "__name__" → mb y = bootBuiltins y) (lim : z.heap.NoLimit) (gn : z.gens = #[])
    (ha : z.heap.get? a = some { cls := .type "list", data := .seq vs.toArray }) (hi : IntsAre vs ns) (hl : ns.length ≤ sizeLine) (rm : Room k callerA) (cm : Calm callerA)
    (F : ∀ base : Heap, K.In base → base.Ns mainGlobals mg → FnG P w K mg base k fa fd [x] sp) (bind : ∀ (s : Shared) (u : Value), BindsTo s fd ⟨[u], []⟩ [(x, u)])
    (hs : ∀ U : Hp, Only U → SqL K U a (ns.map V.int) → sp [.ref a] U (fun v _ => v = .bl true) E0) : codeAny (model P w) callerA (.call (.ref fa) ⟨[.ref a], []⟩) (Done z) z := by
  have rv := vals_ints hi
  have ln := hi.length
  cases hk : K.lookup a with
  | some o =>
    have e := inK a o hk
    rw [ha] at e
    cases e
    refine end_core inK gl bl bb lim gn ha rm cm F bind (U := fun _ => none) (fun _ => .inl rfl) (fun b u q => nomatch (show (none : Option HO) = some u from q)) (fun b q => absurd rfl q) (fun q => absurd rfl q) ?_
    exact hs _ (fun _ => .inl rfl) (.inr ⟨_, vs.toArray, _, hk, rfl, rfl, rfl, by rw [List.size_toArray, ln]; exact hl, by simpa using rv⟩)
  | none =>
    let U : Hp := fun b => if b = a then some (.frz { cls := .type "list", data := .seq vs.toArray } (.lst (ns.map V.int))) else none
    have ua : U a = some (.frz { cls := .type "list", data := .seq vs.toArray } (.lst (ns.map V.int))) := if_pos rfl
    have un : ∀ {b : Addr}, b ≠ a → U b = none := fun h => if_neg h
    have oU : Only U := fun b => by
      by_cases hb : b = a
      · subst hb; exact .inr ⟨_, _, ua⟩
      · exact .inl (un hb)
    refine end_core inK gl bl bb lim gn ha rm cm F bind (U := U) oU (fun b u q => ?_) (fun b q => ?_) (fun _ => hk) (hs U oU (.inl (.inr ⟨_, ua⟩)))
    · by_cases hb : b = a
      · subst hb
        rw [ua] at q
        cases q
        exact ⟨ha, by rw [List.length_map]; exact hl, vs, _, rv, ha⟩
      · rw [un hb] at q; cases q
    · by_cases hb : b = a
      · exact hb
      · exact absurd (un hb) q
end
/-- a law of a script from what its def computes -/
theorem walkR {l : PySem.W.OpenLaw} {n k d : Nat} {q : Program} {loose : List Str} {XP : (Str → Option Value) → Heap → Prop} {YP : World → Heap → Prop} {df : DefRec} {x : Str} {Tf : List Fn} {f : Nat}
    (hn : l.most = some n) (hn2 : n ≤ sizeLine) (hdf : df.params.defaults = []) (rm : Room k callerA) (cm : Calm callerA)
    (F : ∀ (w : World) (mg : Str → Option Value) (fa : Addr) (h : Heap), YP w h → h.Ns mainGlobals mg → mg df.name = some (.ref fa) →
      ∃ (K : PySem.W.Frag) (cl : Nat → Addr) (fd : FuncData), K.In h ∧ (∀ (s : Shared) (u : Value), BindsTo s fd ⟨[u], []⟩ [(x, u)]) ∧
        ∀ (M : Nat) (base : Heap), K.In base → base.Ns mainGlobals mg → FnG l.prog w K mg base k fa fd [x] (spR K cl (callR Tf M d) 1 f))
    (law : ∀ ns : List Int, ns.length ≤ n → (∀ i ∈ ns, Builtin.Int.intBits i ≤ 1048576) → ∃ (M : Nat) (S : Sto), callR Tf M d f [.p (.scr ns)] [] = .ok (.p (.bl true)) S) :
    PySem.W.WalkO q loose XP YP l.row.toRowW df [] (fun f vs => PySem.call f vs) := by
  refine Att.attach_callB hn hdf fun w s₀ z mg mb fa o pm cd doc a vs ns G Y ho hd hcd hmg hobj hints hlen hbits hg => ?_
  obtain ⟨K, cl, fd, inK, hb, hF⟩ := F w mg fa _ Y G.T.g hmg
  obtain ⟨M, S, e⟩ := law ns hlen hbits
  refine end_call inK G.T.g G.T.b G.T.builtins G.T.nolimit hg hobj hints (Nat.le_trans hlen hn2) rm cm (hF M) hb fun U oU hS => ?_
  refine ⟨[.p (.scr ns)], [], U, [], ⟨Same.refl _, rfl, List.nodup_nil, fun a h => (by cases h), fun n a c h => (by simp at h)⟩, .cons ⟨a, rfl, hS⟩ .nil, rfl, ?_⟩
  rw [e]
  intro v H' G' ι' _ _ r
  exact r
theorem calm_top : Calm callerA := by
  first | rfl | decide
end R
end
section
set_option linter.all false
set_option maxRecDepth 100000
/-! R22: what a head gives. -/
namespace R
open PySem PySem.Spec PyProof.Rows L2
theorem kwb_of {K : PySem.W.Frag} {x qual : Str} {params : Arguments} {body : List Stmt} {scope : Scope} {f : Addr} {fd : FuncData} {ps ks : List Str} {perm : List Nat} {skip : Nat} (F : FunD K x qual params body scope [] [] f fd)
    (h : ∀ (kV doc pm : Value) (an : Option Addr) (cdv ct : Value) (us ws : List Value), us.length = skip → ws.length = ks.length → bindArgs (PySem.W.fnOf x qual params body scope .none kV doc pm an cdv ct) ⟨us, ks.zip ws⟩ = pure (ps.zip (us ++ perm.filterMap fun i => ws[i]?))) : KwB K fd ps ks perm skip := by
  obtain ⟨oc, od, dV, kV, doc, pm, an, cdv, ct, osl, rfl, lk, hcd, hD, hK⟩ := F.ex
  rcases hD with ⟨_, rfl⟩ | ⟨e, _⟩
  · exact ⟨fun s us ws X l1 l2 => .of_eq (h kV doc pm an cdv ct us ws l1 l2)⟩
  · exact absurd rfl e
theorem all_nil {α : Type} {p : α → Prop} : ∀ q ∈ ([] : List α), p q := fun q h => nomatch h
theorem all_cons {α : Type} {p : α → Prop} {a : α} {l : List α} (h : p a) (t : ∀ q ∈ l, p q) : ∀ q ∈ a :: l, p q := fun q m => by
  rcases List.mem_cons.mp m with rfl | m
  · exact h
  · exact t q m
theorem mem_look {β : Type} {l : List (Str × β)} {y : Str} {v : β} (h : l.lookup y = some v) : (y, v) ∈ l := by
  induction l with
  | nil => cases h
  | cons p r ih =>
    obtain ⟨a, b⟩ := p
    rw [List.lookup_cons] at h
    cases q : (y == a) with
    | true => rw [q] at h; cases h; rw [eq_of_beq q]; exact List.mem_cons_self ..
    | false => rw [q] at h; exact List.mem_cons_of_mem _ (ih h)
end R
end
section
set_option linter.all false
set_option maxRecDepth 100000
set_option maxHeartbeats 2000000
/-! RH: a head's facts of classes of errors. -/
namespace R
open PySem PySem.Spec PyProof.Rows L2 NdefX
def oexB (K : PySem.W.Frag) (C : Addr) : Bool := match K.lookup C with
  | some ⟨.type t, _, .cls cd, sl⟩ => decide (t = "type") && (match cd.mro, sl.toList with
    | .ref C' :: bm, [_, _, _, _, some (.builtin n), _] => decide (C' = C) && (decide (n = "ValueError.__new__") && (!cd.hasDel && (cd.hasDict && PySem.HandSPX.refsVE bm)))
    | _, _ => false)
  | _ => false
theorem oexB_ok {K : PySem.W.Frag} {C : Addr} (h : oexB K C = true) : ∃ nm q N bs bm sn sub ab col dd k0 k1 k2 k3 k5, K.lookup C = some (excClassObj nm q C N bs bm true sn sub ab col dd k0 k1 k2 k3 k5 "ValueError.__new__") ∧ PySem.HandSPX.refsVE bm = true := by
  unfold oexB at h
  split at h
  · rename_i t dd cd sl ho
    obtain ⟨h1, h0⟩ := Bool.and_eq_true_iff.mp h
    clear h
    cases of_decide_eq_true h1
    split at h0
    · rename_i C' bm k0 k1 k2 k3 n k5 hm hs
      have h := h0
      clear h0
      obtain ⟨h2, h⟩ := Bool.and_eq_true_iff.mp h
      obtain ⟨h3, h⟩ := Bool.and_eq_true_iff.mp h
      obtain ⟨h4, h⟩ := Bool.and_eq_true_iff.mp h
      obtain ⟨h5, h6⟩ := Bool.and_eq_true_iff.mp h
      cases of_decide_eq_true h2
      cases of_decide_eq_true h3
      obtain ⟨nm, bs, mro, ns, qn, hd, sn, sub, ab, col, del⟩ := cd
      dsimp only at hm h4 h5
      have h4 : del = false := by simpa using h4
      subst hm h4 h5
      have hsl : sl = #[k0, k1, k2, k3, some (.builtin "ValueError.__new__"), k5] := by
        obtain ⟨l⟩ := sl
        simp only at hs
        rw [hs]
      subst hsl
      exact ⟨nm, qn, ns, bs, bm, sn, sub, ab, col, dd, k0, k1, k2, k3, k5, ho, h6⟩
    · cases h0
  · cases h
def excB (K : PySem.W.Frag) (D fI C : Addr) : Bool := oexB K C && (decide (PySem.W.findIn K (.ref C) "__setattr__" = some (some (.builtin "object.__setattr__"))) && (decide (PySem.W.subIn K (.ref C) (.type "BaseException") = some true) && (decide (PySem.W.typeIn K (.ref C) = some (.type "type")) && (PySem.W.keepIn K (.ref C) &&
  (decide (PySem.W.findIn K (.ref C) "__init__" = some (some (.ref fI))) && (decide (PySem.W.findIn K (.ref C) "value" = some none) && (decide (PySem.W.findIn K (.ref C) "__getattribute__" = some (some (.builtin "BaseException.__getattribute__"))) && (decide (PySem.W.findIn K (.ref C) "__getattr__" = some none) && (PySem.W.hasDictIn K C &&
  (decide (PySem.W.findIn K (.ref C) "__class__" = some (some (.builtin "object.__class__"))) && (decide (PySem.W.mroIn K C (.type "object") = some true) && (decide (PySem.W.subIn K (.ref C) (.type "ValueError") = some true) && (decide (PySem.W.ks_superIn K C D "__init__" = some (some (.builtin "ValueError.__init__"))) && decide (PySem.W.mroIn K C (.ref D) = some true))))))))))))))
def genB (K : PySem.W.Frag) (D fI : Addr) : Bool := decide (PySem.W.specialIn K (.builtin "object.__class__") "__get__" = some (some (.builtin "getset_descriptor.__get__"))) && (decide (PySem.W.takesIn K (.builtin "object.__class__") = some true) && (decide (PySem.W.typeIn K (.ref fI) = some (.type "function")) && (decide (PySem.W.nsIn K cStatics "thirdparty.any" = some none) && (PySem.W.clsIn K D).isSome)))
theorem excB_ok {K : PySem.W.Frag} {D fI C : Addr} (g : genB K D fI = true) (h : excB K D fI C = true) : ExcF K D fI C := by
  obtain ⟨g1, g⟩ := Bool.and_eq_true_iff.mp g
  obtain ⟨g2, g⟩ := Bool.and_eq_true_iff.mp g
  obtain ⟨h1, h⟩ := Bool.and_eq_true_iff.mp h
  obtain ⟨h2, h⟩ := Bool.and_eq_true_iff.mp h
  obtain ⟨h3, h⟩ := Bool.and_eq_true_iff.mp h
  obtain ⟨h4, h⟩ := Bool.and_eq_true_iff.mp h
  obtain ⟨h5, h⟩ := Bool.and_eq_true_iff.mp h
  obtain ⟨h6, h⟩ := Bool.and_eq_true_iff.mp h
  obtain ⟨h7, h⟩ := Bool.and_eq_true_iff.mp h
  obtain ⟨h8, h⟩ := Bool.and_eq_true_iff.mp h
  obtain ⟨h9, h⟩ := Bool.and_eq_true_iff.mp h
  obtain ⟨h10, h⟩ := Bool.and_eq_true_iff.mp h
  obtain ⟨h11, h⟩ := Bool.and_eq_true_iff.mp h
  obtain ⟨h12, h⟩ := Bool.and_eq_true_iff.mp h
  obtain ⟨h13, h⟩ := Bool.and_eq_true_iff.mp h
  obtain ⟨h14, h15⟩ := Bool.and_eq_true_iff.mp h
  exact ⟨⟨oexB_ok h1, of_decide_eq_true h2, of_decide_eq_true h3, of_decide_eq_true h4, h5⟩, of_decide_eq_true h6, of_decide_eq_true h7, of_decide_eq_true h8, of_decide_eq_true h9, h10, of_decide_eq_true h11, of_decide_eq_true h12, of_decide_eq_true h13, of_decide_eq_true h14, of_decide_eq_true h15, of_decide_eq_true g1, of_decide_eq_true g2⟩
abbrev IniW : Type := Option (Str × Str × Arguments × FuncBody × Scope × Addr × Addr × Value)
def iniW (K : PySem.W.Frag) (p : Str × Option Str) : IniW := match K.lookup (He.fAd K p) with
  | some ⟨_, _, .func fd, _⟩ => some (fd.name, fd.qualname, fd.params, fd.body, fd.scope, fd.globals, fd.builtins, fd.defaults)
  | _ => none
def iniB (K : PySem.W.Frag) (p : Str × Option Str) (D : Addr) (qual file : Str) : Bool := match K.lookup (He.fAd K p) with
  | some ⟨_, _, .func fd, _⟩ => (match fd.closure, fd.code with
    | [(x, cc)], .ref cda => decide (x = "__class__") && (PySem.W.codeIn K (.ref cda) qual && ((match K.lookup cda with
      | some ⟨_, _, .fields vs, _⟩ => (match (vs : Array Value)[2]? with
        | some (Value.str f _) => decide (f = file)
        | _ => false)
      | _ => false) && (match K.lookup cc with
      | some ⟨_, _, .cell (some (.ref D')), _⟩ => decide (D' = D)
      | _ => false)))
    | _, _ => false)
  | _ => false
theorem ini_of {K : PySem.W.Frag} {p : Str × Option Str} {D : Addr} {name qual file : Str} {params : Arguments} {body : List Stmt} {scope : Scope} (e : iniW K p = some (name, qual, params, .stmts body, scope, mainGlobals, builtinsNs, .none)) (c : iniB K p D qual file = true) :
    ∃ (kV doc pm ct : Value) (an : Option Addr) (cc cda : Addr) (oc : Value) (od : Option Addr) (osl : Array (Option Value)), K.lookup (He.fAd K p) = some ⟨oc, od, .func (PySem.W.ksFn name qual params body scope .none kV doc pm an (.ref cda) ct cc), osl⟩ ∧ PySem.W.codeIn K (.ref cda) qual = true ∧
      (∃ c1 c2 vs c4 tf, K.lookup cda = some ⟨c1, c2, .fields vs, c4⟩ ∧ vs[2]? = some (.str file tf)) ∧ (∃ c1 c2 c4, K.lookup cc = some ⟨c1, c2, .cell (some (.ref D)), c4⟩) := by
  unfold iniW at e
  unfold iniB at c
  cases q : K.lookup (He.fAd K p) with
  | none => rw [q] at c; cases c
  | some o =>
    obtain ⟨oc, od, dt, osl⟩ := o
    rw [q] at c e
    cases dt with
    | func fd =>
      obtain ⟨n1, n2, n3, n4, n5, n6, n7, n8, n9, n10, n11, n12, n13, n14, n15⟩ := fd
      have e2 : (some (n1, n2, n3, n4, n5, n6, n15, n8) : IniW) = some (name, qual, params, .stmts body, scope, mainGlobals, builtinsNs, .none) := e
      simp only [Option.some.injEq, Prod.mk.injEq] at e2
      obtain ⟨h1, h2, h3, h4, h5, h6, h7, h8⟩ := e2
      subst h1 h2 h3 h4 h5 h6 h7 h8
      simp only at c
      split at c
      · rename_i x cc cda
        obtain ⟨c1, c⟩ := Bool.and_eq_true_iff.mp c
        obtain ⟨c2, c⟩ := Bool.and_eq_true_iff.mp c
        obtain ⟨c3, c4⟩ := Bool.and_eq_true_iff.mp c
        cases of_decide_eq_true c1
        refine ⟨n9, n10, n11, n14, n12, cc, cda, oc, od, osl, rfl, c2, ?_, ?_⟩
        · split at c3
          · rename_i b1 b2 vs b4 hl
            split at c3
            · rename_i f t hv
              cases of_decide_eq_true c3
              exact ⟨_, _, vs, _, t, hl, hv⟩
            · cases c3
          · cases c3
        · split at c4
          · rename_i b1 b2 D' b4 hl
            cases of_decide_eq_true c4
            exact ⟨_, _, _, hl⟩
          · cases c4
      · cases c
    | _ => cases c
theorem iniF_of {K : PySem.W.Frag} {prog : Program} {p : Str × Option Str} {D : Addr} {name qual file : Str} {params : Arguments} {body : List Stmt} {scope : Scope} {ar : Arg} {p1 p2 p3 p4 p5 p6 p7 p8 p9 p10 : Pos}
    (e : iniW K p = some (name, qual, params, .stmts body, scope, mainGlobals, builtinsNs, .none)) (c : iniB K p D qual file = true) (g : genB K D (He.fAd K p) = true) (top : (prog.main.scope.names.lookup ("super" : Str)).isSome = false) (hfile : ((prog.main.file : Str) == file) = true)
    (hp : (params.posonlyargs ++ params.args).head? = some ar) (har : ar.arg = ("self" : Str)) (S : nscB ["self", "value", "__class__"] ["self", "value"] ["__class__"] scope = true) (hs : scope.names.lookup ("super" : Str) = some .globalImplicit) (hl : (p3.endLine == p5.line) = true)
    (hbody : body = [.Expr (.Call (.Attribute (.Call (.Name "super" p1) [] [] p2) "__init__" p3) [.Name "value" p4] [] p5) p6, .Assign [.Attribute (.Name "self" p7) "value" p8] (.Name "value" p9) p10])
    (hb : ∀ (kV doc pm ct : Value) (an : Option Addr) (cdv : Value) (cc : Addr) (us : List Value), us.length = 2 → bindArgs (PySem.W.ksFn name qual params body scope .none kV doc pm an cdv ct cc) ⟨us, []⟩ = pure ((["self", "value"] : List Str).zip us)) :
    ∃ fd, IniF K prog D (He.fAd K p) fd ∧ Binds K fd ["self", "value"] [] := by
  obtain ⟨kV, doc, pm, ct, an, cc, cda, oc, od, osl, lk, hcd, ⟨c1, c2, vs, c4, tf, lc, hv⟩, hcell⟩ := ini_of e c
  obtain ⟨g1, g⟩ := Bool.and_eq_true_iff.mp g
  obtain ⟨g2, g⟩ := Bool.and_eq_true_iff.mp g
  obtain ⟨g3, g⟩ := Bool.and_eq_true_iff.mp g
  obtain ⟨g4, g5⟩ := Bool.and_eq_true_iff.mp g
  exact ⟨_, ⟨of_decide_eq_true g3, of_decide_eq_true g4, g5, top, name, qual, params, body, scope, .none, kV, doc, pm, ct, an, cc, cda, p1, p2, p3, p4, p5, p6, p7, p8, p9, p10, oc, od, osl, ar, rfl, lk, hcd, ⟨c1, c2, vs, c4, file, tf, lc, hv, hfile⟩, hcell, hp, har, nscope_by S, hs, hl, hbody⟩,
    Binds.all fun us h => hb kV doc pm ct an (.ref cda) cc us h⟩
/-! the hook: the facts of HeadHook2, and these -/
abbrev AlQ : Type := He.AlD × (IniW × Bool)
def fragQ (g : Addr → Option Obj) (n : Nat) : PySem.W.Frag := He.frG g (cStatics :: He.asD g n)
def obsQ (n : Nat) (fa : List He.Fa) (fn : List He.DefD) (p : Str × Option Str) (ex : PySem.W.Frag → Bool) (g : Addr → Option Obj) : AlQ := (He.obsD fa fn (fragQ g n), (iniW (fragQ g n) p, ex (fragQ g n)))
def hookQ (n : Nat) (fa : List He.Fa) (fn : List He.DefD) (p : Str × Option Str) (v : IniW) (ex : PySem.W.Frag → Bool) : PySem.W.Hook where
  α := AlQ
  obs := fun s => obsQ n fa fn p ex s.heap.get?
  val := fun _ => (He.valD fn, (v, true))
  says := fun _ h => ∃ K : PySem.W.Frag, K.In h ∧ He.SaysD fa fn K ∧ iniW K p = v ∧ ex K = true
  of := fun _ _ e => ⟨_, He.frG_in, congrArg (fun z : AlQ => z.1) e, congrArg (fun z : AlQ => z.2.1) e, congrArg (fun z : AlQ => z.2.2) e⟩
  keeps := fun _ _ _ ⟨K, hK, c⟩ k => ⟨K, PySem.W.Frag.In.keeps hK k, c⟩
theorem obsQ_eq {n : Nat} {fa : List He.Fa} {fn : List He.DefD} {p : Str × Option Str} {v : IniW} {ex : PySem.W.Frag → Bool} {g : Addr → Option Obj} {s : Shared} (h : ∀ a, g a = s.heap.get? a) : obsQ n fa fn p ex g = (hookQ n fa fn p v ex).obs s := by
  have e : g = s.heap.get? := funext h
  rw [e] <;> rfl
def cvOf (K : PySem.W.Frag) (y : Str) : Value := if y = "ValueError" then .type "ValueError" else .ref (He.ga K y)
/-- all that is asked -/
def exQ (excs : List (Str × Nat)) (isx : List (Str × List (Nat × Bool))) (cl : PySem.W.Frag → Nat → Addr) (b : Str) (p : Str × Option Str) (qual file : Str) (K : PySem.W.Frag) : Bool :=
  genB K (He.ga K b) (He.fAd K p) && (iniB K p (He.ga K b) qual file && ((excs.all fun q => excB K (He.ga K b) (He.fAd K p) (cl K q.2) && decide (PySem.W.nsIn K mainGlobals q.1 = some (some (.ref (cl K q.2))))) && isx.all fun q => q.2.all fun r => (excs.any fun z => z.2 == r.1) && decide (PySem.W.kitOne K (.ref (cl K r.1)) (cvOf K q.1) = some r.2)))
theorem memN {β : Type} {l : List (Nat × β)} {y : Nat} {v : β} (h : l.lookup y = some v) : (y, v) ∈ l := by
  induction l with
  | nil => cases h
  | cons p r ih =>
    obtain ⟨a, b⟩ := p
    rw [List.lookup_cons] at h
    cases q : (y == a) with
    | true => rw [q] at h; cases h; rw [eq_of_beq q]; exact List.mem_cons_self ..
    | false => rw [q] at h; exact List.mem_cons_of_mem _ (ih h)
theorem boot_VE : bootBuiltins "ValueError" = some (.type "ValueError") := by decide +kernel
theorem exc_of {excs : List (Str × Nat)} {isx : List (Str × List (Nat × Bool))} {cl : PySem.W.Frag → Nat → Addr} {b : Str} {p : Str × Option Str} {qual file : Str} {K : PySem.W.Frag} {P : Program} {h : Heap} {mg : Str → Option Value} {fd : FuncData} (X : K.In h) (G : h.Ns mainGlobals mg)
    (q : exQ excs isx cl b p qual file K = true) (hi : IniF K P (He.ga K b) (He.fAd K p) fd) (hb : Binds K fd ["self", "value"] []) (hs : mg "super" = none) (hV : mg "ValueError" = none) (hg : ∀ z ∈ isx, z.1 = "ValueError" ∨ mg z.1 = some (.ref (He.ga K z.1))) :
    ∃ D fI fd, (∀ p ∈ excs, mg p.1 = some (.ref (cl K p.2)) ∧ ExcF K D fI (cl K p.2)) ∧ (excs ≠ [] → IniF K P D fI fd ∧ mg "super" = none ∧ Binds K fd ["self", "value"] []) ∧
      ∀ p ∈ isx, ∃ tv cv, ((∃ u, mg p.1 = some u ∧ RelV tv u) ∨ (mg p.1 = none ∧ ∃ u, bootBuiltins p.1 = some u ∧ RelV tv u ∧ p.1 ≠ "__name__")) ∧ (∀ u, RelV tv u → u = cv) ∧ ∀ c b, p.2.lookup c = some b → ExcF K D fI (cl K c) ∧ PySem.W.kitOne K (.ref (cl K c)) cv = some b := by
  obtain ⟨q1, q⟩ := Bool.and_eq_true_iff.mp q
  obtain ⟨q2, q⟩ := Bool.and_eq_true_iff.mp q
  obtain ⟨q3, q4⟩ := Bool.and_eq_true_iff.mp q
  have e1 : ∀ z ∈ excs, mg z.1 = some (.ref (cl K z.2)) ∧ ExcF K (He.ga K b) (He.fAd K p) (cl K z.2) := fun z hz => by
    obtain ⟨a1, a2⟩ := Bool.and_eq_true_iff.mp (List.all_eq_true.mp q3 z hz)
    exact ⟨PySem.W.mg_of X G (of_decide_eq_true a2), excB_ok q1 a1⟩
  refine ⟨He.ga K b, He.fAd K p, fd, e1, fun _ => ⟨hi, hs, hb⟩, fun z hz => ?_⟩
  have look : ∀ c r, z.2.lookup c = some r → ExcF K (He.ga K b) (He.fAd K p) (cl K c) ∧ PySem.W.kitOne K (.ref (cl K c)) (cvOf K z.1) = some r := fun c r hl => by
    have hm : (c, r) ∈ z.2 := memN hl
    obtain ⟨a1, a2⟩ := Bool.and_eq_true_iff.mp (List.all_eq_true.mp (List.all_eq_true.mp q4 z hz) (c, r) hm)
    obtain ⟨y, hy1, hy2⟩ := List.any_eq_true.mp a1
    have := (e1 y hy1).2
    rw [eq_of_beq hy2] at this
    exact ⟨this, of_decide_eq_true a2⟩
  unfold cvOf at look
  rcases hg z hz with hv | hv
  · rw [if_pos hv] at look
    refine ⟨.ty "ValueError", .type "ValueError", .inr ⟨by rw [hv]; exact hV, .type "ValueError", by rw [hv]; exact boot_VE, rfl, by rw [hv]; decide⟩, fun u r => r, look⟩
  · by_cases hh : z.1 = "ValueError"
    · rw [hh, hV] at hv; cases hv
    · rw [if_neg hh] at look
      exact ⟨.ref (He.ga K z.1), .ref (He.ga K z.1), .inl ⟨_, hv, rfl⟩, fun u r => r, look⟩
end R
end
section
set_option linter.all false
set_option maxRecDepth 100000
set_option maxHeartbeats 0
namespace My
open PySem PySem.Spec PyProof.Rows L2 R
def top (i : Nat) : Stmt := PySem.Challenge.pw_downhillnet_k52_errors_keep_any_value.main.body.getD i (.Pass ⟨0, 0, 0, 0⟩)
def excs : List Nat := [100, 101, 102, 103, 104, 105, 106, 107, 108, 109, 110, 111, 112, 113, 114, 115, 116, 117, 118, 119, 120, 121, 122, 123, 124, 125, 126, 127, 128, 129, 130, 131, 132, 133, 134, 135, 136, 137, 138, 139, 140]
def isNoFlow : List (Nat × Bool) := [(100, false), (101, false), (102, false), (103, false), (104, false), (105, false), (106, false), (107, false), (108, false), (109, false), (110, false), (111, false), (112, false), (113, false), (114, true), (115, false), (116, false), (117, false), (118, false), (119, false), (120, false), (121, false), (122, false), (123, false), (124, false), (125, false), (126, false), (127, false), (128, false), (129, false), (130, false), (131, false), (132, false), (133, false), (134, false), (135, false), (136, false), (137, false), (138, false), (139, false), (140, false)]
def isBadHeaps : List (Nat × Bool) := [(100, false), (101, false), (102, false), (103, false), (104, false), (105, false), (106, false), (107, false), (108, false), (109, false), (110, false), (111, false), (112, false), (113, true), (114, false), (115, false), (116, false), (117, false), (118, false), (119, false), (120, false), (121, false), (122, false), (123, false), (124, false), (125, false), (126, false), (127, false), (128, false), (129, false), (130, false), (131, false), (132, false), (133, false), (134, false), (135, false), (136, false), (137, false), (138, false), (139, false), (140, false)]
def isBadNames : List (Nat × Bool) := [(100, false), (101, false), (102, false), (103, false), (104, false), (105, false), (106, false), (107, false), (108, false), (109, false), (110, false), (111, false), (112, true), (113, false), (114, false), (115, false), (116, false), (117, false), (118, false), (119, false), (120, false), (121, false), (122, false), (123, false), (124, false), (125, false), (126, false), (127, false), (128, false), (129, false), (130, false), (131, false), (132, false), (133, false), (134, false), (135, false), (136, false), (137, false), (138, false), (139, false), (140, false)]
def isBadTick : List (Nat × Bool) := [(100, false), (101, false), (102, false), (103, false), (104, false), (105, false), (106, false), (107, false), (108, false), (109, false), (110, false), (111, true), (112, false), (113, false), (114, false), (115, false), (116, false), (117, false), (118, false), (119, false), (120, false), (121, false), (122, false), (123, false), (124, false), (125, false), (126, false), (127, false), (128, false), (129, false), (130, false), (131, false), (132, false), (133, false), (134, false), (135, false), (136, false), (137, false), (138, false), (139, false), (140, false)]
def isTooMany : List (Nat × Bool) := [(100, false), (101, false), (102, false), (103, false), (104, false), (105, false), (106, false), (107, false), (108, false), (109, false), (110, true), (111, false), (112, false), (113, false), (114, false), (115, false), (116, false), (117, false), (118, false), (119, false), (120, false), (121, false), (122, false), (123, false), (124, false), (125, false), (126, false), (127, false), (128, false), (129, false), (130, false), (131, false), (132, false), (133, false), (134, false), (135, false), (136, false), (137, false), (138, false), (139, false), (140, false)]
def isBadTicks : List (Nat × Bool) := [(100, false), (101, false), (102, false), (103, false), (104, false), (105, false), (106, false), (107, false), (108, false), (109, true), (110, false), (111, false), (112, false), (113, false), (114, false), (115, false), (116, false), (117, false), (118, false), (119, false), (120, false), (121, false), (122, false), (123, false), (124, false), (125, false), (126, false), (127, false), (128, false), (129, false), (130, false), (131, false), (132, false), (133, false), (134, false), (135, false), (136, false), (137, false), (138, false), (139, false), (140, false)]
def isBadLot : List (Nat × Bool) := [(100, false), (101, false), (102, false), (103, false), (104, false), (105, false), (106, false), (107, false), (108, true), (109, false), (110, false), (111, false), (112, false), (113, false), (114, false), (115, false), (116, false), (117, false), (118, false), (119, false), (120, false), (121, false), (122, false), (123, false), (124, false), (125, false), (126, false), (127, false), (128, false), (129, false), (130, false), (131, false), (132, false), (133, false), (134, false), (135, false), (136, false), (137, false), (138, false), (139, false), (140, false)]
def isNoLink : List (Nat × Bool) := [(100, false), (101, false), (102, false), (103, false), (104, false), (105, false), (106, false), (107, true), (108, false), (109, false), (110, false), (111, false), (112, false), (113, false), (114, false), (115, false), (116, false), (117, false), (118, false), (119, false), (120, false), (121, false), (122, false), (123, false), (124, false), (125, false), (126, false), (127, false), (128, false), (129, false), (130, false), (131, false), (132, false), (133, false), (134, false), (135, false), (136, false), (137, false), (138, false), (139, false), (140, false)]
def isNoStation : List (Nat × Bool) := [(100, false), (101, false), (102, false), (103, false), (104, false), (105, false), (106, true), (107, false), (108, false), (109, false), (110, false), (111, false), (112, false), (113, false), (114, false), (115, false), (116, false), (117, false), (118, false), (119, false), (120, false), (121, false), (122, false), (123, false), (124, false), (125, false), (126, false), (127, false), (128, false), (129, false), (130, false), (131, false), (132, false), (133, false), (134, false), (135, false), (136, false), (137, false), (138, false), (139, false), (140, false)]
def isBadLinks : List (Nat × Bool) := [(100, false), (101, false), (102, false), (103, false), (104, false), (105, true), (106, false), (107, false), (108, false), (109, false), (110, false), (111, false), (112, false), (113, false), (114, false), (115, false), (116, false), (117, false), (118, false), (119, false), (120, false), (121, false), (122, false), (123, false), (124, false), (125, false), (126, false), (127, false), (128, false), (129, false), (130, false), (131, false), (132, false), (133, false), (134, false), (135, false), (136, false), (137, false), (138, false), (139, false), (140, false)]
def isBadStations : List (Nat × Bool) := [(100, false), (101, false), (102, false), (103, false), (104, true), (105, false), (106, false), (107, false), (108, false), (109, false), (110, false), (111, false), (112, false), (113, false), (114, false), (115, false), (116, false), (117, false), (118, false), (119, false), (120, false), (121, false), (122, false), (123, false), (124, false), (125, false), (126, false), (127, false), (128, false), (129, false), (130, false), (131, false), (132, false), (133, false), (134, false), (135, false), (136, false), (137, false), (138, false), (139, false), (140, false)]
def isBadName : List (Nat × Bool) := [(100, false), (101, false), (102, false), (103, true), (104, false), (105, false), (106, false), (107, false), (108, false), (109, false), (110, false), (111, false), (112, false), (113, false), (114, false), (115, false), (116, false), (117, false), (118, false), (119, false), (120, false), (121, false), (122, false), (123, false), (124, false), (125, false), (126, false), (127, false), (128, false), (129, false), (130, false), (131, false), (132, false), (133, false), (134, false), (135, false), (136, false), (137, false), (138, false), (139, false), (140, false)]
def isBadNumber : List (Nat × Bool) := [(100, false), (101, false), (102, true), (103, false), (104, false), (105, false), (106, false), (107, false), (108, false), (109, false), (110, false), (111, false), (112, false), (113, false), (114, false), (115, false), (116, false), (117, false), (118, false), (119, false), (120, false), (121, false), (122, false), (123, false), (124, false), (125, false), (126, false), (127, false), (128, false), (129, false), (130, false), (131, false), (132, false), (133, false), (134, false), (135, false), (136, false), (137, false), (138, false), (139, false), (140, false)]
def isBadBook : List (Nat × Bool) := [(100, false), (101, true), (102, false), (103, false), (104, false), (105, false), (106, false), (107, false), (108, false), (109, false), (110, false), (111, false), (112, false), (113, false), (114, false), (115, false), (116, false), (117, false), (118, false), (119, false), (120, false), (121, false), (122, false), (123, false), (124, false), (125, false), (126, false), (127, false), (128, false), (129, false), (130, false), (131, false), (132, false), (133, false), (134, false), (135, false), (136, false), (137, false), (138, false), (139, false), (140, false)]
def isBadLink : List (Nat × Bool) := [(100, false), (101, false), (102, false), (103, false), (104, false), (105, false), (106, false), (107, false), (108, false), (109, false), (110, false), (111, false), (112, false), (113, false), (114, false), (115, false), (116, false), (117, false), (118, false), (119, false), (120, false), (121, false), (122, false), (123, false), (124, false), (125, false), (126, false), (127, false), (128, true), (129, false), (130, false), (131, false), (132, false), (133, false), (134, false), (135, false), (136, false), (137, false), (138, false), (139, false), (140, false)]
def isHeld : List (Nat × Bool) := [(100, false), (101, false), (102, false), (103, false), (104, false), (105, false), (106, false), (107, false), (108, false), (109, false), (110, false), (111, false), (112, false), (113, false), (114, false), (115, false), (116, false), (117, false), (118, false), (119, false), (120, false), (121, false), (122, false), (123, false), (124, false), (125, false), (126, false), (127, true), (128, false), (129, false), (130, false), (131, false), (132, false), (133, false), (134, false), (135, false), (136, false), (137, false), (138, false), (139, false), (140, false)]
def isTooFew : List (Nat × Bool) := [(100, false), (101, false), (102, false), (103, false), (104, false), (105, false), (106, false), (107, false), (108, false), (109, false), (110, false), (111, false), (112, false), (113, false), (114, false), (115, false), (116, false), (117, false), (118, false), (119, false), (120, false), (121, false), (122, false), (123, false), (124, false), (125, false), (126, true), (127, false), (128, false), (129, false), (130, false), (131, false), (132, false), (133, false), (134, false), (135, false), (136, false), (137, false), (138, false), (139, false), (140, false)]
def isNoDoor : List (Nat × Bool) := [(100, false), (101, false), (102, false), (103, false), (104, false), (105, false), (106, false), (107, false), (108, false), (109, false), (110, false), (111, false), (112, false), (113, false), (114, false), (115, false), (116, false), (117, false), (118, false), (119, false), (120, false), (121, false), (122, false), (123, false), (124, false), (125, true), (126, false), (127, false), (128, false), (129, false), (130, false), (131, false), (132, false), (133, false), (134, false), (135, false), (136, false), (137, false), (138, false), (139, false), (140, false)]
def isUnfit : List (Nat × Bool) := [(100, false), (101, false), (102, false), (103, false), (104, false), (105, false), (106, false), (107, false), (108, false), (109, false), (110, false), (111, false), (112, false), (113, false), (114, false), (115, false), (116, false), (117, false), (118, false), (119, false), (120, false), (121, false), (122, false), (123, false), (124, true), (125, false), (126, false), (127, false), (128, false), (129, false), (130, false), (131, false), (132, false), (133, false), (134, false), (135, false), (136, false), (137, false), (138, false), (139, false), (140, false)]
def isBadWord : List (Nat × Bool) := [(100, false), (101, false), (102, false), (103, false), (104, false), (105, false), (106, false), (107, false), (108, false), (109, false), (110, false), (111, false), (112, false), (113, false), (114, false), (115, false), (116, false), (117, false), (118, false), (119, false), (120, false), (121, false), (122, false), (123, true), (124, false), (125, false), (126, false), (127, false), (128, false), (129, false), (130, false), (131, false), (132, false), (133, false), (134, false), (135, false), (136, false), (137, false), (138, false), (139, false), (140, false)]
def isBadEvents : List (Nat × Bool) := [(100, false), (101, false), (102, false), (103, false), (104, false), (105, false), (106, false), (107, false), (108, false), (109, false), (110, false), (111, false), (112, false), (113, false), (114, false), (115, false), (116, false), (117, false), (118, false), (119, false), (120, false), (121, false), (122, true), (123, false), (124, false), (125, false), (126, false), (127, false), (128, false), (129, false), (130, false), (131, false), (132, false), (133, false), (134, false), (135, false), (136, false), (137, false), (138, false), (139, false), (140, false)]
def isBadEvent : List (Nat × Bool) := [(100, false), (101, false), (102, false), (103, false), (104, false), (105, false), (106, false), (107, false), (108, false), (109, false), (110, false), (111, false), (112, false), (113, false), (114, false), (115, false), (116, false), (117, false), (118, false), (119, false), (120, false), (121, true), (122, false), (123, false), (124, false), (125, false), (126, false), (127, false), (128, false), (129, false), (130, false), (131, false), (132, false), (133, false), (134, false), (135, false), (136, false), (137, false), (138, false), (139, false), (140, false)]
def isBadPackets : List (Nat × Bool) := [(100, false), (101, false), (102, false), (103, false), (104, false), (105, false), (106, false), (107, false), (108, false), (109, false), (110, false), (111, false), (112, false), (113, false), (114, false), (115, false), (116, false), (117, false), (118, false), (119, false), (120, true), (121, false), (122, false), (123, false), (124, false), (125, false), (126, false), (127, false), (128, false), (129, false), (130, false), (131, false), (132, false), (133, false), (134, false), (135, false), (136, false), (137, false), (138, false), (139, false), (140, false)]
def isNotHoming : List (Nat × Bool) := [(100, false), (101, false), (102, false), (103, false), (104, false), (105, false), (106, false), (107, false), (108, false), (109, false), (110, false), (111, false), (112, false), (113, false), (114, false), (115, false), (116, false), (117, false), (118, false), (119, true), (120, false), (121, false), (122, false), (123, false), (124, false), (125, false), (126, false), (127, false), (128, false), (129, false), (130, false), (131, false), (132, false), (133, false), (134, false), (135, false), (136, false), (137, false), (138, false), (139, false), (140, false)]
def isNoWay : List (Nat × Bool) := [(100, false), (101, false), (102, false), (103, false), (104, false), (105, false), (106, false), (107, false), (108, false), (109, false), (110, false), (111, false), (112, false), (113, false), (114, false), (115, false), (116, false), (117, false), (118, true), (119, false), (120, false), (121, false), (122, false), (123, false), (124, false), (125, false), (126, false), (127, false), (128, false), (129, false), (130, false), (131, false), (132, false), (133, false), (134, false), (135, false), (136, false), (137, false), (138, false), (139, false), (140, false)]
def isBadLevels : List (Nat × Bool) := [(100, false), (101, false), (102, false), (103, false), (104, false), (105, false), (106, false), (107, false), (108, false), (109, false), (110, false), (111, false), (112, false), (113, false), (114, false), (115, false), (116, false), (117, true), (118, false), (119, false), (120, false), (121, false), (122, false), (123, false), (124, false), (125, false), (126, false), (127, false), (128, false), (129, false), (130, false), (131, false), (132, false), (133, false), (134, false), (135, false), (136, false), (137, false), (138, false), (139, false), (140, false)]
def isBadCut : List (Nat × Bool) := [(100, false), (101, false), (102, false), (103, false), (104, false), (105, false), (106, false), (107, false), (108, false), (109, false), (110, false), (111, false), (112, false), (113, false), (114, false), (115, false), (116, true), (117, false), (118, false), (119, false), (120, false), (121, false), (122, false), (123, false), (124, false), (125, false), (126, false), (127, false), (128, false), (129, false), (130, false), (131, false), (132, false), (133, false), (134, false), (135, false), (136, false), (137, false), (138, false), (139, false), (140, false)]
def isBadMoves : List (Nat × Bool) := [(100, false), (101, false), (102, false), (103, false), (104, false), (105, false), (106, false), (107, false), (108, false), (109, false), (110, false), (111, false), (112, false), (113, false), (114, false), (115, true), (116, false), (117, false), (118, false), (119, false), (120, false), (121, false), (122, false), (123, false), (124, false), (125, false), (126, false), (127, false), (128, false), (129, false), (130, false), (131, false), (132, false), (133, false), (134, false), (135, false), (136, false), (137, false), (138, false), (139, false), (140, false)]
def isBadDesk : List (Nat × Bool) := [(100, false), (101, false), (102, false), (103, false), (104, false), (105, false), (106, false), (107, false), (108, false), (109, false), (110, false), (111, false), (112, false), (113, false), (114, false), (115, false), (116, false), (117, false), (118, false), (119, false), (120, false), (121, false), (122, false), (123, false), (124, false), (125, false), (126, false), (127, false), (128, false), (129, false), (130, false), (131, false), (132, false), (133, false), (134, false), (135, false), (136, false), (137, false), (138, false), (139, false), (140, true)]
def isNoNote : List (Nat × Bool) := [(100, false), (101, false), (102, false), (103, false), (104, false), (105, false), (106, false), (107, false), (108, false), (109, false), (110, false), (111, false), (112, false), (113, false), (114, false), (115, false), (116, false), (117, false), (118, false), (119, false), (120, false), (121, false), (122, false), (123, false), (124, false), (125, false), (126, false), (127, false), (128, false), (129, false), (130, false), (131, false), (132, false), (133, false), (134, false), (135, false), (136, false), (137, false), (138, false), (139, true), (140, false)]
def isNothingToRedo : List (Nat × Bool) := [(100, false), (101, false), (102, false), (103, false), (104, false), (105, false), (106, false), (107, false), (108, false), (109, false), (110, false), (111, false), (112, false), (113, false), (114, false), (115, false), (116, false), (117, false), (118, false), (119, false), (120, false), (121, false), (122, false), (123, false), (124, false), (125, false), (126, false), (127, false), (128, false), (129, false), (130, false), (131, false), (132, false), (133, false), (134, false), (135, false), (136, false), (137, false), (138, true), (139, false), (140, false)]
def isNothingToUndo : List (Nat × Bool) := [(100, false), (101, false), (102, false), (103, false), (104, false), (105, false), (106, false), (107, false), (108, false), (109, false), (110, false), (111, false), (112, false), (113, false), (114, false), (115, false), (116, false), (117, false), (118, false), (119, false), (120, false), (121, false), (122, false), (123, false), (124, false), (125, false), (126, false), (127, false), (128, false), (129, false), (130, false), (131, false), (132, false), (133, false), (134, false), (135, false), (136, false), (137, true), (138, false), (139, false), (140, false)]
def isLastOne : List (Nat × Bool) := [(100, false), (101, false), (102, false), (103, false), (104, false), (105, false), (106, false), (107, false), (108, false), (109, false), (110, false), (111, false), (112, false), (113, false), (114, false), (115, false), (116, false), (117, false), (118, false), (119, false), (120, false), (121, false), (122, false), (123, false), (124, false), (125, false), (126, false), (127, false), (128, false), (129, false), (130, false), (131, false), (132, false), (133, false), (134, false), (135, false), (136, true), (137, false), (138, false), (139, false), (140, false)]
def isNotEmpty : List (Nat × Bool) := [(100, false), (101, false), (102, false), (103, false), (104, false), (105, false), (106, false), (107, false), (108, false), (109, false), (110, false), (111, false), (112, false), (113, false), (114, false), (115, false), (116, false), (117, false), (118, false), (119, false), (120, false), (121, false), (122, false), (123, false), (124, false), (125, false), (126, false), (127, false), (128, false), (129, false), (130, false), (131, false), (132, false), (133, false), (134, false), (135, true), (136, false), (137, false), (138, false), (139, false), (140, false)]
def isAmid : List (Nat × Bool) := [(100, false), (101, false), (102, false), (103, false), (104, false), (105, false), (106, false), (107, false), (108, false), (109, false), (110, false), (111, false), (112, false), (113, false), (114, false), (115, false), (116, false), (117, false), (118, false), (119, false), (120, false), (121, false), (122, false), (123, false), (124, false), (125, false), (126, false), (127, false), (128, false), (129, false), (130, false), (131, false), (132, false), (133, false), (134, true), (135, false), (136, false), (137, false), (138, false), (139, false), (140, false)]
def isNoNet : List (Nat × Bool) := [(100, false), (101, false), (102, false), (103, false), (104, false), (105, false), (106, false), (107, false), (108, false), (109, false), (110, false), (111, false), (112, false), (113, false), (114, false), (115, false), (116, false), (117, false), (118, false), (119, false), (120, false), (121, false), (122, false), (123, false), (124, false), (125, false), (126, false), (127, false), (128, false), (129, false), (130, false), (131, false), (132, false), (133, true), (134, false), (135, false), (136, false), (137, false), (138, false), (139, false), (140, false)]
def isBadDeed : List (Nat × Bool) := [(100, false), (101, false), (102, false), (103, false), (104, false), (105, false), (106, false), (107, false), (108, false), (109, false), (110, false), (111, false), (112, false), (113, false), (114, false), (115, false), (116, false), (117, false), (118, false), (119, false), (120, false), (121, false), (122, false), (123, false), (124, false), (125, false), (126, false), (127, false), (128, false), (129, false), (130, false), (131, false), (132, true), (133, false), (134, false), (135, false), (136, false), (137, false), (138, false), (139, false), (140, false)]
def isBadRule : List (Nat × Bool) := [(100, false), (101, false), (102, false), (103, false), (104, false), (105, false), (106, false), (107, false), (108, false), (109, false), (110, false), (111, false), (112, false), (113, false), (114, false), (115, false), (116, false), (117, false), (118, false), (119, false), (120, false), (121, false), (122, false), (123, false), (124, false), (125, false), (126, false), (127, false), (128, false), (129, false), (130, false), (131, true), (132, false), (133, false), (134, false), (135, false), (136, false), (137, false), (138, false), (139, false), (140, false)]
def isNotPart : List (Nat × Bool) := [(100, false), (101, false), (102, false), (103, false), (104, false), (105, false), (106, false), (107, false), (108, false), (109, false), (110, false), (111, false), (112, false), (113, false), (114, false), (115, false), (116, false), (117, false), (118, false), (119, false), (120, false), (121, false), (122, false), (123, false), (124, false), (125, false), (126, false), (127, false), (128, false), (129, false), (130, true), (131, false), (132, false), (133, false), (134, false), (135, false), (136, false), (137, false), (138, false), (139, false), (140, false)]
def isBadStation : List (Nat × Bool) := [(100, false), (101, false), (102, false), (103, false), (104, false), (105, false), (106, false), (107, false), (108, false), (109, false), (110, false), (111, false), (112, false), (113, false), (114, false), (115, false), (116, false), (117, false), (118, false), (119, false), (120, false), (121, false), (122, false), (123, false), (124, false), (125, false), (126, false), (127, false), (128, false), (129, true), (130, false), (131, false), (132, false), (133, false), (134, false), (135, false), (136, false), (137, false), (138, false), (139, false), (140, false)]
def isValueError : List (Nat × Bool) := [(100, true), (101, true), (102, true), (103, true), (104, true), (105, true), (106, true), (107, true), (108, true), (109, true), (110, true), (111, true), (112, true), (113, true), (114, true), (115, true), (116, true), (117, true), (118, true), (119, true), (120, true), (121, true), (122, true), (123, true), (124, true), (125, true), (126, true), (127, true), (128, true), (129, true), (130, true), (131, true), (132, true), (133, true), (134, true), (135, true), (136, true), (137, true), (138, true), (139, true), (140, true)]
def isNetError : List (Nat × Bool) := [(100, true), (101, true), (102, true), (103, true), (104, true), (105, true), (106, true), (107, true), (108, true), (109, true), (110, true), (111, true), (112, true), (113, true), (114, true), (115, true), (116, true), (117, true), (118, true), (119, true), (120, true), (121, true), (122, true), (123, true), (124, true), (125, true), (126, true), (127, true), (128, true), (129, true), (130, true), (131, true), (132, true), (133, true), (134, true), (135, true), (136, true), (137, true), (138, true), (139, true), (140, true)]
/-- _law_pot -/
def b0 : RSs := (.cons (.set 2 (.ife (.cmp .lt (.var 1) (.bi .len (.cons (.var 0) .nil))) (.idx (.var 0) (.var 1)) (.op .add (.op .add (.op .mod (.bi .sum (.cons (.sl (.var 0) .non (.som (.cn (.int 1)))) .nil)) (.cn (.int 1000003))) (.op .mul (.cn (.int 1165)) (.var 1))) (.cn (.int 539)))))
  (.cons (.set 3 (.op .mul (.op .mod (.bi .int (.cons (.bi .abs (.cons (.var 2) .nil)) .nil)) (.op .pow (.op .pow (.cn (.int 10)) (.cn (.int 60))) (.cn (.int 5)))) (.bi .int (.cons (.cmp .ge (.bi .abs (.cons (.var 2) .nil)) (.op .pow (.cn (.int 10)) (.cn (.int 18)))) .nil))))
  (.cons (.set 4 (.op .mod (.bi .int (.cons (.var 2) .nil)) (.cn (.int 2305843009213693951))))
  (.cons (.ret (.new (.lst (.cons (.var 3) (.cons (.op .mod (.bi .int (.cons (.op .add (.op .add (.op .mul (.var 4) (.cn (.int 73237))) (.op .mul (.op .mul (.cn (.int 8153)) (.var 1)) (.var 1))) (.cn (.int 539))) .nil)) (.cn (.int 2305843009213693921))) (.cons (.cn (.int 0)) .nil))))))
  .nil))))
def n0 : List Str := [("script" : Str), ("place" : Str), ("cell" : Str), ("own" : Str), ("small" : Str)]
def f0 : Fn := ⟨5, 2, b0⟩
/-- _law_take -/
def b1 : RSs := (.cons (.ife (.cmp .gt (.idx (.var 0) (.cn (.int 0))) (.cn (.int 0))) (.cons (.set 4 (.op .mod (.bi .int (.cons (.idx (.var 0) (.cn (.int 0))) .nil)) (.var 1)))
  (.cons (.sidx 0 (.cn (.int 0)) (.op .fdiv (.idx (.var 0) (.cn (.int 0))) (.var 1)))
  (.cons (.ret (.var 4))
  .nil))) .nil)
  (.cons (.sidx 0 (.cn (.int 2)) (.op .add (.idx (.var 0) (.cn (.int 2))) (.cn (.int 1))))
  (.cons (.set 2 (.idx (.lst (.cons (.cn (.int 2147483647)) (.cons (.cn (.int 2147483629)) (.cons (.cn (.int 2147483587)) (.cons (.cn (.int 2147483579)) (.cons (.cn (.int 2147483563)) .nil)))))) (.op .mod (.bi .int (.cons (.idx (.var 0) (.cn (.int 2))) .nil)) (.cn (.int 5)))))
  (.cons (.set 3 (.op .mod (.bi .int (.cons (.op .pow (.bi .int (.cons (.op .add (.op .add (.idx (.var 0) (.cn (.int 1))) (.op .mul (.op .mul (.cn (.int 98401)) (.idx (.var 0) (.cn (.int 2)))) (.idx (.var 0) (.cn (.int 2))))) (.cn (.int 431))) .nil)) (.cn (.int 3))) .nil)) (.var 2)))
  (.cons (.set 3 (.op .mod (.bi .int (.cons (.op .mul (.var 3) (.op .add (.op .mod (.bi .int (.cons (.var 3) .nil)) (.cn (.int 10009))) (.op .mul (.cn (.int 89)) (.idx (.var 0) (.cn (.int 2)))))) .nil)) (.cn (.int 2305843009213693907))))
  (.cons (.ret (.op .mod (.bi .int (.cons (.op .fdiv (.var 3) (.cn (.int 173))) .nil)) (.var 1)))
  .nil))))))
def n1 : List Str := [("pot" : Str), ("upto" : Str), ("prime" : Str), ("blend" : Str), ("digit" : Str)]
def f1 : Fn := ⟨5, 2, b1⟩
/-- _law_of -/
def b2 : RSs := (.cons (.ret (.idx (.var 1) (.call 1 (.cons (.var 0) (.cons (.bi .len (.cons (.var 1) .nil)) .nil)))))
  .nil)
def n2 : List Str := [("pot" : Str), ("some" : Str)]
def f2 : Fn := ⟨2, 2, b2⟩
/-- _law_cells -/
def b3 : RSs := (.cons (.ret (.lrg (.bi .max (.cons (.cn (.int 1)) (.cons (.bi .min (.cons (.var 1) (.cons (.bi .len (.cons (.var 0) .nil)) .nil))) .nil)))))
  .nil)
def n3 : List Str := [("script" : Str), ("most" : Str)]
def f3 : Fn := ⟨2, 2, b3⟩
/-- _law_odd -/
def b4 : RSs := (.cons (.set 1 (.lst (.cons (.cn .non) (.cons (.cn (.bl true)) (.cons (.cn (.bl false)) (.cons (.cn (.int 0)) (.cons (.neg (.cn (.int 1))) (.cons (.cn (.str "")) (.cons (.cn (.str "A")) (.cons (.cn (.str "a b")) (.cons (.tup .nil) (.cons (.lst .nil) (.cons (.dsp .nil) (.cons (.tup (.cons (.tup .nil) .nil)) (.cons (.tup (.cons (.cn .non) .nil)) (.cons (.lst (.cons (.cn (.int 0)) .nil)) (.cons (.tup (.cons (.cn (.int 0)) .nil)) (.cons (.tup (.cons (.cn (.str "a")) .nil)) (.cons (.tup (.cons (.tup (.cons (.cn (.int 0)) (.cons (.cn (.int 1)) .nil))) .nil)) .nil)))))))))))))))))))
  (.cons (.ret (.call 2 (.cons (.var 0) (.cons (.op .add (.var 1) (.lst (.cons (.tup (.cons (.cn (.str "a")) (.cons (.cn (.str "b")) .nil))) (.cons (.lst (.cons (.cn (.str "a")) .nil)) (.cons (.dsp (.cons (.cn (.str "a")) (.cons (.cn (.int 1)) .nil))) (.cons (.op .pow (.cn (.int 10)) (.cn (.int 30))) (.cons (.neg (.cn (.int 7))) (.cons (.tup (.cons (.cn (.str "b")) (.cons (.cn (.str "a")) .nil))) (.cons (.tup (.cons (.cn (.str "a")) (.cons (.cn (.str "a")) .nil))) (.cons (.cn (.str "toolongname")) .nil)))))))))) .nil))))
  .nil))
def n4 : List Str := [("pot" : Str), ("some" : Str)]
def f4 : Fn := ⟨2, 1, b4⟩
/-- _law_made -/
def b5 : RSs := (.cons (.set 1 (.new (.lst (.cons (.exm 101 (.var 0)) (.cons (.exm 102 (.var 0)) (.cons (.exm 103 (.var 0)) (.cons (.exm 104 (.var 0)) (.cons (.exm 105 (.var 0)) .nil))))))))
  (.cons (.ex (.mm .extend 1 (.cons (.lst (.cons (.exm 106 (.var 0)) (.cons (.exm 107 (.var 0)) (.cons (.exm 108 (.var 0)) (.cons (.exm 109 (.var 0)) (.cons (.exm 110 (.var 0)) (.cons (.exm 111 (.var 0)) .nil))))))) .nil)))
  (.cons (.ex (.mm .extend 1 (.cons (.lst (.cons (.exm 112 (.var 0)) (.cons (.exm 113 (.var 0)) (.cons (.exm 114 (.var 0)) .nil)))) .nil)))
  (.cons (.ret (.op .add (.op .add (.var 1) (.call 6 (.cons (.var 0) .nil))) (.call 7 (.cons (.var 0) .nil))))
  .nil))))
def n5 : List Str := [("value" : Str), ("found" : Str)]
def f5 : Fn := ⟨2, 1, b5⟩
/-- _law_made_too -/
def b6 : RSs := (.cons (.set 1 (.new (.lst (.cons (.exm 115 (.var 0)) (.cons (.exm 116 (.var 0)) (.cons (.exm 117 (.var 0)) (.cons (.exm 118 (.var 0)) (.cons (.exm 119 (.var 0)) .nil))))))))
  (.cons (.ex (.mm .extend 1 (.cons (.lst (.cons (.exm 120 (.var 0)) (.cons (.exm 121 (.var 0)) (.cons (.exm 122 (.var 0)) (.cons (.exm 123 (.var 0)) (.cons (.exm 124 (.var 0)) .nil)))))) .nil)))
  (.cons (.ex (.mm .extend 1 (.cons (.lst (.cons (.exm 125 (.var 0)) (.cons (.exm 126 (.var 0)) (.cons (.exm 127 (.var 0)) (.cons (.exm 128 (.var 0)) .nil))))) .nil)))
  (.cons (.ret (.frz 1))
  .nil))))
def n6 : List Str := [("value" : Str), ("found" : Str)]
def f6 : Fn := ⟨2, 1, b6⟩
/-- _law_made_more -/
def b7 : RSs := (.cons (.set 1 (.new (.lst (.cons (.exm 129 (.var 0)) (.cons (.exm 130 (.var 0)) (.cons (.exm 131 (.var 0)) (.cons (.exm 132 (.var 0)) (.cons (.exm 133 (.var 0)) (.cons (.exm 134 (.var 0)) .nil)))))))))
  (.cons (.ex (.mm .extend 1 (.cons (.lst (.cons (.exm 135 (.var 0)) (.cons (.exm 136 (.var 0)) (.cons (.exm 137 (.var 0)) (.cons (.exm 138 (.var 0)) (.cons (.exm 139 (.var 0)) .nil)))))) .nil)))
  (.cons (.ex (.mm .extend 1 (.cons (.lst (.cons (.exm 140 (.var 0)) .nil)) .nil)))
  (.cons (.ret (.frz 1))
  .nil))))
def n7 : List Str := [("value" : Str), ("found" : Str)]
def f7 : Fn := ⟨2, 1, b7⟩
/-- _law_kinds -/
def b8 : RSs := (.cons (.set 1 (.new (.lst (.cons (.isE (.var 0) isBadBook "BadBook") (.cons (.isE (.var 0) isBadNumber "BadNumber") (.cons (.isE (.var 0) isBadName "BadName") .nil))))))
  (.cons (.ex (.mm .extend 1 (.cons (.lst (.cons (.isE (.var 0) isBadStations "BadStations") (.cons (.isE (.var 0) isBadLinks "BadLinks") (.cons (.isE (.var 0) isNoStation "NoStation") .nil)))) .nil)))
  (.cons (.ex (.mm .extend 1 (.cons (.lst (.cons (.isE (.var 0) isNoLink "NoLink") (.cons (.isE (.var 0) isBadLot "BadLot") (.cons (.isE (.var 0) isBadTicks "BadTicks") .nil)))) .nil)))
  (.cons (.ex (.mm .extend 1 (.cons (.lst (.cons (.isE (.var 0) isTooMany "TooMany") (.cons (.isE (.var 0) isBadTick "BadTick") (.cons (.isE (.var 0) isBadNames "BadNames") .nil)))) .nil)))
  (.cons (.ex (.mm .extend 1 (.cons (.lst (.cons (.isE (.var 0) isBadHeaps "BadHeaps") (.cons (.isE (.var 0) isNoFlow "NoFlow") .nil))) .nil)))
  (.cons (.ret (.op .add (.op .add (.var 1) (.call 9 (.cons (.var 0) .nil))) (.call 10 (.cons (.var 0) .nil))))
  .nil))))))
def n8 : List Str := [("error" : Str), ("found" : Str)]
def f8 : Fn := ⟨2, 1, b8⟩
/-- _law_kinds_too -/
def b9 : RSs := (.cons (.set 1 (.new (.lst (.cons (.isE (.var 0) isBadMoves "BadMoves") (.cons (.isE (.var 0) isBadCut "BadCut") (.cons (.isE (.var 0) isBadLevels "BadLevels") .nil))))))
  (.cons (.ex (.mm .extend 1 (.cons (.lst (.cons (.isE (.var 0) isNoWay "NoWay") (.cons (.isE (.var 0) isNotHoming "NotHoming") (.cons (.isE (.var 0) isBadPackets "BadPackets") .nil)))) .nil)))
  (.cons (.ex (.mm .extend 1 (.cons (.lst (.cons (.isE (.var 0) isBadEvent "BadEvent") (.cons (.isE (.var 0) isBadEvents "BadEvents") (.cons (.isE (.var 0) isBadWord "BadWord") .nil)))) .nil)))
  (.cons (.ex (.mm .extend 1 (.cons (.lst (.cons (.isE (.var 0) isUnfit "Unfit") (.cons (.isE (.var 0) isNoDoor "NoDoor") (.cons (.isE (.var 0) isTooFew "TooFew") .nil)))) .nil)))
  (.cons (.ex (.mm .extend 1 (.cons (.lst (.cons (.isE (.var 0) isHeld "Held") (.cons (.isE (.var 0) isBadLink "BadLink") .nil))) .nil)))
  (.cons (.ret (.frz 1))
  .nil))))))
def n9 : List Str := [("error" : Str), ("found" : Str)]
def f9 : Fn := ⟨2, 1, b9⟩
/-- _law_kinds_more -/
def b10 : RSs := (.cons (.set 1 (.new (.lst (.cons (.isE (.var 0) isBadStation "BadStation") (.cons (.isE (.var 0) isNotPart "NotPart") (.cons (.isE (.var 0) isBadRule "BadRule") .nil))))))
  (.cons (.ex (.mm .extend 1 (.cons (.lst (.cons (.isE (.var 0) isBadDeed "BadDeed") (.cons (.isE (.var 0) isNoNet "NoNet") (.cons (.isE (.var 0) isAmid "Amid") .nil)))) .nil)))
  (.cons (.ex (.mm .extend 1 (.cons (.lst (.cons (.isE (.var 0) isNotEmpty "NotEmpty") (.cons (.isE (.var 0) isLastOne "LastOne") (.cons (.isE (.var 0) isNothingToUndo "NothingToUndo") .nil)))) .nil)))
  (.cons (.ex (.mm .extend 1 (.cons (.lst (.cons (.isE (.var 0) isNothingToRedo "NothingToRedo") (.cons (.isE (.var 0) isNoNote "NoNote") (.cons (.isE (.var 0) isBadDesk "BadDesk") .nil)))) .nil)))
  (.cons (.ret (.frz 1))
  .nil)))))
def n10 : List Str := [("error" : Str), ("found" : Str)]
def f10 : Fn := ⟨2, 1, b10⟩
/-- _law_right -/
def b11 : RSs := (.cons (.for_ (.nm 1) (.rng1 (.cn (.int 3))) (.cons (.set 2 (.call 4 (.cons (.var 0) .nil)))
  (.cons (.par [3, 4] (.cons (.call 5 (.cons (.var 2) .nil)) (.cons (.exm 100 (.var 2)) .nil)))
  (.cons (.for_ (.tp [(.nm 5), (.nm 6)]) (.enum (.var 3)) (.cons (.ife (.or_ (.cmp .ne (.erv excs (.var 6)) (.var 2)) (.or_ (.cmp .ne (.bi .repr (.cons (.erv excs (.var 6)) .nil)) (.bi .repr (.cons (.var 2) .nil))) (.cmp .ne (.me .index (.call 8 (.cons (.var 6) .nil)) (.cons (.cn (.bl true)) .nil)) (.var 5)))) (.cons (.ret (.cn (.bl false)))
  .nil) .nil)
  (.cons (.ife (.or_ (.cmp .ne (.me .count (.call 8 (.cons (.var 6) .nil)) (.cons (.cn (.bl true)) .nil)) (.cn (.int 1))) (.not_ (.isE (.var 6) isNetError "NetError"))) (.cons (.ret (.cn (.bl false)))
  .nil) .nil)
  (.cons (.ife (.not_ (.isE (.var 6) isValueError "ValueError")) (.cons (.ret (.cn (.bl false)))
  .nil) .nil)
  .nil))))
  (.cons (.ife (.or_ (.cmp .ne (.bi .repr (.cons (.erv excs (.var 4)) .nil)) (.bi .repr (.cons (.var 2) .nil))) (.or_ (.cmp .in_ (.cn (.bl true)) (.call 8 (.cons (.var 4) .nil))) (.not_ (.isE (.var 4) isValueError "ValueError")))) (.cons (.ret (.cn (.bl false)))
  .nil) .nil)
  .nil)))))
  (.cons (.ret (.cn (.bl true)))
  .nil))
def n11 : List Str := [("pot" : Str), ("lap" : Str), ("value" : Str), ("errors" : Str), ("base" : Str), ("at" : Str), ("error" : Str)]
def f11 : Fn := ⟨7, 1, b11⟩
/-- law -/
def b12 : RSs := (.cons (.ret (.bi .all (.cons (.lc [1] (.nm 1) (.e (.call 3 (.cons (.var 0) (.cons (.cn (.int 3)) .nil)))) .nil (.call 11 (.cons (.call 0 (.cons (.var 0) (.cons (.var 1) .nil))) .nil))) .nil)))
  .nil)
def n12 : List Str := [("script" : Str), ("place" : Str)]
def f12 : Fn := ⟨2, 1, b12⟩
def Tf : List Fn := [f0, f1, f2, f3, f4, f5, f6, f7, f8, f9, f10, f11, f12]
def tab : Tab := {
  fns := [(("_law_pot" : Str), 0), (("_law_take" : Str), 1), (("_law_of" : Str), 2), (("_law_cells" : Str), 3), (("_law_odd" : Str), 4), (("_law_made" : Str), 5), (("_law_made_too" : Str), 6), (("_law_made_more" : Str), 7), (("_law_kinds" : Str), 8), (("_law_kinds_too" : Str), 9), (("_law_kinds_more" : Str), 10), (("_law_right" : Str), 11), (("law" : Str), 12)]
  cls := []
  mth := []
  prp := []
  fld := []
  con := []
  kwf := []
  kwc := []
  fre := [("ValueError" : Str), ("abs" : Str), ("all" : Str), ("enumerate" : Str), ("int" : Str), ("isinstance" : Str), ("len" : Str), ("list" : Str), ("max" : Str), ("min" : Str), ("range" : Str), ("repr" : Str), ("sum" : Str), ("super" : Str)]
  exc := [(("NetError" : Str), 100), (("BadBook" : Str), 101), (("BadNumber" : Str), 102), (("BadName" : Str), 103), (("BadStations" : Str), 104), (("BadLinks" : Str), 105), (("NoStation" : Str), 106), (("NoLink" : Str), 107), (("BadLot" : Str), 108), (("BadTicks" : Str), 109), (("TooMany" : Str), 110), (("BadTick" : Str), 111), (("BadNames" : Str), 112), (("BadHeaps" : Str), 113), (("NoFlow" : Str), 114), (("BadMoves" : Str), 115), (("BadCut" : Str), 116), (("BadLevels" : Str), 117), (("NoWay" : Str), 118), (("NotHoming" : Str), 119), (("BadPackets" : Str), 120), (("BadEvent" : Str), 121), (("BadEvents" : Str), 122), (("BadWord" : Str), 123), (("Unfit" : Str), 124), (("NoDoor" : Str), 125), (("TooFew" : Str), 126), (("Held" : Str), 127), (("BadLink" : Str), 128), (("BadStation" : Str), 129), (("NotPart" : Str), 130), (("BadRule" : Str), 131), (("BadDeed" : Str), 132), (("NoNet" : Str), 133), (("Amid" : Str), 134), (("NotEmpty" : Str), 135), (("LastOne" : Str), 136), (("NothingToUndo" : Str), 137), (("NothingToRedo" : Str), 138), (("NoNote" : Str), 139), (("BadDesk" : Str), 140)]
  isx := [(("NoFlow" : Str), isNoFlow), (("BadHeaps" : Str), isBadHeaps), (("BadNames" : Str), isBadNames), (("BadTick" : Str), isBadTick), (("TooMany" : Str), isTooMany), (("BadTicks" : Str), isBadTicks), (("BadLot" : Str), isBadLot), (("NoLink" : Str), isNoLink), (("NoStation" : Str), isNoStation), (("BadLinks" : Str), isBadLinks), (("BadStations" : Str), isBadStations), (("BadName" : Str), isBadName), (("BadNumber" : Str), isBadNumber), (("BadBook" : Str), isBadBook), (("BadLink" : Str), isBadLink), (("Held" : Str), isHeld), (("TooFew" : Str), isTooFew), (("NoDoor" : Str), isNoDoor), (("Unfit" : Str), isUnfit), (("BadWord" : Str), isBadWord), (("BadEvents" : Str), isBadEvents), (("BadEvent" : Str), isBadEvent), (("BadPackets" : Str), isBadPackets), (("NotHoming" : Str), isNotHoming), (("NoWay" : Str), isNoWay), (("BadLevels" : Str), isBadLevels), (("BadCut" : Str), isBadCut), (("BadMoves" : Str), isBadMoves), (("BadDesk" : Str), isBadDesk), (("NoNote" : Str), isNoNote), (("NothingToRedo" : Str), isNothingToRedo), (("NothingToUndo" : Str), isNothingToUndo), (("LastOne" : Str), isLastOne), (("NotEmpty" : Str), isNotEmpty), (("Amid" : Str), isAmid), (("NoNet" : Str), isNoNet), (("BadDeed" : Str), isBadDeed), (("BadRule" : Str), isBadRule), (("NotPart" : Str), isNotPart), (("BadStation" : Str), isBadStation), (("ValueError" : Str), isValueError), (("NetError" : Str), isNetError)] }
theorem ck0 : ckSs tab n0 b0 (defScope (top 43)) (defScope (top 43)) (defBody (top 43)) = true := by decide +kernel
theorem ck1 : ckSs tab n1 b1 (defScope (top 44)) (defScope (top 44)) (defBody (top 44)) = true := by decide +kernel
theorem ck2 : ckSs tab n2 b2 (defScope (top 45)) (defScope (top 45)) (defBody (top 45)) = true := by decide +kernel
theorem ck3 : ckSs tab n3 b3 (defScope (top 46)) (defScope (top 46)) (defBody (top 46)) = true := by decide +kernel
theorem ck4 : ckSs tab n4 b4 (defScope (top 47)) (defScope (top 47)) (defBody (top 47)) = true := by decide +kernel
theorem ck5 : ckSs tab n5 b5 (defScope (top 48)) (defScope (top 48)) (defBody (top 48)) = true := by decide +kernel
theorem ck6 : ckSs tab n6 b6 (defScope (top 49)) (defScope (top 49)) (defBody (top 49)) = true := by decide +kernel
theorem ck7 : ckSs tab n7 b7 (defScope (top 50)) (defScope (top 50)) (defBody (top 50)) = true := by decide +kernel
theorem ck8 : ckSs tab n8 b8 (defScope (top 51)) (defScope (top 51)) (defBody (top 51)) = true := by decide +kernel
theorem ck9 : ckSs tab n9 b9 (defScope (top 52)) (defScope (top 52)) (defBody (top 52)) = true := by decide +kernel
theorem ck10 : ckSs tab n10 b10 (defScope (top 53)) (defScope (top 53)) (defBody (top 53)) = true := by decide +kernel
theorem ck11 : ckSs tab n11 b11 (defScope (top 54)) (defScope (top 54)) (defBody (top 54)) = true := by decide +kernel
theorem ck12 : ckSs tab n12 b12 (defScope (top 55)) (defScope (top 55)) (defBody (top 55)) = true := by decide +kernel
end My
end
section
set_option linter.all false
set_option maxRecDepth 100000
set_option maxHeartbeats 1000000
namespace My
open R
theorem call_eq {T : List Fn} {N d f : Nat} {fn : Fn} {vs : List SV} {S S0 : Sto} (hT : T[f]? = some fn) (hl : vs.length = fn.np) (hs : fn.np ≤ fn.slots) (hn : nodupB (imps vs) = true) (hi : impC S (imps vs) = some S0) :
    callR T N (d + 1) f vs S = endF (imps vs) S (execs (callR T N d) N fn.body (start fn vs) S0) := by
  show (match T[f]? with | some fn => runF (callR T N d) N fn vs S | none => .bad) = _
  rw [hT]
  show (if vs.length = fn.np ∧ fn.np ≤ fn.slots ∧ nodupB (imps vs) = true then (match impC S (imps vs) with
    | some S0 => endF (imps vs) S (execs (callR T N d) N fn.body (start fn vs) S0)
    | none => .bad) else .bad) = _
  rw [if_pos ⟨hl, hs, hn⟩, hi]
theorem bits_le {i : Int} {k : Nat} (h : i.natAbs < 2 ^ k) : PySem.Builtin.Int.intBits i ≤ k := by
  unfold PySem.Builtin.Int.intBits
  split
  · omega
  · rename_i hz
    have h0 : i.natAbs ≠ 0 := by
      intro e
      have : i = 0 := Int.natAbs_eq_zero.mp e
      simp [this] at hz
    have := (Nat.log2_lt h0).mpr h
    omega
theorem at0 {α : Type} (x y z : α) : L2.atI [x, y, z] 0 = some x := rfl
theorem at1 {α : Type} (x y z : α) : L2.atI [x, y, z] 1 = some y := rfl
theorem at2 {α : Type} (x y z : α) : L2.atI [x, y, z] 2 = some z := rfl
theorem ix0 : L2.ixN 3 0 = some 0 := rfl
theorem ix2 : L2.ixN 3 2 = some 2 := rfl
theorem take_ok (d N : Nat) (S : Sto) (l : Nat) (a b c n : Int) (hS : S[l]? = some (.lst [.int a, .int b, .int c])) (hb : 0 ≤ b ∧ b < 2305843009213693921) (hc : 0 ≤ c ∧ c < 1073741824) (hn : 0 < n ∧ n < 1073741824) :
    ∃ k a' c', callR Tf N (d + 1) 1 [.l l, .p (.int n)] S = .ok (.p (.int k)) (S.set l (.lst [.int a', .int b, .int c'])) ∧ 0 ≤ k ∧ k < n ∧ c ≤ c' ∧ c' ≤ c + 1 := by
  rw [call_eq (fn := f1) (S0 := [.lst [.int a, .int b, .int c]]) rfl rfl (by decide) rfl (by simp [impC, imps, hS, notOwn])]
  by_cases ha : 0 < a
  · refine ⟨a % n, a / n, c, ?_, Int.emod_nonneg _ (by omega), Int.emod_lt_of_pos _ hn.1, by omega, by omega⟩
    simp [f1, b1, start, impV, imps, exec, execs, evalE, evalEs, evalT, Env.get, cmpS, opS, rd, rdc, idxD, pur, cmpD, truD, opD, rds, biD, setSV, endF, clean, notOwn, outC, sidxC, L2.atI, L2.ixN, ha, hn.1, hn.2]
  · have hp : ∃ p : Int, L2.atI [D.int 2147483647, D.int 2147483629, D.int 2147483587, D.int 2147483579, D.int 2147483563] ((c + 1) % 5) = some (D.int p) ∧ 0 < p ∧ p < 4294967296 := by
      have h5 : (c + 1) % 5 = 0 ∨ (c + 1) % 5 = 1 ∨ (c + 1) % 5 = 2 ∨ (c + 1) % 5 = 3 ∨ (c + 1) % 5 = 4 := by omega
      rcases h5 with h | h | h | h | h <;> rw [h] <;> exact ⟨_, rfl, by decide, by decide⟩
    obtain ⟨p, hp1, hp2, hp3⟩ := hp
    have s1 : small (98401 * (c + 1)) = true := by unfold small; exact decide_eq_true (by omega)
    have s0 : small (c + 1) = true := by unfold small; exact decide_eq_true (by omega)
    have s2 : small (89 * (c + 1)) = true := by unfold small; exact decide_eq_true (by omega)
    have s8 : small (98401 : Int) = true := by decide
    have s9 : small (89 : Int) = true := by decide
    have hq : 0 ≤ (c + 1) * (c + 1) ∧ (c + 1) * (c + 1) ≤ 1073741824 * 1073741824 := ⟨Int.mul_nonneg (by omega) (by omega), Int.mul_le_mul (by omega) (by omega) (by omega) (by omega)⟩
    have e1 : 98401 * (c + 1) * (c + 1) = 98401 * ((c + 1) * (c + 1)) := Int.mul_assoc _ _ _
    have bt : PySem.Builtin.Int.intBits (b + 98401 * (c + 1) * (c + 1) + 431) ≤ 80 := bits_le (by rw [e1]; generalize (c + 1) * (c + 1) = z at hq; omega)
    have hbt : (PySem.Builtin.Int.intBits (b + 98401 * (c + 1) * (c + 1) + 431) : Int) * 3 ≤ 134217728 := by omega
    generalize hx : b + 98401 * (c + 1) * (c + 1) + 431 = x at hbt
    have s3 : small (x ^ 3 % p) = true := by
      have := Int.emod_nonneg (x ^ 3) (by omega : p ≠ 0)
      have := Int.emod_lt_of_pos (x ^ 3) hp2
      unfold small; exact decide_eq_true (by omega)
    refine ⟨((x ^ 3 % p * (x ^ 3 % p % 10009 + 89 * (c + 1))) % 2305843009213693907 / 173) % n, a, c + 1, ?_, Int.emod_nonneg _ (by omega), Int.emod_lt_of_pos _ hn.1, by omega, by omega⟩
    simp [f1, b1, start, impV, imps, exec, execs, evalE, evalEs, evalT, Env.get, cmpS, opS, rd, rdc, idxD, pur, cmpD, truD, opD, rds, purs, biD, setSV, endF, clean, notOwn, outC, sidxC, line, at0, at1, at2, ix0, ix2, hp1, hp2, ha, hn.1, hn.2, s0, s1, s2, s3, s8, s9, hx, hbt]
end My
end
section
set_option linter.all false
set_option maxRecDepth 1000000
set_option maxHeartbeats 4000000
namespace My
open R
def errs (x : D) : List D := (List.range 40).map fun i => .err (101 + i) x
def knds (c : Nat) : List D := (List.range 40).map fun i => .bl (c == 101 + i)
theorem made6 (x : D) (S : Sto) (N d : Nat) : callR Tf N (d + 1) 6 [.p x] S = .ok (.p (.lst ((List.range 14).map fun i => .err (115 + i) x))) S := by
  rw [call_eq (fn := f6) (S0 := []) rfl rfl (by decide) rfl rfl]
  simp [f6, b6, start, impV, imps, exec, execs, evalE, evalEs, evalT, Env.get, rd, rdc, pur, purs, newS, isL, mmS, mmC, frzS, setSV, endF, clean, notOwn, outC, line, opS, opD, List.range, List.range.loop]
theorem made7 (x : D) (S : Sto) (N d : Nat) : callR Tf N (d + 1) 7 [.p x] S = .ok (.p (.lst ((List.range 12).map fun i => .err (129 + i) x))) S := by
  rw [call_eq (fn := f7) (S0 := []) rfl rfl (by decide) rfl rfl]
  simp [f7, b7, start, impV, imps, exec, execs, evalE, evalEs, evalT, Env.get, rd, rdc, pur, purs, newS, isL, mmS, mmC, frzS, setSV, endF, clean, notOwn, outC, line, opS, opD, List.range, List.range.loop]
theorem made5 (x : D) (S : Sto) (N d : Nat) : callR Tf N (d + 2) 5 [.p x] S = .ok (.p (.lst (errs x))) S := by
  rw [call_eq (fn := f5) (S0 := []) rfl rfl (by decide) rfl rfl]
  simp [f5, b5, start, impV, imps, exec, execs, evalE, evalEs, evalT, Env.get, rd, rdc, pur, purs, newS, isL, mmS, mmC, frzS, setSV, endF, clean, notOwn, outC, line, opS, opD, List.range, List.range.loop, made6, made7, errs]
theorem lkNoFlow : ∀ c ∈ excs, isNoFlow.lookup c = some (c == 114) := by decide
theorem lkBadHeaps : ∀ c ∈ excs, isBadHeaps.lookup c = some (c == 113) := by decide
theorem lkBadNames : ∀ c ∈ excs, isBadNames.lookup c = some (c == 112) := by decide
theorem lkBadTick : ∀ c ∈ excs, isBadTick.lookup c = some (c == 111) := by decide
theorem lkTooMany : ∀ c ∈ excs, isTooMany.lookup c = some (c == 110) := by decide
theorem lkBadTicks : ∀ c ∈ excs, isBadTicks.lookup c = some (c == 109) := by decide
theorem lkBadLot : ∀ c ∈ excs, isBadLot.lookup c = some (c == 108) := by decide
theorem lkNoLink : ∀ c ∈ excs, isNoLink.lookup c = some (c == 107) := by decide
theorem lkNoStation : ∀ c ∈ excs, isNoStation.lookup c = some (c == 106) := by decide
theorem lkBadLinks : ∀ c ∈ excs, isBadLinks.lookup c = some (c == 105) := by decide
theorem lkBadStations : ∀ c ∈ excs, isBadStations.lookup c = some (c == 104) := by decide
theorem lkBadName : ∀ c ∈ excs, isBadName.lookup c = some (c == 103) := by decide
theorem lkBadNumber : ∀ c ∈ excs, isBadNumber.lookup c = some (c == 102) := by decide
theorem lkBadBook : ∀ c ∈ excs, isBadBook.lookup c = some (c == 101) := by decide
theorem lkBadLink : ∀ c ∈ excs, isBadLink.lookup c = some (c == 128) := by decide
theorem lkHeld : ∀ c ∈ excs, isHeld.lookup c = some (c == 127) := by decide
theorem lkTooFew : ∀ c ∈ excs, isTooFew.lookup c = some (c == 126) := by decide
theorem lkNoDoor : ∀ c ∈ excs, isNoDoor.lookup c = some (c == 125) := by decide
theorem lkUnfit : ∀ c ∈ excs, isUnfit.lookup c = some (c == 124) := by decide
theorem lkBadWord : ∀ c ∈ excs, isBadWord.lookup c = some (c == 123) := by decide
theorem lkBadEvents : ∀ c ∈ excs, isBadEvents.lookup c = some (c == 122) := by decide
theorem lkBadEvent : ∀ c ∈ excs, isBadEvent.lookup c = some (c == 121) := by decide
theorem lkBadPackets : ∀ c ∈ excs, isBadPackets.lookup c = some (c == 120) := by decide
theorem lkNotHoming : ∀ c ∈ excs, isNotHoming.lookup c = some (c == 119) := by decide
theorem lkNoWay : ∀ c ∈ excs, isNoWay.lookup c = some (c == 118) := by decide
theorem lkBadLevels : ∀ c ∈ excs, isBadLevels.lookup c = some (c == 117) := by decide
theorem lkBadCut : ∀ c ∈ excs, isBadCut.lookup c = some (c == 116) := by decide
theorem lkBadMoves : ∀ c ∈ excs, isBadMoves.lookup c = some (c == 115) := by decide
theorem lkBadDesk : ∀ c ∈ excs, isBadDesk.lookup c = some (c == 140) := by decide
theorem lkNoNote : ∀ c ∈ excs, isNoNote.lookup c = some (c == 139) := by decide
theorem lkNothingToRedo : ∀ c ∈ excs, isNothingToRedo.lookup c = some (c == 138) := by decide
theorem lkNothingToUndo : ∀ c ∈ excs, isNothingToUndo.lookup c = some (c == 137) := by decide
theorem lkLastOne : ∀ c ∈ excs, isLastOne.lookup c = some (c == 136) := by decide
theorem lkNotEmpty : ∀ c ∈ excs, isNotEmpty.lookup c = some (c == 135) := by decide
theorem lkAmid : ∀ c ∈ excs, isAmid.lookup c = some (c == 134) := by decide
theorem lkNoNet : ∀ c ∈ excs, isNoNet.lookup c = some (c == 133) := by decide
theorem lkBadDeed : ∀ c ∈ excs, isBadDeed.lookup c = some (c == 132) := by decide
theorem lkBadRule : ∀ c ∈ excs, isBadRule.lookup c = some (c == 131) := by decide
theorem lkNotPart : ∀ c ∈ excs, isNotPart.lookup c = some (c == 130) := by decide
theorem lkBadStation : ∀ c ∈ excs, isBadStation.lookup c = some (c == 129) := by decide
theorem lkNetError : ∀ c ∈ excs, isNetError.lookup c = some true := by decide
theorem lkValueError : ∀ c ∈ excs, isValueError.lookup c = some true := by decide
theorem kd9 (c : Nat) (hc : c ∈ excs) (x : D) (S : Sto) (N d : Nat) : callR Tf N (d + 1) 9 [.p (.err c x)] S = .ok (.p (.lst ((List.range 14).map fun i => .bl (c == 115 + i)))) S := by
  rw [call_eq (fn := f9) (S0 := []) rfl rfl (by decide) rfl rfl]
  simp [f9, b9, start, impV, imps, exec, execs, evalE, evalEs, evalT, Env.get, rd, rdc, pur, purs, newS, isL, mmS, mmC, frzS, setSV, endF, clean, notOwn, outC, line, opS, opD, List.range, List.range.loop, lkBadMoves c hc, lkBadCut c hc, lkBadLevels c hc, lkNoWay c hc, lkNotHoming c hc, lkBadPackets c hc, lkBadEvent c hc, lkBadEvents c hc, lkBadWord c hc, lkUnfit c hc, lkNoDoor c hc, lkTooFew c hc, lkHeld c hc, lkBadLink c hc]
theorem kd10 (c : Nat) (hc : c ∈ excs) (x : D) (S : Sto) (N d : Nat) : callR Tf N (d + 1) 10 [.p (.err c x)] S = .ok (.p (.lst ((List.range 12).map fun i => .bl (c == 129 + i)))) S := by
  rw [call_eq (fn := f10) (S0 := []) rfl rfl (by decide) rfl rfl]
  simp [f10, b10, start, impV, imps, exec, execs, evalE, evalEs, evalT, Env.get, rd, rdc, pur, purs, newS, isL, mmS, mmC, frzS, setSV, endF, clean, notOwn, outC, line, opS, opD, List.range, List.range.loop, lkBadStation c hc, lkNotPart c hc, lkBadRule c hc, lkBadDeed c hc, lkNoNet c hc, lkAmid c hc, lkNotEmpty c hc, lkLastOne c hc, lkNothingToUndo c hc, lkNothingToRedo c hc, lkNoNote c hc, lkBadDesk c hc]
theorem kd8 (c : Nat) (hc : c ∈ excs) (x : D) (S : Sto) (N d : Nat) : callR Tf N (d + 2) 8 [.p (.err c x)] S = .ok (.p (.lst (knds c))) S := by
  rw [call_eq (fn := f8) (S0 := []) rfl rfl (by decide) rfl rfl]
  simp [f8, b8, start, impV, imps, exec, execs, evalE, evalEs, evalT, Env.get, rd, rdc, pur, purs, newS, isL, mmS, mmC, frzS, setSV, endF, clean, notOwn, outC, line, opS, opD, List.range, List.range.loop, lkBadBook c hc, lkBadNumber c hc, lkBadName c hc, lkBadStations c hc, lkBadLinks c hc, lkNoStation c hc, lkNoLink c hc, lkBadLot c hc, lkBadTicks c hc, lkTooMany c hc, lkBadTick c hc, lkBadNames c hc, lkBadHeaps c hc, lkNoFlow c hc, kd9 c hc, kd10 c hc, knds]
theorem idx_all : ∀ c ∈ excs.tail, indexD (.bl true) (knds c) = some (c - 101) ∧ countD (.bl true) (knds c) = some 1 := by decide +kernel
theorem none_all : inD (.bl true) (knds 100) = some false := by decide +kernel
end My
end
section
set_option linter.all false
set_option maxRecDepth 1000000
set_option maxHeartbeats 4000000
namespace My
open R
theorem bits10 : PySem.Builtin.Int.intBits 10 = 4 := by decide +kernel
theorem at_some (xs : List D) (k : Int) (h0 : 0 ≤ k) (h1 : k < xs.length) : ∃ x ∈ xs, L2.atI xs k = some x := by
  have h2 : k.toNat < xs.length := by omega
  refine ⟨xs[k.toNat], List.getElem_mem h2, ?_⟩
  unfold L2.atI L2.ixN
  rw [if_pos h0, if_pos h1]
  simp [h2]
theorem of_ok (d N : Nat) (S : Sto) (l : Nat) (a b c : Int) (xs : List D) (hS : S[l]? = some (.lst [.int a, .int b, .int c])) (hb : 0 ≤ b ∧ b < 2305843009213693921) (hc : 0 ≤ c ∧ c < 1073741824) (hx : xs ≠ []) (hn : xs.length < 1073741824) :
    ∃ x a' c', callR Tf N (d + 2) 2 [.l l, .p (.lst xs)] S = .ok (.p x) (S.set l (.lst [.int a', .int b, .int c'])) ∧ x ∈ xs ∧ c ≤ c' ∧ c' ≤ c + 1 := by
  have hp : 0 < xs.length := List.length_pos_iff.mpr hx
  obtain ⟨k, a', c', e, h1, h2, h3, h4⟩ := take_ok d N [.lst [.int a, .int b, .int c]] 0 a b c xs.length rfl hb hc ⟨by omega, by omega⟩
  obtain ⟨x, hx1, hx2⟩ := at_some xs k h1 h2
  refine ⟨x, a', c', ?_, hx1, h3, h4⟩
  rw [call_eq (fn := f2) (S0 := [.lst [.int a, .int b, .int c]]) rfl rfl (by decide) rfl (by simp [impC, imps, hS, notOwn])]
  simp [f2, b2, start, impV, imps, exec, execs, evalE, evalEs, Env.get, rd, rdc, pur, rds, biD, endF, clean, notOwn, outC, e, idxD, hx2]
def odds : List D := [.non, .bl true, .bl false, .int 0, .int (-1), .str "", .str "A", .str "a b", .tup [], .lst [], .dct [], .tup [.tup []], .tup [.non], .lst [.int 0], .tup [.int 0], .tup [.str "a"], .tup [.tup [.int 0, .int 1]],
  .tup [.str "a", .str "b"], .lst [.str "a"], .dct [(.str "a", .int 1)], .int (10 ^ 30), .int (-7), .tup [.str "b", .str "a"], .tup [.str "a", .str "a"], .str "toolongname"]
theorem odd_ok (d N : Nat) (S : Sto) (l : Nat) (a b c : Int) (hS : S[l]? = some (.lst [.int a, .int b, .int c])) (hb : 0 ≤ b ∧ b < 2305843009213693921) (hc : 0 ≤ c ∧ c < 1073741824) :
    ∃ x a' c', callR Tf N (d + 3) 4 [.l l] S = .ok (.p x) (S.set l (.lst [.int a', .int b, .int c'])) ∧ x ∈ odds ∧ c ≤ c' ∧ c' ≤ c + 1 := by
  obtain ⟨x, a', c', e, h1, h2, h3⟩ := of_ok d N [.lst [.int a, .int b, .int c]] 0 a b c odds rfl hb hc (by unfold odds; simp) (by unfold odds; simp)
  refine ⟨x, a', c', ?_, h1, h2, h3⟩
  rw [call_eq (fn := f4) (S0 := [.lst [.int a, .int b, .int c]]) rfl rfl (by decide) rfl (by simp [impC, imps, hS, notOwn])]
  unfold odds at e
  simp at e
  simp [f4, b4, start, impV, imps, exec, execs, evalE, evalEs, Env.get, rd, rdc, pur, purs, endF, clean, notOwn, outC, setSV, line, opS, opD, upD, keyD, mergeD, putD, hasD, bits10, e]
def p60 : Int := 10 ^ 60
def p300 : Int := p60 ^ 5
def p18 : Int := 10 ^ 18
theorem pw1 : opD .pow (.int 10) (.int 60) = some (.int p60) := by simp [opD, bits10, p60]
theorem bits60 : PySem.Builtin.Int.intBits p60 = 200 := by decide +kernel
theorem pw2 : opD .pow (.int p60) (.int 5) = some (.int p300) := by simp [opD, bits60, p300]
theorem pw3 : opD .pow (.int 10) (.int 18) = some (.int p18) := by simp [opD, bits10, p18]
theorem p300_pos : 0 < p300 := by decide +kernel
theorem opAdd (i j : Int) : opD .add (.int i) (.int j) = some (.int (i + j)) := rfl
theorem opSub (i j : Int) : opD .sub (.int i) (.int j) = some (.int (i - j)) := rfl
theorem opMul (i j : Int) (h : small i = true ∨ small j = true) : opD .mul (.int i) (.int j) = some (.int (i * j)) := by
  show (if small i = true ∨ small j = true then some (D.int (i * j)) else none) = _
  rw [if_pos h]
theorem opMod (i j : Int) (h : 0 < j) : opD .mod (.int i) (.int j) = some (.int (i % j)) := by
  show (if 0 < j then some (D.int (i % j)) else none) = _
  rw [if_pos h]
theorem intsD_map : ∀ l : List Int, intsD (l.map .int) = some l
  | [] => rfl
  | x :: l => by simp [intsD, intsD_map l]
theorem sum_scr (l : List Int) : biD .sum [.lst (l.map .int)] = some (.int l.sum) := by simp [biD, intsD_map]
theorem at_int (xs : List Int) (k : Int) (h0 : 0 ≤ k) (h1 : k < xs.length) : ∃ x, L2.atI xs k = some x := by
  have h2 : k.toNat < xs.length := by omega
  refine ⟨xs[k.toNat], ?_⟩
  unfold L2.atI L2.ixN
  rw [if_pos h0, if_pos h1]
  simp [h2]
theorem biD_len (ns : List Int) : biD .len [.scr ns] = some (.int ns.length) := rfl
theorem pot_ok (d N : Nat) (S : Sto) (ns : List Int) (p : Int) (hp : 0 ≤ p ∧ p < 3) : ∃ a b, callR Tf N (d + 1) 0 [.p (.scr ns), .p (.int p)] S = .ok (.l S.length) (S ++ [.lst [.int a, .int b, .int 0]]) ∧ 0 ≤ b ∧ b < 2305843009213693921 := by
  rw [call_eq (fn := f0) (S0 := []) rfl rfl (by decide) rfl rfl]
  have sp : small p = true := by unfold small; exact decide_eq_true (by omega)
  have hz : ∃ z : Int, ∀ C, evalE C (.ife (.cmp .lt (.var 1) (.bi .len (.cons (.var 0) .nil))) (.idx (.var 0) (.var 1)) (.op .add (.op .add (.op .mod (.bi .sum (.cons (.sl (.var 0) .non (.som (.cn (.int 1)))) .nil)) (.cn (.int 1000003))) (.op .mul (.cn (.int 1165)) (.var 1))) (.cn (.int 539)))) [some (.p (.scr ns)), some (.p (.int p)), none, none, none] [] = .ok (.p (.int z)) [] := by
    by_cases h : p < ns.length
    · obtain ⟨z, hz⟩ := at_int ns p hp.1 h
      refine ⟨z, fun C => ?_⟩
      simp [evalE, evalEs, evalT, Env.get, cmpS, rd, pur, cmpD, truD, rds, biD, idxD, h, hz]
    · refine ⟨(cutD ns none (some 1)).sum % 1000003 + 1165 * p + 539, fun C => ?_⟩
      have m1 : small 1165 = true := by decide
      simp [evalE, evalEs, evalT, evalO, Env.get, cmpS, opS, rd, pur, cmpD, truD, rds, sum_scr, slD, h, opAdd, opMod, opMul, m1, biD_len]
  obtain ⟨z, hz⟩ := hz
  have m2 : small 73237 = true := by decide
  have m3 : small 8153 = true := by decide
  have m4 : small 1 = true := by decide
  have m5 : small 0 = true := by decide
  refine ⟨(if z < 0 then -z else z) % p300 * (if p18 ≤ (if z < 0 then -z else z) then 1 else 0), ((z % 2305843009213693951) * 73237 + 8153 * p * p + 539) % 2305843009213693921, ?_, Int.emod_nonneg _ (by decide), Int.emod_lt_of_pos _ (by decide)⟩
  have ab : ∀ z : Int, biD .abs [.int z] = some (.int (if z < 0 then -z else z)) := fun _ => rfl
  have bi1 : ∀ z : Int, biD .int [.int z] = some (.int z) := fun _ => rfl
  have bi2 : ∀ z : Bool, biD .int [.bl z] = some (.int (if z then 1 else 0)) := fun _ => rfl
  have cg : ∀ i j : Int, cmpD .ge (.int i) (.int j) = some (decide (j ≤ i)) := fun _ _ => rfl
  simp only [f0, b0, start, execs, exec]
  have hz' := hz (callR Tf N d)
  simp only [List.length_cons, List.length_nil, impV, List.map, Nat.reduceAdd, Nat.reduceSub, List.replicate, List.cons_append, List.nil_append] 
  rw [hz']
  by_cases hc : p18 ≤ (if z < 0 then -z else z)
  · simp [evalE, evalEs, Env.get, cmpS, opS, rd, pur, purs, rds, ab, bi1, bi2, cg, pw1, pw2, pw3, opAdd, opMod, opMul, p300_pos, m2, m3, m4, m5, sp, hc, setSV, newS, line, endF, clean, notOwn, outC, imps]
  · simp [evalE, evalEs, Env.get, cmpS, opS, rd, pur, purs, rds, ab, bi1, bi2, cg, pw1, pw2, pw3, opAdd, opMod, opMul, p300_pos, m2, m3, m4, m5, sp, hc, setSV, newS, line, endF, clean, notOwn, outC, imps]
theorem for_inv {f : D → Env → Sto → StR} : ∀ (xs : List D) (P : Nat → Env → Sto → Prop) (e : Env) (S : Sto), P 0 e S → (∀ j x e S, xs[j]? = some x → P j e S → ∃ e' S', f x e S = .nx e' S' ∧ P (j + 1) e' S') → ∃ e' S', forLoop f xs e S = .nx e' S' ∧ P xs.length e' S'
  | [], P, e, S, h0, _ => ⟨e, S, rfl, h0⟩
  | x :: xs, P, e, S, h0, h => by
    obtain ⟨e1, S1, q1, q2⟩ := h 0 x e S rfl h0
    obtain ⟨e2, S2, q3, q4⟩ := for_inv xs (fun j => P (j + 1)) e1 S1 q2 (fun j x e S hj hp => h (j + 1) x e S hj hp)
    refine ⟨e2, S2, ?_, q4⟩
    unfold forLoop
    rw [q1]
    exact q3
theorem neI (i : Int) : cmpD .ne (.int i) (.int i) = some false := by
  simp [cmpD, eqD, D.py, PySem.SeqAt.shaped, PySem.PyData.canLay0, PySem.PyData.depth, PySem.PyData.eqv]
def oddB (x : D) : Bool := match cmpD .ne x x, biD .repr [x] with
  | some false, some (.str s) => decide (cmpD .ne (.str s) (.str s) = some false)
  | _, _ => false
theorem odds_ok : ∀ x ∈ odds, oddB x = true := by decide +kernel
def b11in : RSs := (.cons (.set 2 (.call 4 (.cons (.var 0) .nil)))
  (.cons (.par [3, 4] (.cons (.call 5 (.cons (.var 2) .nil)) (.cons (.exm 100 (.var 2)) .nil)))
  (.cons (.for_ (.tp [(.nm 5), (.nm 6)]) (.enum (.var 3)) (.cons (.ife (.or_ (.cmp .ne (.erv excs (.var 6)) (.var 2)) (.or_ (.cmp .ne (.bi .repr (.cons (.erv excs (.var 6)) .nil)) (.bi .repr (.cons (.var 2) .nil))) (.cmp .ne (.me .index (.call 8 (.cons (.var 6) .nil)) (.cons (.cn (.bl true)) .nil)) (.var 5)))) (.cons (.ret (.cn (.bl false)))
  .nil) .nil)
  (.cons (.ife (.or_ (.cmp .ne (.me .count (.call 8 (.cons (.var 6) .nil)) (.cons (.cn (.bl true)) .nil)) (.cn (.int 1))) (.not_ (.isE (.var 6) isNetError "NetError"))) (.cons (.ret (.cn (.bl false)))
  .nil) .nil)
  (.cons (.ife (.not_ (.isE (.var 6) isValueError "ValueError")) (.cons (.ret (.cn (.bl false)))
  .nil) .nil)
  .nil))))
  (.cons (.ife (.or_ (.cmp .ne (.bi .repr (.cons (.erv excs (.var 4)) .nil)) (.bi .repr (.cons (.var 2) .nil))) (.or_ (.cmp .in_ (.cn (.bl true)) (.call 8 (.cons (.var 4) .nil))) (.not_ (.isE (.var 4) isValueError "ValueError")))) (.cons (.ret (.cn (.bl false)))
  .nil) .nil)
  .nil))))
def b11in2 : RSs := (.cons (.ife (.or_ (.cmp .ne (.erv excs (.var 6)) (.var 2)) (.or_ (.cmp .ne (.bi .repr (.cons (.erv excs (.var 6)) .nil)) (.bi .repr (.cons (.var 2) .nil))) (.cmp .ne (.me .index (.call 8 (.cons (.var 6) .nil)) (.cons (.cn (.bl true)) .nil)) (.var 5)))) (.cons (.ret (.cn (.bl false)))
  .nil) .nil)
  (.cons (.ife (.or_ (.cmp .ne (.me .count (.call 8 (.cons (.var 6) .nil)) (.cons (.cn (.bl true)) .nil)) (.cn (.int 1))) (.not_ (.isE (.var 6) isNetError "NetError"))) (.cons (.ret (.cn (.bl false)))
  .nil) .nil)
  (.cons (.ife (.not_ (.isE (.var 6) isValueError "ValueError")) (.cons (.ret (.cn (.bl false)))
  .nil) .nil)
  .nil)))
def PIn (a b : Int) (c : Int) (x : D) (q1 : Option SV) (e : Env) (S : Sto) : Prop := S = [.lst [.int a, .int b, .int c]] ∧ ∃ q5 q6, e = [some (.l 0), q1, some (.p x), some (.p (.lst (errs x))), some (.p (.err 100 x)), q5, q6]
theorem enum_at : ∀ (xs : List D) (n j : Nat) (y : D), (enumD n xs)[j]? = some y → ∃ x, xs[j]? = some x ∧ y = .tup [.int ((n + j : Nat) : Int), x]
  | [], n, j, y, h => by simp [enumD] at h
  | x :: xs, n, 0, y, h => by
    simp [enumD] at h
    exact ⟨x, rfl, h.symm⟩
  | x :: xs, n, j + 1, y, h => by
    simp [enumD] at h
    obtain ⟨x', h1, h2⟩ := enum_at xs (n + 1) j y h
    refine ⟨x', by simpa using h1, ?_⟩
    rw [h2]
    have : n + 1 + j = n + (j + 1) := by omega
    rw [this]
theorem meIdx (x : D) (xs : List D) : meD .index (.lst xs) [x] = (indexD x xs).map fun n : Nat => .int (n : Int) := rfl
theorem meCnt (x : D) (xs : List D) : meD .count (.lst xs) [x] = (countD x xs).map fun n : Nat => .int (n : Int) := rfl
theorem inL (x : D) (xs : List D) : cmpD .in_ x (.lst xs) = inD x xs := by cases x <;> rfl
theorem execs_nx {C : CallF} {N : Nat} {s : RS} {r : RSs} {e e' : Env} {S S' : Sto} (h : exec C N s e S = .nx e' S') : execs C N (.cons s r) e S = execs C N r e' S' := by
  rw [execs, h]
def s11a : RS := (.set 2 (.call 4 (.cons (.var 0) .nil)))
def s11b : RS := (.par [3, 4] (.cons (.call 5 (.cons (.var 2) .nil)) (.cons (.exm 100 (.var 2)) .nil)))
def s11c : RS := (.for_ (.tp [(.nm 5), (.nm 6)]) (.enum (.var 3)) (.cons (.ife (.or_ (.cmp .ne (.erv excs (.var 6)) (.var 2)) (.or_ (.cmp .ne (.bi .repr (.cons (.erv excs (.var 6)) .nil)) (.bi .repr (.cons (.var 2) .nil))) (.cmp .ne (.me .index (.call 8 (.cons (.var 6) .nil)) (.cons (.cn (.bl true)) .nil)) (.var 5)))) (.cons (.ret (.cn (.bl false)))
  .nil) .nil)
  (.cons (.ife (.or_ (.cmp .ne (.me .count (.call 8 (.cons (.var 6) .nil)) (.cons (.cn (.bl true)) .nil)) (.cn (.int 1))) (.not_ (.isE (.var 6) isNetError "NetError"))) (.cons (.ret (.cn (.bl false)))
  .nil) .nil)
  (.cons (.ife (.not_ (.isE (.var 6) isValueError "ValueError")) (.cons (.ret (.cn (.bl false)))
  .nil) .nil)
  .nil))))
def s11d : RS := (.ife (.or_ (.cmp .ne (.bi .repr (.cons (.erv excs (.var 4)) .nil)) (.bi .repr (.cons (.var 2) .nil))) (.or_ (.cmp .in_ (.cn (.bl true)) (.call 8 (.cons (.var 4) .nil))) (.not_ (.isE (.var 4) isValueError "ValueError")))) (.cons (.ret (.cn (.bl false)))
  .nil) .nil)
theorem right_ok (d N : Nat) (S : Sto) (l : Nat) (a b : Int) (hS : S[l]? = some (.lst [.int a, .int b, .int 0])) (hb : 0 ≤ b ∧ b < 2305843009213693921) : ∃ S', callR Tf N (d + 4) 11 [.l l] S = .ok (.p (.bl true)) S' := by
  rw [call_eq (fn := f11) (S0 := [.lst [.int a, .int b, .int 0]]) rfl rfl (by decide) rfl (by simp [impC, imps, hS, notOwn])]
  have key : ∃ e' S', forLoop (fun x e S => (ofO (asgT (.nm 1) x e S) S).st fun q _ => execs (callR Tf N (d + 3)) N b11in q.1 q.2) (rangeD 0 3) [some (.l 0), none, none, none, none, none, none] [.lst [.int a, .int b, .int 0]] = .nx e' S' ∧ ∃ (a b c : Int) (q1 q2 q3 q4 q5 q6 : Option SV), e' = [some (.l 0), q1, q2, q3, q4, q5, q6] ∧ S' = [.lst [.int a, .int b, .int c]] := by
    have step : ∀ (j : Nat) (x : D) (e : Env) (S : Sto), (rangeD 0 3)[j]? = some x → (fun (j : Nat) (e : Env) (S : Sto) => ∃ (a b c : Int) (q1 q2 q3 q4 q5 q6 : Option SV), e = [some (.l 0), q1, q2, q3, q4, q5, q6] ∧ S = [.lst [.int a, .int b, .int c]] ∧ 0 ≤ b ∧ b < 2305843009213693921 ∧ 0 ≤ c ∧ c ≤ j) j e S → ∃ e' S', (ofO (asgT (.nm 1) x e S) S).st (fun q _ => execs (callR Tf N (d + 3)) N b11in q.1 q.2) = .nx e' S' ∧ (fun (j : Nat) (e : Env) (S : Sto) => ∃ (a b c : Int) (q1 q2 q3 q4 q5 q6 : Option SV), e = [some (.l 0), q1, q2, q3, q4, q5, q6] ∧ S = [.lst [.int a, .int b, .int c]] ∧ 0 ≤ b ∧ b < 2305843009213693921 ∧ 0 ≤ c ∧ c ≤ j) (j + 1) e' S' := by
      intro j x e S hj hp
      obtain ⟨a, b, c, q1, q2, q3, q4, q5, q6, rfl, rfl, hb1, hb2, hc1, hc2⟩ := hp
      have hj3 : j < 3 := by
        have := (List.getElem?_eq_some_iff.mp hj).1
        simpa [rangeD] using this
      obtain ⟨v, a', c', e1, hv, h1, h2⟩ := odd_ok d N [.lst [.int a, .int b, .int c]] 0 a b c rfl ⟨hb1, hb2⟩ ⟨hc1, by omega⟩
      have e1 : callR Tf N (d + 3) 4 [.l 0] [.lst [.int a, .int b, .int c]] = .ok (.p v) [.lst [.int a', .int b, .int c']] := e1
      have ok := odds_ok v hv
      unfold oddB at ok
      split at ok
      · rename_i s n1 n2
        have n3 := of_decide_eq_true ok
        have inner : ∃ e' S', forLoop (fun x e S => (ofO (asgT (.tp [.nm 5, .nm 6]) x e S) S).st fun q _ => execs (callR Tf N (d + 3)) N b11in2 q.1 q.2) (enumD 0 (errs v)) [some (.l 0), some (.p x), some (.p v), some (.p (.lst (errs v))), some (.p (.err 100 v)), q5, q6] [.lst [.int a', .int b, .int c']] = .nx e' S' ∧ PIn a' b c' v (some (.p x)) e' S' := by
          refine for_inv (enumD 0 (errs v)) (fun j e S => PIn a' b c' v (some (.p x)) e S) _ _ ⟨rfl, q5, q6, rfl⟩ (fun i y e S hi hp => ?_)
          obtain ⟨rfl, r5, r6, rfl⟩ := hp
          obtain ⟨z, z1, rfl⟩ := enum_at _ _ _ _ hi
          have hi40 : i < 40 := by
            have := (List.getElem?_eq_some_iff.mp z1).1
            simpa [errs] using this
          have hz : z = .err (101 + i) v := by
            have : (errs v)[i]? = some (.err (101 + i) v) := by simp [errs, hi40]
            rw [this] at z1
            cases z1
            rfl
          subst hz
          have hc1 : 101 + i ∈ excs.tail := by
            have : ∀ i < 40, 101 + i ∈ excs.tail := by decide
            exact this i hi40
          have hc0 : 101 + i ∈ excs := List.mem_of_mem_tail hc1
          have k8 := kd8 (101 + i) hc0 v
          obtain ⟨x1, x2⟩ := idx_all _ hc1
          have x3 : 101 + i - 101 = i := by omega
          rw [x3] at x1
          have l1 := lkNetError _ hc0
          have l2 := lkValueError _ hc0
          refine ⟨_, _, ?_, ⟨rfl, some (.p (.int ((0 + i : Nat) : Int))), some (.p (.err (101 + i) v)), rfl⟩⟩
          simp [asgT, asgTs, seqD, b11in2, execs, exec, evalE, evalEs, evalT, Env.get, rd, rdc, pur, purs, rds, cmpS, hc0, n1, n2, n3, k8, okK, meIdx, meCnt, x1, x2, neI, truD, l1, l2]
        obtain ⟨e2, S2, g1, rfl, r5, r6, rfl⟩ := inner
        refine ⟨_, _, ?_, ⟨a', b, c', some (.p x), some (.p v), some (.p (.lst (errs v))), some (.p (.err 100 v)), r5, r6, rfl, rfl, hb1, hb2, by omega, by omega⟩⟩
        have h100 : (100 : Nat) ∈ excs := by decide
        have k8 := kd8 100 h100 v
        have l2 := lkValueError _ h100
        have n4 := none_all
        have mv := made5 v
        have t1 : exec (callR Tf N (d + 3)) N s11a [some (.l 0), some (.p x), q2, q3, q4, q5, q6] [.lst [.int a, .int b, .int c]] = .nx [some (.l 0), some (.p x), some (.p v), q3, q4, q5, q6] [.lst [.int a', .int b, .int c']] := by
          simp [s11a, exec, evalE, evalEs, Env.get, setSV, e1]
        have t2 : exec (callR Tf N (d + 3)) N s11b [some (.l 0), some (.p x), some (.p v), q3, q4, q5, q6] [.lst [.int a', .int b, .int c']] = .nx [some (.l 0), some (.p x), some (.p v), some (.p (.lst (errs v))), some (.p (.err 100 v)), q5, q6] [.lst [.int a', .int b, .int c']] := by
          simp [s11b, exec, evalE, evalEs, Env.get, setPar, mv]
        have t3 : exec (callR Tf N (d + 3)) N s11c [some (.l 0), some (.p x), some (.p v), some (.p (.lst (errs v))), some (.p (.err 100 v)), q5, q6] [.lst [.int a', .int b, .int c']] = .nx [some (.l 0), some (.p x), some (.p v), some (.p (.lst (errs v))), some (.p (.err 100 v)), r5, r6] [.lst [.int a', .int b, .int c']] := by
          rw [← g1]
          simp [s11c, exec, evalE, evalI, Env.get, seqD]
          rfl
        have t4 : exec (callR Tf N (d + 3)) N s11d [some (.l 0), some (.p x), some (.p v), some (.p (.lst (errs v))), some (.p (.err 100 v)), r5, r6] [.lst [.int a', .int b, .int c']] = .nx [some (.l 0), some (.p x), some (.p v), some (.p (.lst (errs v))), some (.p (.err 100 v)), r5, r6] [.lst [.int a', .int b, .int c']] := by
          simp [s11d, exec, execs, evalE, evalEs, evalT, Env.get, rd, rdc, pur, purs, rds, cmpS, h100, n1, n2, n3, k8, inL, n4, truD, l2]
        have t0 : (ofO (asgT (.nm 1) x [some (.l 0), q1, q2, q3, q4, q5, q6] [.lst [.int a, .int b, .int c]]) [.lst [.int a, .int b, .int c]]) = .ok ([some (.l 0), some (.p x), q2, q3, q4, q5, q6], [.lst [.int a, .int b, .int c]]) [.lst [.int a, .int b, .int c]] := by
          simp [asgT]
        rw [t0, Res.st_ok]
        show execs _ _ (.cons s11a (.cons s11b (.cons s11c (.cons s11d .nil)))) _ _ = _
        rw [execs_nx t1, execs_nx t2, execs_nx t3, execs_nx t4, execs]
      · cases ok
    obtain ⟨e', S', h1, h2⟩ := for_inv (rangeD 0 3) (fun (j : Nat) (e : Env) (S : Sto) => ∃ (a b c : Int) (q1 q2 q3 q4 q5 q6 : Option SV), e = [some (.l 0), q1, q2, q3, q4, q5, q6] ∧ S = [.lst [.int a, .int b, .int c]] ∧ 0 ≤ b ∧ b < 2305843009213693921 ∧ 0 ≤ c ∧ c ≤ j) _ _ ⟨a, b, 0, none, none, none, none, none, none, rfl, rfl, hb.1, hb.2, by omega, by omega⟩ step
    obtain ⟨a, b, c, q1, q2, q3, q4, q5, q6, h3, h4, _⟩ := h2
    exact ⟨e', S', h1, a, b, c, q1, q2, q3, q4, q5, q6, h3, h4⟩
  obtain ⟨e', S', h1, a2, b2, c2, q1, q2, q3, q4, q5, q6, rfl, rfl⟩ := key
  refine ⟨S.set l (.lst [.int a2, .int b2, .int c2]), ?_⟩
  have t1 : exec (callR Tf N (d + 3)) N (.for_ (.nm 1) (.rng1 (.cn (.int 3))) b11in) [some (.l 0), none, none, none, none, none, none] [.lst [.int a, .int b, .int 0]] = .nx [some (.l 0), q1, q2, q3, q4, q5, q6] [.lst [.int a2, .int b2, .int c2]] := by
    rw [← h1]
    simp [exec, evalE, evalI]
  show endF _ _ (execs _ _ (.cons (.for_ (.nm 1) (.rng1 (.cn (.int 3))) b11in) (.cons (.ret (.cn (.bl true))) .nil)) [some (.l 0), none, none, none, none, none, none] _) = _
  rw [execs_nx t1]
  simp [execs, exec, evalE, endF, clean, notOwn, outC, imps]
theorem lc_all (turn : D → Sto → Res (Option D)) : ∀ (xs : List D) (acc : List D) (S : Sto), (∀ x ∈ xs, ∀ S, ∃ S', turn x S = .ok (some (.bl true)) S') → acc.length + xs.length < 100 → ∃ S', lcLoop turn xs acc S = .ok (acc ++ List.replicate xs.length (.bl true)) S'
  | [], acc, S, _, _ => ⟨S, by simp [lcLoop]⟩
  | x :: xs, acc, S, h, hl => by
    obtain ⟨S1, h1⟩ := h x (by simp) S
    simp only [List.length_cons] at hl
    obtain ⟨S2, h2⟩ := lc_all turn xs (acc ++ [.bl true]) S1 (fun x hx => h x (by simp [hx])) (by simp; omega)
    refine ⟨S2, ?_⟩
    unfold lcLoop
    rw [h1]
    have : acc.length < line := by unfold line; omega
    simp only [Res.bind_ok, this, if_true, h2]
    simp [List.replicate_succ]
theorem blsD_rep : ∀ n : Nat, blsD (List.replicate n (.bl true)) = some (List.replicate n true)
  | 0 => rfl
  | n + 1 => by simp [List.replicate_succ, blsD, blsD_rep n]
theorem cells_ok (d N : Nat) (S : Sto) (ns : List Int) : ∃ k : Nat, k ≤ 3 ∧ callR Tf N (d + 1) 3 [.p (.scr ns), .p (.int 3)] S = .ok (.p (.lst (rangeD 0 k))) S := by
  have mx : ∀ i j : Int, biD .max [.int i, .int j] = some (.int (if j > i then j else i)) := fun _ _ => rfl
  have mn : ∀ i j : Int, biD .min [.int i, .int j] = some (.int (if j < i then j else i)) := fun _ _ => rfl
  rw [call_eq (fn := f3) (S0 := []) rfl rfl (by decide) rfl rfl]
  by_cases h1 : (ns.length : Int) < 3
  · by_cases h2 : (ns.length : Int) > 1
    · refine ⟨ns.length, by omega, ?_⟩
      have h3 : (ns.length : Int) ≤ 16777216 := by omega
      simp [h3, f3, b3, start, impV, imps, execs, exec, evalE, evalEs, Env.get, rd, rds, biD_len, mx, mn, h1, h2, line, endF, clean, notOwn, outC]
    · refine ⟨1, by omega, ?_⟩
      simp [f3, b3, start, impV, imps, execs, exec, evalE, evalEs, Env.get, rd, rds, biD_len, mx, mn, h1, h2, line, endF, clean, notOwn, outC]
  · refine ⟨3, by omega, ?_⟩
    simp [f3, b3, start, impV, imps, execs, exec, evalE, evalEs, Env.get, rd, rds, biD_len, mx, mn, h1, line, endF, clean, notOwn, outC]
theorem law_true (ns : List Int) (hl : ns.length ≤ 63) (hb : ∀ i ∈ ns, PySem.Builtin.Int.intBits i ≤ 1048576) : ∃ (M : Nat) (S : Sto), callR Tf M (5 + 1) 12 [.p (.scr ns)] [] = .ok (.p (.bl true)) S := by
  refine ⟨0, ?_⟩
  rw [call_eq (fn := f12) (S0 := []) rfl rfl (by decide) rfl rfl]
  obtain ⟨k, hk, ec⟩ := cells_ok 4 0 [] ns
  have turn : ∀ x ∈ rangeD 0 k, ∀ S, ∃ S', (fun x S => (ofO (asgT (.nm 1) x (wipeE [some (.p (.scr ns)), none] [1]) S) S).bind fun q _ => (evalIfs (callR Tf 0 5) .nil q.1 q.2).bind fun b S => if b = true then (evalE (callR Tf 0 5) (.call 11 (.cons (.call 0 (.cons (.var 0) (.cons (.var 1) .nil))) .nil)) q.1 S).bind fun v S => (ofO (pur v) S).bind fun d S => .ok (some d) S else .ok none S) x S = .ok (some (.bl true)) S' := by
    intro x hx S
    obtain ⟨j, hj, rfl⟩ : ∃ j : Nat, j < k ∧ x = .int ((0 : Int) + (j : Nat)) := by
      unfold rangeD at hx
      obtain ⟨j, h1, h2⟩ := List.mem_map.mp hx
      have h1 := List.mem_range.mp h1
      exact ⟨j, by omega, h2.symm⟩
    obtain ⟨a, b, e1, hb1, hb2⟩ := pot_ok 4 0 S ns ((0 : Int) + (j : Nat)) (by omega)
    obtain ⟨S', e2⟩ := right_ok 1 0 (S ++ [.lst [.int a, .int b, .int 0]]) S.length a b (by simp) ⟨hb1, hb2⟩
    refine ⟨S', ?_⟩
    simp only [Int.zero_add] at e1
    simp [asgT, wipeE, evalIfs, evalE, evalEs, Env.get, e1, e2]
  have lk : (rangeD 0 (k : Int)).length = k := by simp [rangeD]
  obtain ⟨S', h⟩ := lc_all _ (rangeD 0 k) [] [] turn (by rw [lk]; show 0 + k < 100; omega)
  refine ⟨[], ?_⟩
  have al : ∀ n : Nat, biD .all [.lst (List.replicate n (.bl true))] = some (.bl true) := fun n => by simp [biD, blsD_rep]
  show endF _ _ (execs _ _ (.cons (.ret (.bi .all (.cons (.lc [1] (.nm 1) (.e (.call 3 (.cons (.var 0) (.cons (.cn (.int 3)) .nil)))) .nil (.call 11 (.cons (.call 0 (.cons (.var 0) (.cons (.var 1) .nil))) .nil))) .nil))) .nil) [some (.p (.scr ns)), none] _) = _
  have ei : evalI (callR Tf 0 5) (.e (.call 3 (.cons (.var 0) (.cons (.cn (.int 3)) .nil)))) [some (.p (.scr ns)), none] [] = .ok (rangeD 0 k) [] := by
    simp [evalI, evalE, evalEs, Env.get, ec, seqI, seqD]
  have el : evalE (callR Tf 0 5) (.lc [1] (.nm 1) (.e (.call 3 (.cons (.var 0) (.cons (.cn (.int 3)) .nil)))) .nil (.call 11 (.cons (.call 0 (.cons (.var 0) (.cons (.var 1) .nil))) .nil))) [some (.p (.scr ns)), none] [] = .ok (.p (.lst (List.replicate k (.bl true)))) S' := by
    rw [evalE, ei, Res.bind_ok]
    rw [h, lk]
    rfl
  simp only [execs, exec, evalE, evalEs] at el ⊢
  rw [el]
  simp [rds, rd, al, endF, clean, imps, outC]
end My
end
section
set_option linter.all false
set_option maxRecDepth 100000
set_option maxHeartbeats 0
namespace My
open PySem PySem.Spec PyProof.Rows L2 R
def mk (a : Str × Option Str) (x qn : Str) (s : Stmt) : He.DefD := ⟨a, x, qn, defArgs s, defBody s, defScope s, [], []⟩
def d0 : He.DefD := mk ("_law_pot", none) "_law_pot" "_law_pot" (top 43)
def d1 : He.DefD := mk ("_law_take", none) "_law_take" "_law_take" (top 44)
def d2 : He.DefD := mk ("_law_of", none) "_law_of" "_law_of" (top 45)
def d3 : He.DefD := mk ("_law_cells", none) "_law_cells" "_law_cells" (top 46)
def d4 : He.DefD := mk ("_law_odd", none) "_law_odd" "_law_odd" (top 47)
def d5 : He.DefD := mk ("_law_made", none) "_law_made" "_law_made" (top 48)
def d6 : He.DefD := mk ("_law_made_too", none) "_law_made_too" "_law_made_too" (top 49)
def d7 : He.DefD := mk ("_law_made_more", none) "_law_made_more" "_law_made_more" (top 50)
def d8 : He.DefD := mk ("_law_kinds", none) "_law_kinds" "_law_kinds" (top 51)
def d9 : He.DefD := mk ("_law_kinds_too", none) "_law_kinds_too" "_law_kinds_too" (top 52)
def d10 : He.DefD := mk ("_law_kinds_more", none) "_law_kinds_more" "_law_kinds_more" (top 53)
def d11 : He.DefD := mk ("_law_right", none) "_law_right" "_law_right" (top 54)
def d12 : He.DefD := mk ("law", none) "law" "law" (top 55)
def fnL0 : List He.DefD := [d0, d1, d2, d3, d4, d5, d6, d7, d8, d9, d10, d11, d12]
def fnL : List He.DefD := fnL0
def faL0 : List He.Fa := [.glo "_law_pot", .glo "_law_take", .glo "_law_of", .glo "_law_cells", .glo "_law_odd", .glo "_law_made", .glo "_law_made_too", .glo "_law_made_more", .glo "_law_kinds", .glo "_law_kinds_too", .glo "_law_kinds_more", .glo "_law_right", .glo "law", .glo "NetError", .glo "BadBook", .glo "BadNumber", .glo "BadName", .glo "BadStations", .glo "BadLinks", .glo "NoStation", .glo "NoLink", .glo "BadLot", .glo "BadTicks", .glo "TooMany", .glo "BadTick", .glo "BadNames", .glo "BadHeaps", .glo "NoFlow", .glo "BadMoves", .glo "BadCut"]
def faL1 : List He.Fa := [.glo "BadLevels", .glo "NoWay", .glo "NotHoming", .glo "BadPackets", .glo "BadEvent", .glo "BadEvents", .glo "BadWord", .glo "Unfit", .glo "NoDoor", .glo "TooFew", .glo "Held", .glo "BadLink", .glo "BadStation", .glo "NotPart", .glo "BadRule", .glo "BadDeed", .glo "NoNet", .glo "Amid", .glo "NotEmpty", .glo "LastOne", .glo "NothingToUndo", .glo "NothingToRedo", .glo "NoNote", .glo "BadDesk", .free "ValueError", .free "abs", .free "all", .free "enumerate", .free "int", .free "isinstance"]
def faL2 : List He.Fa := [.free "len", .free "list", .free "max", .free "min", .free "range", .free "repr", .free "sum", .free "super"]
def faL : List He.Fa := faL0 ++ faL1 ++ faL2
def nameL0 : List Str := ["NetError", "BadBook", "BadNumber", "BadName", "BadStations", "BadLinks", "NoStation", "NoLink", "BadLot", "BadTicks", "TooMany", "BadTick", "BadNames", "BadHeaps", "NoFlow", "BadMoves", "BadCut", "BadLevels", "NoWay", "NotHoming", "BadPackets", "BadEvent", "BadEvents", "BadWord", "Unfit", "NoDoor", "TooFew", "Held", "BadLink", "BadStation"]
def nameL1 : List Str := ["NotPart", "BadRule", "BadDeed", "NoNet", "Amid", "NotEmpty", "LastOne", "NothingToUndo", "NothingToRedo", "NoNote", "BadDesk", "_law_pot", "_law_take", "_law_of", "_law_cells", "_law_odd", "_law_made", "_law_made_too", "_law_made_more", "_law_kinds", "_law_kinds_too", "_law_kinds_more", "_law_right"]
def nameL : List Str := nameL0 ++ nameL1
section
variable {K : PySem.W.Frag}
def p0 : List Str := [("script" : Str), ("place" : Str)]
theorem s0 : FnScope n0 p0 d0.scope := ⟨rfl, rfl, rfl, by decide +kernel, rfl, by decide +kernel, by decide +kernel⟩
theorem e0 (c : He.SaysD faL fnL K) : ∃ fd, Ent K Tf tab 0 (He.fAd K d0.at_) fd p0 ∧ (∀ q ∈ tab.kwf, q.1 = 0 → KwB K fd p0 q.2.1 q.2.2 0) ∧ (∀ q ∈ tab.kwc, q.1 = 0 → KwB K fd p0 q.2.1 q.2.2 1) := by
  obtain ⟨fd, F⟩ := c.def_ 0 (d := d0) rfl
  exact ⟨fd, ⟨⟨f0, _, _, _, _, _, n0, rfl, F, s0, rfl, rfl, ck0⟩, F.bindsN fun _ _ _ _ _ _ us hl => match us, hl with | [_, _], _ => rfl⟩, all_nil, all_nil⟩
def p1 : List Str := [("pot" : Str), ("upto" : Str)]
theorem s1 : FnScope n1 p1 d1.scope := ⟨rfl, rfl, rfl, by decide +kernel, rfl, by decide +kernel, by decide +kernel⟩
theorem e1 (c : He.SaysD faL fnL K) : ∃ fd, Ent K Tf tab 1 (He.fAd K d1.at_) fd p1 ∧ (∀ q ∈ tab.kwf, q.1 = 1 → KwB K fd p1 q.2.1 q.2.2 0) ∧ (∀ q ∈ tab.kwc, q.1 = 1 → KwB K fd p1 q.2.1 q.2.2 1) := by
  obtain ⟨fd, F⟩ := c.def_ 1 (d := d1) rfl
  exact ⟨fd, ⟨⟨f1, _, _, _, _, _, n1, rfl, F, s1, rfl, rfl, ck1⟩, F.bindsN fun _ _ _ _ _ _ us hl => match us, hl with | [_, _], _ => rfl⟩, all_nil, all_nil⟩
def p2 : List Str := [("pot" : Str), ("some" : Str)]
theorem s2 : FnScope n2 p2 d2.scope := ⟨rfl, rfl, rfl, by decide +kernel, rfl, by decide +kernel, by decide +kernel⟩
theorem e2 (c : He.SaysD faL fnL K) : ∃ fd, Ent K Tf tab 2 (He.fAd K d2.at_) fd p2 ∧ (∀ q ∈ tab.kwf, q.1 = 2 → KwB K fd p2 q.2.1 q.2.2 0) ∧ (∀ q ∈ tab.kwc, q.1 = 2 → KwB K fd p2 q.2.1 q.2.2 1) := by
  obtain ⟨fd, F⟩ := c.def_ 2 (d := d2) rfl
  exact ⟨fd, ⟨⟨f2, _, _, _, _, _, n2, rfl, F, s2, rfl, rfl, ck2⟩, F.bindsN fun _ _ _ _ _ _ us hl => match us, hl with | [_, _], _ => rfl⟩, all_nil, all_nil⟩
def p3 : List Str := [("script" : Str), ("most" : Str)]
theorem s3 : FnScope n3 p3 d3.scope := ⟨rfl, rfl, rfl, by decide +kernel, rfl, by decide +kernel, by decide +kernel⟩
theorem e3 (c : He.SaysD faL fnL K) : ∃ fd, Ent K Tf tab 3 (He.fAd K d3.at_) fd p3 ∧ (∀ q ∈ tab.kwf, q.1 = 3 → KwB K fd p3 q.2.1 q.2.2 0) ∧ (∀ q ∈ tab.kwc, q.1 = 3 → KwB K fd p3 q.2.1 q.2.2 1) := by
  obtain ⟨fd, F⟩ := c.def_ 3 (d := d3) rfl
  exact ⟨fd, ⟨⟨f3, _, _, _, _, _, n3, rfl, F, s3, rfl, rfl, ck3⟩, F.bindsN fun _ _ _ _ _ _ us hl => match us, hl with | [_, _], _ => rfl⟩, all_nil, all_nil⟩
def p4 : List Str := [("pot" : Str)]
theorem s4 : FnScope n4 p4 d4.scope := ⟨rfl, rfl, rfl, by decide +kernel, rfl, by decide +kernel, by decide +kernel⟩
theorem e4 (c : He.SaysD faL fnL K) : ∃ fd, Ent K Tf tab 4 (He.fAd K d4.at_) fd p4 ∧ (∀ q ∈ tab.kwf, q.1 = 4 → KwB K fd p4 q.2.1 q.2.2 0) ∧ (∀ q ∈ tab.kwc, q.1 = 4 → KwB K fd p4 q.2.1 q.2.2 1) := by
  obtain ⟨fd, F⟩ := c.def_ 4 (d := d4) rfl
  exact ⟨fd, ⟨⟨f4, _, _, _, _, _, n4, rfl, F, s4, rfl, rfl, ck4⟩, F.bindsN fun _ _ _ _ _ _ us hl => match us, hl with | [_], _ => rfl⟩, all_nil, all_nil⟩
def p5 : List Str := [("value" : Str)]
theorem s5 : FnScope n5 p5 d5.scope := ⟨rfl, rfl, rfl, by decide +kernel, rfl, by decide +kernel, by decide +kernel⟩
theorem e5 (c : He.SaysD faL fnL K) : ∃ fd, Ent K Tf tab 5 (He.fAd K d5.at_) fd p5 ∧ (∀ q ∈ tab.kwf, q.1 = 5 → KwB K fd p5 q.2.1 q.2.2 0) ∧ (∀ q ∈ tab.kwc, q.1 = 5 → KwB K fd p5 q.2.1 q.2.2 1) := by
  obtain ⟨fd, F⟩ := c.def_ 5 (d := d5) rfl
  exact ⟨fd, ⟨⟨f5, _, _, _, _, _, n5, rfl, F, s5, rfl, rfl, ck5⟩, F.bindsN fun _ _ _ _ _ _ us hl => match us, hl with | [_], _ => rfl⟩, all_nil, all_nil⟩
def p6 : List Str := [("value" : Str)]
theorem s6 : FnScope n6 p6 d6.scope := ⟨rfl, rfl, rfl, by decide +kernel, rfl, by decide +kernel, by decide +kernel⟩
theorem e6 (c : He.SaysD faL fnL K) : ∃ fd, Ent K Tf tab 6 (He.fAd K d6.at_) fd p6 ∧ (∀ q ∈ tab.kwf, q.1 = 6 → KwB K fd p6 q.2.1 q.2.2 0) ∧ (∀ q ∈ tab.kwc, q.1 = 6 → KwB K fd p6 q.2.1 q.2.2 1) := by
  obtain ⟨fd, F⟩ := c.def_ 6 (d := d6) rfl
  exact ⟨fd, ⟨⟨f6, _, _, _, _, _, n6, rfl, F, s6, rfl, rfl, ck6⟩, F.bindsN fun _ _ _ _ _ _ us hl => match us, hl with | [_], _ => rfl⟩, all_nil, all_nil⟩
def p7 : List Str := [("value" : Str)]
theorem s7 : FnScope n7 p7 d7.scope := ⟨rfl, rfl, rfl, by decide +kernel, rfl, by decide +kernel, by decide +kernel⟩
theorem e7 (c : He.SaysD faL fnL K) : ∃ fd, Ent K Tf tab 7 (He.fAd K d7.at_) fd p7 ∧ (∀ q ∈ tab.kwf, q.1 = 7 → KwB K fd p7 q.2.1 q.2.2 0) ∧ (∀ q ∈ tab.kwc, q.1 = 7 → KwB K fd p7 q.2.1 q.2.2 1) := by
  obtain ⟨fd, F⟩ := c.def_ 7 (d := d7) rfl
  exact ⟨fd, ⟨⟨f7, _, _, _, _, _, n7, rfl, F, s7, rfl, rfl, ck7⟩, F.bindsN fun _ _ _ _ _ _ us hl => match us, hl with | [_], _ => rfl⟩, all_nil, all_nil⟩
def p8 : List Str := [("error" : Str)]
theorem s8 : FnScope n8 p8 d8.scope := ⟨rfl, rfl, rfl, by decide +kernel, rfl, by decide +kernel, by decide +kernel⟩
theorem e8 (c : He.SaysD faL fnL K) : ∃ fd, Ent K Tf tab 8 (He.fAd K d8.at_) fd p8 ∧ (∀ q ∈ tab.kwf, q.1 = 8 → KwB K fd p8 q.2.1 q.2.2 0) ∧ (∀ q ∈ tab.kwc, q.1 = 8 → KwB K fd p8 q.2.1 q.2.2 1) := by
  obtain ⟨fd, F⟩ := c.def_ 8 (d := d8) rfl
  exact ⟨fd, ⟨⟨f8, _, _, _, _, _, n8, rfl, F, s8, rfl, rfl, ck8⟩, F.bindsN fun _ _ _ _ _ _ us hl => match us, hl with | [_], _ => rfl⟩, all_nil, all_nil⟩
def p9 : List Str := [("error" : Str)]
theorem s9 : FnScope n9 p9 d9.scope := ⟨rfl, rfl, rfl, by decide +kernel, rfl, by decide +kernel, by decide +kernel⟩
theorem e9 (c : He.SaysD faL fnL K) : ∃ fd, Ent K Tf tab 9 (He.fAd K d9.at_) fd p9 ∧ (∀ q ∈ tab.kwf, q.1 = 9 → KwB K fd p9 q.2.1 q.2.2 0) ∧ (∀ q ∈ tab.kwc, q.1 = 9 → KwB K fd p9 q.2.1 q.2.2 1) := by
  obtain ⟨fd, F⟩ := c.def_ 9 (d := d9) rfl
  exact ⟨fd, ⟨⟨f9, _, _, _, _, _, n9, rfl, F, s9, rfl, rfl, ck9⟩, F.bindsN fun _ _ _ _ _ _ us hl => match us, hl with | [_], _ => rfl⟩, all_nil, all_nil⟩
def p10 : List Str := [("error" : Str)]
theorem s10 : FnScope n10 p10 d10.scope := ⟨rfl, rfl, rfl, by decide +kernel, rfl, by decide +kernel, by decide +kernel⟩
theorem e10 (c : He.SaysD faL fnL K) : ∃ fd, Ent K Tf tab 10 (He.fAd K d10.at_) fd p10 ∧ (∀ q ∈ tab.kwf, q.1 = 10 → KwB K fd p10 q.2.1 q.2.2 0) ∧ (∀ q ∈ tab.kwc, q.1 = 10 → KwB K fd p10 q.2.1 q.2.2 1) := by
  obtain ⟨fd, F⟩ := c.def_ 10 (d := d10) rfl
  exact ⟨fd, ⟨⟨f10, _, _, _, _, _, n10, rfl, F, s10, rfl, rfl, ck10⟩, F.bindsN fun _ _ _ _ _ _ us hl => match us, hl with | [_], _ => rfl⟩, all_nil, all_nil⟩
def p11 : List Str := [("pot" : Str)]
theorem s11 : FnScope n11 p11 d11.scope := ⟨rfl, rfl, rfl, by decide +kernel, rfl, by decide +kernel, by decide +kernel⟩
theorem e11 (c : He.SaysD faL fnL K) : ∃ fd, Ent K Tf tab 11 (He.fAd K d11.at_) fd p11 ∧ (∀ q ∈ tab.kwf, q.1 = 11 → KwB K fd p11 q.2.1 q.2.2 0) ∧ (∀ q ∈ tab.kwc, q.1 = 11 → KwB K fd p11 q.2.1 q.2.2 1) := by
  obtain ⟨fd, F⟩ := c.def_ 11 (d := d11) rfl
  exact ⟨fd, ⟨⟨f11, _, _, _, _, _, n11, rfl, F, s11, rfl, rfl, ck11⟩, F.bindsN fun _ _ _ _ _ _ us hl => match us, hl with | [_], _ => rfl⟩, all_nil, all_nil⟩
def p12 : List Str := [("script" : Str)]
theorem s12 : FnScope n12 p12 d12.scope := ⟨rfl, rfl, rfl, by decide +kernel, rfl, by decide +kernel, by decide +kernel⟩
theorem e12 (c : He.SaysD faL fnL K) : ∃ fd, Ent K Tf tab 12 (He.fAd K d12.at_) fd p12 ∧ (∀ q ∈ tab.kwf, q.1 = 12 → KwB K fd p12 q.2.1 q.2.2 0) ∧ (∀ q ∈ tab.kwc, q.1 = 12 → KwB K fd p12 q.2.1 q.2.2 1) := by
  obtain ⟨fd, F⟩ := c.def_ 12 (d := d12) rfl
  exact ⟨fd, ⟨⟨f12, _, _, _, _, _, n12, rfl, F, s12, rfl, rfl, ck12⟩, F.bindsN fun _ _ _ _ _ _ us hl => match us, hl with | [_], _ => rfl⟩, all_nil, all_nil⟩
def clA (K : PySem.W.Frag) (n : Nat) : Addr := match n with
  | 100 => He.ga K "NetError"
  | 101 => He.ga K "BadBook"
  | 102 => He.ga K "BadNumber"
  | 103 => He.ga K "BadName"
  | 104 => He.ga K "BadStations"
  | 105 => He.ga K "BadLinks"
  | 106 => He.ga K "NoStation"
  | 107 => He.ga K "NoLink"
  | 108 => He.ga K "BadLot"
  | 109 => He.ga K "BadTicks"
  | 110 => He.ga K "TooMany"
  | 111 => He.ga K "BadTick"
  | 112 => He.ga K "BadNames"
  | 113 => He.ga K "BadHeaps"
  | 114 => He.ga K "NoFlow"
  | 115 => He.ga K "BadMoves"
  | 116 => He.ga K "BadCut"
  | 117 => He.ga K "BadLevels"
  | 118 => He.ga K "NoWay"
  | 119 => He.ga K "NotHoming"
  | 120 => He.ga K "BadPackets"
  | 121 => He.ga K "BadEvent"
  | 122 => He.ga K "BadEvents"
  | 123 => He.ga K "BadWord"
  | 124 => He.ga K "Unfit"
  | 125 => He.ga K "NoDoor"
  | 126 => He.ga K "TooFew"
  | 127 => He.ga K "Held"
  | 128 => He.ga K "BadLink"
  | 129 => He.ga K "BadStation"
  | 130 => He.ga K "NotPart"
  | 131 => He.ga K "BadRule"
  | 132 => He.ga K "BadDeed"
  | 133 => He.ga K "NoNet"
  | 134 => He.ga K "Amid"
  | 135 => He.ga K "NotEmpty"
  | 136 => He.ga K "LastOne"
  | 137 => He.ga K "NothingToUndo"
  | 138 => He.ga K "NothingToRedo"
  | 139 => He.ga K "NoNote"
  | 140 => He.ga K "BadDesk"
  | _ => 0
def pI : Str × Option Str := ("NetError", some "__init__")
def dI : Stmt := inClass (top 1) 0
def vI : IniW := some ("__init__", "NetError.__init__", defArgs dI, .stmts (defBody dI), defScope dI, mainGlobals, builtinsNs, .none)
def fileI : Str := (PySem.Challenge.rw_downhillnet_k52_errors_keep_any_value).prog.main.file
def exI (K : PySem.W.Frag) : Bool := exQ tab.exc tab.isx clA "NetError" pI "NetError.__init__" fileI K
variable {h : Heap} {mg : Str → Option Value}
theorem st_fn (X : K.In h) (G : h.Ns mainGlobals mg) (c : He.SaysD faL fnL K) : ∀ p ∈ tab.fns, ∃ fa fd ps, Ent K Tf tab p.2 fa fd ps ∧ mg p.1 = some (.ref fa) ∧ ∀ q ∈ tab.kwf, q.1 = p.2 → KwB K fd ps q.2.1 q.2.2 0 :=
  (all_cons (let ⟨fd, a, b, _⟩ := e0 c; ⟨_, fd, _, a, He.glo_ok X G (c.fact 0 rfl), b⟩)
    (all_cons (let ⟨fd, a, b, _⟩ := e1 c; ⟨_, fd, _, a, He.glo_ok X G (c.fact 1 rfl), b⟩)
    (all_cons (let ⟨fd, a, b, _⟩ := e2 c; ⟨_, fd, _, a, He.glo_ok X G (c.fact 2 rfl), b⟩)
    (all_cons (let ⟨fd, a, b, _⟩ := e3 c; ⟨_, fd, _, a, He.glo_ok X G (c.fact 3 rfl), b⟩)
    (all_cons (let ⟨fd, a, b, _⟩ := e4 c; ⟨_, fd, _, a, He.glo_ok X G (c.fact 4 rfl), b⟩)
    (all_cons (let ⟨fd, a, b, _⟩ := e5 c; ⟨_, fd, _, a, He.glo_ok X G (c.fact 5 rfl), b⟩)
    (all_cons (let ⟨fd, a, b, _⟩ := e6 c; ⟨_, fd, _, a, He.glo_ok X G (c.fact 6 rfl), b⟩)
    (all_cons (let ⟨fd, a, b, _⟩ := e7 c; ⟨_, fd, _, a, He.glo_ok X G (c.fact 7 rfl), b⟩)
    (all_cons (let ⟨fd, a, b, _⟩ := e8 c; ⟨_, fd, _, a, He.glo_ok X G (c.fact 8 rfl), b⟩)
    (all_cons (let ⟨fd, a, b, _⟩ := e9 c; ⟨_, fd, _, a, He.glo_ok X G (c.fact 9 rfl), b⟩)
    (all_cons (let ⟨fd, a, b, _⟩ := e10 c; ⟨_, fd, _, a, He.glo_ok X G (c.fact 10 rfl), b⟩)
    (all_cons (let ⟨fd, a, b, _⟩ := e11 c; ⟨_, fd, _, a, He.glo_ok X G (c.fact 11 rfl), b⟩)
    (all_cons (let ⟨fd, a, b, _⟩ := e12 c; ⟨_, fd, _, a, He.glo_ok X G (c.fact 12 rfl), b⟩)
    all_nil)))))))))))))
theorem st_cls (X : K.In h) (G : h.Ns mainGlobals mg) (c : He.SaysD faL fnL K) : ∀ p ∈ tab.cls, ∃ fa fd ps, Ent K Tf tab p.2.2 fa fd ps ∧ Mk K (clA K p.2.1) fa ∧ mg p.1 = some (.ref (clA K p.2.1)) ∧ ∀ q ∈ tab.kwc, q.1 = p.2.2 → KwB K fd ps q.2.1 q.2.2 1 :=
  all_nil
theorem st_fld (c : He.SaysD faL fnL K) : ∀ p ∈ tab.fld, Cls K (clA K p.1) ∧ NoAttr K (clA K p.1) p.2 :=
  all_nil
theorem st_con (X : K.In h) (G : h.Ns mainGlobals mg) (c : He.SaysD faL fnL K) : ∀ p ∈ tab.con, ∃ v u, mg p.1 = some u ∧ RelV v u ∧ ∀ G : Hp, Rep K (clA K) G p.2 v :=
  all_nil
theorem st_fre (X : K.In h) (G : h.Ns mainGlobals mg) (c : He.SaysD faL fnL K) : ∀ y ∈ tab.fre, mg y = none :=
  (all_cons (He.free_ok X G (c.fact 54 rfl))
    (all_cons (He.free_ok X G (c.fact 55 rfl))
    (all_cons (He.free_ok X G (c.fact 56 rfl))
    (all_cons (He.free_ok X G (c.fact 57 rfl))
    (all_cons (He.free_ok X G (c.fact 58 rfl))
    (all_cons (He.free_ok X G (c.fact 59 rfl))
    (all_cons (He.free_ok X G (c.fact 60 rfl))
    (all_cons (He.free_ok X G (c.fact 61 rfl))
    (all_cons (He.free_ok X G (c.fact 62 rfl))
    (all_cons (He.free_ok X G (c.fact 63 rfl))
    (all_cons (He.free_ok X G (c.fact 64 rfl))
    (all_cons (He.free_ok X G (c.fact 65 rfl))
    (all_cons (He.free_ok X G (c.fact 66 rfl))
    (all_cons (He.free_ok X G (c.fact 67 rfl))
    all_nil))))))))))))))
theorem st_exc (X : K.In h) (G : h.Ns mainGlobals mg) (c : He.SaysD faL fnL K) (ci : iniW K pI = vI) (cq : exI K = true) : ∃ D fI fd, (∀ p ∈ tab.exc, mg p.1 = some (.ref (clA K p.2)) ∧ ExcF K D fI (clA K p.2)) ∧ (tab.exc ≠ [] → IniF K (PySem.Challenge.rw_downhillnet_k52_errors_keep_any_value).prog D fI fd ∧ mg "super" = none ∧ Binds K fd ["self", "value"] []) ∧
      ∀ p ∈ tab.isx, ∃ tv cv, ((∃ u, mg p.1 = some u ∧ RelV tv u) ∨ (mg p.1 = none ∧ ∃ u, bootBuiltins p.1 = some u ∧ RelV tv u ∧ p.1 ≠ "__name__")) ∧ (∀ u, RelV tv u → u = cv) ∧ ∀ c b, p.2.lookup c = some b → ExcF K D fI (clA K c) ∧ PySem.W.kitOne K (.ref (clA K c)) cv = some b := by
  have q0 := cq
  obtain ⟨q1, q⟩ := Bool.and_eq_true_iff.mp q0
  obtain ⟨q2, _⟩ := Bool.and_eq_true_iff.mp q
  obtain ⟨fd, hi, hb⟩ := iniF_of (prog := (PySem.Challenge.rw_downhillnet_k52_errors_keep_any_value).prog) ci q2 q1 (by kernel_rfl) (beq_self_eq_true _) rfl rfl (by decide +kernel) (by decide +kernel) rfl rfl (fun _ _ _ _ _ _ _ us h => match us, h with | [_, _], _ => rfl)
  exact exc_of X G cq hi hb (He.free_ok X G (c.fact 67 rfl)) (He.free_ok X G (c.fact 54 rfl)) ((all_cons (.inr (He.glo_ok X G (c.fact 27 rfl)))
    (all_cons (.inr (He.glo_ok X G (c.fact 26 rfl)))
    (all_cons (.inr (He.glo_ok X G (c.fact 25 rfl)))
    (all_cons (.inr (He.glo_ok X G (c.fact 24 rfl)))
    (all_cons (.inr (He.glo_ok X G (c.fact 23 rfl)))
    (all_cons (.inr (He.glo_ok X G (c.fact 22 rfl)))
    (all_cons (.inr (He.glo_ok X G (c.fact 21 rfl)))
    (all_cons (.inr (He.glo_ok X G (c.fact 20 rfl)))
    (all_cons (.inr (He.glo_ok X G (c.fact 19 rfl)))
    (all_cons (.inr (He.glo_ok X G (c.fact 18 rfl)))
    (all_cons (.inr (He.glo_ok X G (c.fact 17 rfl)))
    (all_cons (.inr (He.glo_ok X G (c.fact 16 rfl)))
    (all_cons (.inr (He.glo_ok X G (c.fact 15 rfl)))
    (all_cons (.inr (He.glo_ok X G (c.fact 14 rfl)))
    (all_cons (.inr (He.glo_ok X G (c.fact 41 rfl)))
    (all_cons (.inr (He.glo_ok X G (c.fact 40 rfl)))
    (all_cons (.inr (He.glo_ok X G (c.fact 39 rfl)))
    (all_cons (.inr (He.glo_ok X G (c.fact 38 rfl)))
    (all_cons (.inr (He.glo_ok X G (c.fact 37 rfl)))
    (all_cons (.inr (He.glo_ok X G (c.fact 36 rfl)))
    (all_cons (.inr (He.glo_ok X G (c.fact 35 rfl)))
    (all_cons (.inr (He.glo_ok X G (c.fact 34 rfl)))
    (all_cons (.inr (He.glo_ok X G (c.fact 33 rfl)))
    (all_cons (.inr (He.glo_ok X G (c.fact 32 rfl)))
    (all_cons (.inr (He.glo_ok X G (c.fact 31 rfl)))
    (all_cons (.inr (He.glo_ok X G (c.fact 30 rfl)))
    (all_cons (.inr (He.glo_ok X G (c.fact 29 rfl)))
    (all_cons (.inr (He.glo_ok X G (c.fact 28 rfl)))
    (all_cons (.inr (He.glo_ok X G (c.fact 53 rfl)))
    (all_cons (.inr (He.glo_ok X G (c.fact 52 rfl)))
    (all_cons (.inr (He.glo_ok X G (c.fact 51 rfl)))
    (all_cons (.inr (He.glo_ok X G (c.fact 50 rfl)))
    (all_cons (.inr (He.glo_ok X G (c.fact 49 rfl)))
    (all_cons (.inr (He.glo_ok X G (c.fact 48 rfl)))
    (all_cons (.inr (He.glo_ok X G (c.fact 47 rfl)))
    (all_cons (.inr (He.glo_ok X G (c.fact 46 rfl)))
    (all_cons (.inr (He.glo_ok X G (c.fact 45 rfl)))
    (all_cons (.inr (He.glo_ok X G (c.fact 44 rfl)))
    (all_cons (.inr (He.glo_ok X G (c.fact 43 rfl)))
    (all_cons (.inr (He.glo_ok X G (c.fact 42 rfl)))
    (all_cons (.inl rfl)
    (all_cons (.inr (He.glo_ok X G (c.fact 13 rfl)))
    all_nil)))))))))))))))))))))))))))))))))))))))))))
theorem stat (X : K.In h) (G : h.Ns mainGlobals mg) (c : He.SaysD faL fnL K) (ci : iniW K pI = vI) (cq : exI K = true) : Stat (PySem.Challenge.rw_downhillnet_k52_errors_keep_any_value).prog K mg (clA K) Tf tab :=
  ⟨fun y f e => st_fn X G c _ (mem_look e), fun y cc f e => st_cls X G c _ (mem_look e), fun cc m f e => (nomatch e), fun cc m f e => (nomatch e), fun cc gn e => st_fld c _ e, fun y d e => st_con X G c _ (mem_look e), st_fre X G c, st_exc X G c ci cq⟩
end
end My
end
section
set_option linter.all false
set_option maxRecDepth 100000
set_option maxHeartbeats 0
namespace My
open PySem PySem.Spec PyProof.Rows L2 R
abbrev Rw : PySem.W.OpenRow := PySem.W.OpenLaw.row PySem.Challenge.rw_downhillnet_k52_errors_keep_any_value
abbrev hk : PySem.W.Hook := hookQ 6 faL fnL pI vI exI
def ob (s : PySem.W.SharedT) : AlQ := obsQ 6 faL fnL pI exI (HandSHeadRun.getT s)
theorem ob_eq (s : PySem.W.SharedT) : ob s = hk.obs s.abs := obsQ_eq (HandSHeadRun.getT_eq s)
theorem run (w : World) : HandSHeadRun.RunEq Rw (PySem.W.view Rw.prog [55]) hk ob 40000 nameL w := by
  intro os
  kernel_rfl
theorem facts {w : World} {K : PySem.W.Frag} {h : Heap} {mg : Str → Option Value} {f : Addr} (X : K.In h) (G : h.Ns mainGlobals mg) (hfa : mg ("law" : Str) = some (.ref f)) (c : He.SaysD faL fnL K) (ci : iniW K pI = vI) (cq : exI K = true) :
    ∃ fd : FuncData, (∀ (s : Shared) (v : Value), BindsTo s fd ⟨[v], []⟩ [("script", v)]) ∧ ∀ (M : Nat) (base : Heap), K.In base → base.Ns mainGlobals mg → FnG (PySem.Challenge.rw_downhillnet_k52_errors_keep_any_value).prog w K mg base 13 f fd ["script"] (spR K (clA K) (callR Tf M (5 + 1)) 1 12) := by
  obtain ⟨fd, F⟩ := c.def_ 12 (d := d12) rfl
  have e := hfa.symm.trans (He.glo_ok X G (c.fact 12 (f := .glo "law") rfl))
  cases e
  have b := FunD.bindsA (ps := ["script"]) F fun _ _ _ _ _ _ us hl => match us, hl with | [_], _ => rfl
  exact ⟨fd, fun s v => b s [v] rfl, fun M base KB GB => fnR_ok (fn := f12) rfl F s12 rfl rfl ck12 (facts_all (stat X G c ci cq) 5)⟩
end My
open PySem PySem.W PySem.Calls PyProof.Rows
theorem PySem.Challenge.cw_downhillnet_k52_errors_keep_any_value_holds : PySem.Challenge.rw_downhillnet_k52_errors_keep_any_value.Holds := by
  w_on; o_law
  refine HandSHeadRun.head_any (r := OpenLaw.row PySem.Challenge.rw_downhillnet_k52_errors_keep_any_value) (q := view (OpenLaw.row PySem.Challenge.rw_downhillnet_k52_errors_keep_any_value).prog [55]) (H := My.hk) (ob := My.ob) (M := 40000) (loose := My.nameL) (d := HandSHeadRun.topDef (OpenLaw.row PySem.Challenge.rw_downhillnet_k52_errors_keep_any_value).prog 55) (kwd := []) My.ob_eq
    (by kernel_rfl) (fun s => by kernel_rfl) My.run (by kernel_rfl) (by kernel_rfl) (by kernel_rfl) (by rfl) (by first | assumption | decide +kernel) (by decide +kernel) ⟨rfl, rfl, rfl, rfl, rfl, by decide +kernel⟩ ?hw ?hc
  case hw => w_witness2
  case hc =>
    refine R.walkR (l := PySem.Challenge.rw_downhillnet_k52_errors_keep_any_value) (n := 63) (k := 13) (d := 5 + 1) (x := "script") (Tf := My.Tf) (f := 12) rfl (by decide) (by kernel_rfl) ⟨rfl, by decide, by decide⟩ R.calm_top ?F My.law_true
    intro w mg fa h Y G hmg0
    obtain ⟨K, KX, c, ci, cq⟩ := Y
    have hmg : mg ("law" : PySem.Str) = some (.ref fa) := by
      have e : (HandSHeadRun.topDef (OpenLaw.row PySem.Challenge.rw_downhillnet_k52_errors_keep_any_value).prog 55).name = ("law" : PySem.Str) := by kernel_rfl
      rw [← e]
      exact hmg0
    obtain ⟨fd, hb, hF⟩ := My.facts (w := w) KX G hmg c ci cq
    exact ⟨K, My.clA K, fd, KX, hb, hF⟩
end
