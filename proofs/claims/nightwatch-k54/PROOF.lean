import PyProof.Rows.All
import Wide.All
import OpenK.AllK
import Wide.FinOn
import HandS.ForMost
import HandS.ForExc
import HandS.TupAny
import HandS.Flow
import HandS.IsInst
import HandS.SortInts
import HandS.Conv
import HandS.SetFor
import HandS.SetKeys
import HandS.Deep
import HandS.RaiseMore
import HandS.TupLen
import HandS.Style
import HandS.TupLe
import HandS.TupMul
import KE.KEqDict
import HandS.Dict
import HandS.NoneIn
import KE.KSortedM
import HandS.TryOnly
import HandS.RevRange
import HandS.Iter
import HandS.Comp
import HandS.CallSlots
import HandS.ClsMeth
import HandS.Defaults
import HandS.Strs
import HandS.DeepEq
import HandS.Small
import HandS.Words
import HandS.WordsExc
import HandS.Ends
import PySem.Challenge.RW_nightwatch_k54_faults_go_out
set_option Elab.async false
set_option linter.all false
set_option maxRecDepth 100000
namespace Nw
open PySem L2

/-! ## values and objects -/
inductive Val where
  | non
  | bl (b : Bool)
  | int (i : Int)
  | str (s : Str)
  | tup (xs : List Val)
  | obj (i : Nat)
  | fn (k : Nat) (caps : List Val)
  deriving Inhabited, Repr

/-- what the store holds; the flag: locked (read, never written) -/
inductive Obj where
  | lst (l : Bool) (xs : List Val)
  | dK (l : Bool) (kvs : List (Key × Val))
  | dT (l : Bool) (kvs : List (List Key × Val))
  | ins (c : Nat) (fs : List (Nat × Val))
  deriving Inhabited

abbrev Store := List Obj
abbrev Env := List (Option Val)

structure Exn where
  c : Nat
  fs : List (Nat × Val)

inductive Res (α : Type) where
  | ok (a : α) (S : Store)
  | ex (e : Exn) (S : Store)
  | no

def Res.bind {α β : Type} (r : Res α) (f : α → Store → Res β) : Res β :=
  match r with
  | .ok a S => f a S
  | .ex e S => .ex e S
  | .no => .no
@[simp] theorem Res.bind_ok {α β : Type} (a : α) (S : Store) (f : α → Store → Res β) : (Res.ok a S).bind f = f a S := rfl
@[simp] theorem Res.bind_ex {α β : Type} (e : Exn) (S : Store) (f : α → Store → Res β) : (Res.ex e S : Res α).bind f = .ex e S := rfl
@[simp] theorem Res.bind_no {α β : Type} (f : α → Store → Res β) : (Res.no : Res α).bind f = .no := rfl
def Res.ofO {α : Type} (o : Option α) (S : Store) : Res α := match o with | some a => .ok a S | none => .no
@[simp] theorem Res.ofO_some {α : Type} (a : α) (S : Store) : Res.ofO (some a) S = .ok a S := rfl
@[simp] theorem Res.ofO_none {α : Type} (S : Store) : (Res.ofO none S : Res α) = .no := rfl

inductive Out where
  | nx (e : Env) (S : Store)
  | rt (v : Val) (S : Store)
  | bk (e : Env) (S : Store)
  | ct (e : Env) (S : Store)
  | ex (x : Exn) (e : Env) (S : Store)
  | no

/-! ## small things about the store -/
def sOk (s : Str) : Bool := s.cps.all (· < 0x110000)
def lst? (S : Store) (v : Val) : Option (List Val) := match v with
  | .obj i => match S[i]? with
    | some (.lst _ xs) => some xs
    | _ => none
  | _ => none
/-- the items of a list or a tuple -/
def seq? (S : Store) (v : Val) : Option (List Val) := match v with
  | .tup xs => some xs
  | .obj i => match S[i]? with
    | some (.lst _ xs) => some xs
    | _ => none
  | _ => none

def keyOf : Val → Option Key
  | .int i => some (.inl i)
  | .str s => some (.inr s)
  | _ => none
def keysOf : Val → Option (List Key)
  | .tup xs => xs.mapM keyOf
  | _ => none

def look {κ : Type} [DecidableEq κ] (kvs : List (κ × Val)) (k : κ) : Option Val := (kvs.find? fun kv => decide (kv.1 = k)).map (·.2)
def put {κ : Type} [DecidableEq κ] (kvs : List (κ × Val)) (k : κ) (v : Val) : List (κ × Val) :=
  if (kvs.any fun kv => decide (kv.1 = k)) = true then kvs.map (fun kv => if kv.1 = k then (kv.1, v) else kv) else kvs ++ [(k, v)]
def drop {κ : Type} [DecidableEq κ] (kvs : List (κ × Val)) (k : κ) : List (κ × Val) := kvs.filter fun kv => decide (kv.1 ≠ k)
def merge (kvs more : List (Key × Val)) : List (Key × Val) := more.foldl (fun acc kv => put acc kv.1 kv.2) kvs
def keyV : Key → Val
  | .inl i => .int i
  | .inr s => .str s

def fget (f : Nat) : List (Nat × Val) → Option Val
  | [] => none
  | (g, v) :: r => if g = f then some v else fget f r
def fput (f : Nat) (v : Val) : List (Nat × Val) → List (Nat × Val)
  | [] => [(f, v)]
  | (g, x) :: r => if g = f then (g, v) :: r else (g, x) :: fput f v r

def line : Nat := 16777216

/-- data read off: none, bools, ints, texts, lists, tuples; at most so deep -/
def dat : Nat → Store → Val → Option PyData
  | _, _, .non => some .none
  | _, _, .bl b => some (.bool b)
  | _, _, .int i => some (.int i)
  | _, _, .str s => some (.str s)
  | n + 1, S, .tup xs => (xs.mapM (dat n S)).map .tuple
  | n + 1, S, .obj i => match S[i]? with
    | some (.lst _ xs) => (xs.mapM (dat n S)).map .list
    | _ => none
  | _, _, _ => none
def eqD (S : Store) (v w : Val) : Option Bool := (dat 64 S v).bind fun d => (dat 64 S w).map fun e => PyData.eqv d e

def tru (S : Store) : Val → Option Bool
  | .non => some false
  | .bl b => some b
  | .int i => some (i != 0)
  | .str s => if s.length ≤ line then some ((s.length : Int) != 0) else none
  | .tup xs => some (!xs.isEmpty)
  | .obj i => match S[i]? with
    | some (.lst _ xs) => some (!xs.isEmpty)
    | some (.dK false kvs) => some (!kvs.isEmpty)
    | _ => none
  | .fn _ _ => none

/-! ## operators -/
inductive BinO where | add | sub | mul | fdiv | mod | pow
  deriving DecidableEq
inductive CmpO where | eq | ne | lt | le | gt | ge | mem | nmem | eqd | ned
  deriving DecidableEq

def addV (S : Store) (x y : Val) : Res Val :=
  match x, y with
  | .int i, .int j => .ok (.int (i + j)) S
  | .str a, .str b => if a.length + b.length ≤ line then .ok (.str (a ++ b)) S else .no
  | .tup xs, .tup ys => if xs.length + ys.length ≤ line then .ok (.tup (xs ++ ys)) S else .no
  | .obj i, .obj j => match S[i]?, S[j]? with
    | some (.lst false xs), some (.lst false ys) => if xs.length + ys.length ≤ line then .ok (.obj S.length) (S ++ [.lst false (xs ++ ys)]) else .no
    | _, _ => .no
  | _, _ => .no
def subV (S : Store) (x y : Val) : Res Val :=
  match x, y with
  | .int i, .int j => .ok (.int (i - j)) S
  | _, _ => .no
def mulV (S : Store) (x y : Val) : Res Val :=
  match x, y with
  | .int i, .int j => if i.natAbs < 2 ^ 64 ∨ j.natAbs < 2 ^ 64 then .ok (.int (i * j)) S else .no
  | .obj i, .int k => match S[i]? with
    | some (.lst false xs) => if -(2 ^ 63) ≤ k ∧ k < 2 ^ 63 ∧ xs.length * k.toNat ≤ line then .ok (.obj S.length) (S ++ [.lst false (List.replicate k.toNat xs).flatten]) else .no
    | _ => .no
  | .tup xs, .int k => if 0 < xs.length ∧ xs.length ≤ 1000 ∧ -1000 ≤ k ∧ k ≤ 1000 then .ok (.tup (List.replicate k.toNat xs).flatten) S else .no
  | _, _ => .no
def fdivV (S : Store) (x y : Val) : Res Val :=
  match x, y with
  | .int i, .int j => if 0 < j ∧ j < 1073741824 then .ok (.int (i / j)) S else .no
  | _, _ => .no
def modV (S : Store) (x y : Val) : Res Val :=
  match x, y with
  | .int i, .int j => if 0 < j then .ok (.int (i % j)) S else .no
  | _, _ => .no
def powV (S : Store) (x y : Val) : Res Val :=
  match x, y with
  | .int i, .int j => if 0 ≤ j ∧ j ≤ 1000000 ∧ i.natAbs < 2 ^ 64 then .ok (.int (i ^ j.toNat)) S else .no
  | _, _ => .no
def binV (o : BinO) (S : Store) (x y : Val) : Res Val :=
  match o with
  | .add => addV S x y
  | .sub => subV S x y
  | .mul => mulV S x y
  | .fdiv => fdivV S x y
  | .mod => modV S x y
  | .pow => powV S x y

/-- flat values; == of them -/
def flat : Val → Bool
  | .non => true
  | .bl _ => true
  | .int _ => true
  | .str _ => true
  | _ => false
def eqF : Val → Val → Bool
  | .non, .non => true
  | .bl a, .bl b => a == b
  | .bl a, .int b => (if a then 1 else 0) == b
  | .int a, .bl b => a == (if b then 1 else 0)
  | .int a, .int b => a == b
  | .str a, .str b => a == b
  | _, _ => false

/-- x in y -/
def memV (S : Store) (x y : Val) : Option Bool :=
  match y with
  | .str z => match x with
    | .str ⟨cs⟩ => match cs.toList with
      | [c] => some (decide (c ∈ z.cps.toList))
      | _ => none
    | _ => none
  | .tup ys => if flat x && ys.all flat then some (ys.any fun y => eqF y x) else none
  | .obj i => match S[i]? with
    | some (.lst _ ys) => if flat x && ys.all flat then some (ys.any fun y => eqF y x)
        else (dat 64 S x).bind fun d => (ys.mapM (dat 63 S)).map fun ds => ds.any fun z => PyData.eqv z d
    | some (.dK _ kvs) => match x with
      | .non => some false
      | x => (keyOf x).map fun k => (look kvs k).isSome
    | some (.dT _ kvs) => (keysOf x).map fun k => (look kvs k).isSome
    | _ => none
  | _ => none

/-- dicts with keys of one thing, only where they are alike -/
def dEqD (S : Store) (x y : Val) : Option Bool :=
  match x, y with
  | .obj i, .obj j => match S[i]?, S[j]? with
    | some (.dK _ kvs), some (.dK _ kws) => if kvs.length = kws.length ∧ (kvs.all fun kv => match look kws kv.1 with | some w => eqD S kv.2 w == some true | none => false) = true then some true else none
    | _, _ => none
  | _, _ => none

def cmpV (o : CmpO) (S : Store) (x y : Val) : Option Bool :=
  match o with
  | .eqd => dEqD S x y
  | .ned => (dEqD S x y).map not
  | .eq => eqD S x y
  | .ne => (eqD S x y).map not
  | .mem => memV S x y
  | .nmem => (memV S x y).map not
  | .lt => match x, y with | .int i, .int j => some (decide (i < j)) | _, _ => none
  | .le => match x, y with | .int i, .int j => some (decide (i ≤ j)) | _, _ => none
  | .gt => match x, y with | .int i, .int j => some (decide (j < i)) | _, _ => none
  | .ge => match x, y with | .int i, .int j => some (decide (j ≤ i)) | _, _ => none

/-- x[i] -/
def ixV (S : Store) (x i : Val) : Option Val :=
  match x, i with
  | .str z, .int i => if z.length ≤ line then (atI z.cps.toList i).map fun c => .str ⟨#[c]⟩ else none
  | .tup xs, .int i => atI xs i
  | .obj a, i => match S[a]? with
    | some (.lst _ xs) => match i with | .int i => atI xs i | _ => none
    | some (.dK _ kvs) => (keyOf i).bind fun k => look kvs k
    | some (.dT _ kvs) => (keysOf i).bind fun k => look kvs k
    | _ => none
  | _, _ => none

def cut {α : Type} (xs : List α) (lo hi : Option Int) : List α := (xs.drop (HT.sIx xs.length 0 lo)).take (HT.sIx xs.length xs.length hi - HT.sIx xs.length 0 lo)
def slV (S : Store) (x : Val) (lo hi : Option Int) : Res Val :=
  match x with
  | .str z => if z.length ≤ line then .ok (.str (cutS z lo hi)) S else .no
  | .tup xs => .ok (.tup (cut xs lo hi)) S
  | .obj i => match S[i]? with
    | some (.lst _ xs) => .ok (.obj S.length) (S ++ [.lst false (cut xs lo hi)])
    | _ => .no
  | _ => .no
def intOf : Val → Option Int
  | .int i => some i
  | _ => none

/-! ## builtins -/
inductive Ty where | int | bool | str | tuple | list | dict
  deriving DecidableEq
inductive Bi where | len | int_ | str_ | tuple_ | list_ | sorted_ | sum_ | all_ | min1 | min2 | max2 | sset | isi (t : Ty)
  deriving DecidableEq
inductive Bm where | append | extend | pop0 | popL | popD | pop2 | get1 | get2 | setdefault | clear | reverse | index | count | remove | startswith | join | split | lower | isalpha
  deriving DecidableEq
/-- the kind of the object that a method of a built-in type is asked of -/
inductive Kd where | list | dict | str
  deriving DecidableEq
def kdOf (S : Store) : Val → Option Kd
  | .str _ => some .str
  | .obj i => match S[i]? with
    | some (.lst _ _) => some .list
    | some (.dK _ _) => some .dict
    | some (.dT _ _) => some .dict
    | _ => none
  | _ => none

def isiV (t : Ty) (S : Store) : Val → Option Bool
  | .non => some false
  | .bl _ => some (match t with | .int => true | .bool => true | _ => false)
  | .int _ => some (decide (t = .int))
  | .str _ => some (decide (t = .str))
  | .tup _ => some (decide (t = .tuple))
  | .obj i => match S[i]? with
    | some (.lst _ _) => some (decide (t = .list))
    | some (.dK false _) => some (decide (t = .dict))
    | some (.dT false _) => some (decide (t = .dict))
    | _ => none
  | .fn _ _ => none

def insI (i : Int) : List Int → List Int
  | [] => [i]
  | j :: r => if i ≤ j then i :: j :: r else j :: insI i r
def sortI (l : List Int) : List Int := l.foldr insI []
def leS (a b : Str) : Bool := !decide (b.cps.toList < a.cps.toList)
def insS (i : Str) : List Str → List Str
  | [] => [i]
  | j :: r => if leS i j then i :: j :: r else j :: insS i r
def sortS (l : List Str) : List Str := l.foldr insS []
def strOf : Val → Option Str
  | .str s => some s
  | _ => none
def boolOf : Val → Option Bool
  | .bl b => some b
  | _ => none
def minOf : List Int → Option Int
  | [] => none
  | i :: r => some (r.foldl min i)

def lenV (S : Store) (vs : List Val) : Res Val := match vs with
  | [.str s] => if s.length ≤ line then .ok (.int s.length) S else .no
  | [.tup xs] => .ok (.int xs.length) S
  | [.obj i] => match S[i]? with
    | some (.lst _ xs) => .ok (.int xs.length) S
    | some (.dK false kvs) => .ok (.int kvs.length) S
    | some (.dT false kvs) => .ok (.int kvs.length) S
    | _ => .no
  | _ => .no
def intV (S : Store) (vs : List Val) : Res Val := match vs with
  | [.int i] => .ok (.int i) S
  | [.bl b] => .ok (.int (if b then 1 else 0)) S
  | [.str s] => match intText? s with
    | some n => if s.length ≤ 640 then .ok (.int n) S else .no
    | none => .no
  | _ => .no
def strV (S : Store) (vs : List Val) : Res Val := match vs with
  | [.int i] => if i.natAbs.log2 < 1920 then .ok (.str (toString i)) S else .no
  | [.str s] => .ok (.str s) S
  | _ => .no
def tupV (S : Store) (vs : List Val) : Res Val := match vs with
  | [.tup xs] => .ok (.tup xs) S
  | [.obj i] => match S[i]? with
    | some (.lst _ xs) => .ok (.tup xs) S
    | _ => .no
  | _ => .no
def lstV (S : Store) (vs : List Val) : Res Val := match vs with
  | [.tup xs] => .ok (.obj S.length) (S ++ [.lst false xs])
  | [.obj i] => match S[i]? with
    | some (.lst _ xs) => .ok (.obj S.length) (S ++ [.lst false xs])
    | some (.dK _ kvs) => .ok (.obj S.length) (S ++ [.lst false (kvs.map fun kv => keyV kv.1)])
    | some (.dT _ kvs) => .ok (.obj S.length) (S ++ [.lst false (kvs.map fun kv => .tup (kv.1.map keyV))])
    | _ => .no
  | _ => .no
def sortV (S : Store) (vs : List Val) : Res Val := match vs with
  | [.obj i] => match S[i]? with
    | some (.lst _ xs) => match xs.mapM intOf with
      | some ns => .ok (.obj S.length) (S ++ [.lst false ((sortI ns).map .int)])
      | none => match xs.mapM strOf with
        | some ss => if ss.length < 64 then .ok (.obj S.length) (S ++ [.lst false ((sortS ss).map .str)]) else .no
        | none => .no
    | _ => .no
  | _ => .no
def nubI : List Int → List Int
  | [] => []
  | i :: r => if i ∈ r then nubI r else i :: nubI r
theorem nubI_mem {j : Int} : ∀ {l : List Int}, j ∈ nubI l ↔ j ∈ l
  | [] => by simp [nubI]
  | i :: r => by
    unfold nubI
    split
    · rename_i h
      rw [nubI_mem, List.mem_cons]
      exact ⟨.inr, fun z => z.elim (fun e => e ▸ h) id⟩
    · rw [List.mem_cons, List.mem_cons, nubI_mem]
theorem nubI_nodup : ∀ {l : List Int}, (nubI l).Nodup
  | [] => List.nodup_nil
  | i :: r => by
    unfold nubI
    split
    · exact nubI_nodup
    · rename_i h
      exact List.nodup_cons.mpr ⟨fun z => h (nubI_mem.mp z), nubI_nodup⟩
/-- sorted(set(l)), l a list of ints -/
def ssetV (S : Store) (vs : List Val) : Res Val := match vs with
  | [.obj i] => match S[i]? with
    | some (.lst _ xs) => match xs.mapM intOf with
      | some ns => if ns.length < 4000 ∧ (nubI ns).length < 64 then .ok (.obj S.length) (S ++ [.lst false ((sortI (nubI ns)).map .int)]) else .no
      | none => .no
    | _ => .no
  | _ => .no
def sumV (S : Store) (vs : List Val) : Res Val := match vs with
  | [.obj i] => match S[i]? with
    | some (.lst _ xs) => match xs.mapM intOf with
      | some ns => .ok (.int ns.sum) S
      | none => .no
    | _ => .no
  | _ => .no
def allV (S : Store) (vs : List Val) : Res Val := match vs with
  | [.obj i] => match S[i]? with
    | some (.lst _ xs) => match xs.mapM boolOf with
      | some bs => .ok (.bl (bs.all id)) S
      | none => .no
    | _ => .no
  | _ => .no
def min1V (S : Store) (vs : List Val) : Res Val := match vs with
  | [.obj i] => match S[i]? with
    | some (.lst _ xs) => match (xs.mapM intOf).bind minOf with
      | some m => .ok (.int m) S
      | none => .no
    | _ => .no
  | _ => .no
def min2V (S : Store) (vs : List Val) : Res Val := match vs with
  | [.int i, .int j] => .ok (.int (if j < i then j else i)) S
  | _ => .no
def max2V (S : Store) (vs : List Val) : Res Val := match vs with
  | [.int i, .int j] => .ok (.int (if j > i then j else i)) S
  | _ => .no
def isi1V (t : Ty) (S : Store) (vs : List Val) : Res Val := match vs with
  | [v] => Res.ofO ((isiV t S v).map .bl) S
  | _ => .no
def biV (b : Bi) (S : Store) (vs : List Val) : Res Val :=
  match b with
  | .len => lenV S vs
  | .int_ => intV S vs
  | .str_ => strV S vs
  | .tuple_ => tupV S vs
  | .list_ => lstV S vs
  | .sorted_ => sortV S vs
  | .sum_ => sumV S vs
  | .all_ => allV S vs
  | .min1 => min1V S vs
  | .min2 => min2V S vs
  | .max2 => max2V S vs
  | .sset => ssetV S vs
  | .isi t => isi1V t S vs

def appV (S : Store) (x : Val) (vs : List Val) : Res Val := match x, vs with
  | .obj i, [v] => match S[i]? with
    | some (.lst false xs) => if xs.length < line then .ok .non (S.set i (.lst false (xs ++ [v]))) else .no
    | _ => .no
  | _, _ => .no
def extV (S : Store) (x : Val) (vs : List Val) : Res Val := match x, vs with
  | .obj i, [.obj j] => match S[i]?, S[j]? with
    | some (.lst false xs), some (.lst false ys) => if xs.length + ys.length ≤ line then .ok .non (S.set i (.lst false (xs ++ ys))) else .no
    | _, _ => .no
  | _, _ => .no
def pop0V (S : Store) (x : Val) (vs : List Val) : Res Val := match x, vs with
  | .obj i, [] => match S[i]? with
    | some (.lst false xs) => match xs[xs.length - 1]? with
      | some y => .ok y (S.set i (.lst false xs.dropLast))
      | none => .no
    | _ => .no
  | _, _ => .no
def popLV (S : Store) (x : Val) (vs : List Val) : Res Val := match x, vs with
  | .obj i, [.int k] => match S[i]? with
    | some (.lst false xs) => if 0 ≤ k ∧ k < 2 ^ 62 then (match xs[k.toNat]? with
      | some y => .ok y (S.set i (.lst false (xs.eraseIdx k.toNat)))
      | none => .no) else .no
    | _ => .no
  | _, _ => .no
def popDV (S : Store) (x : Val) (vs : List Val) : Res Val := match x, vs with
  | .obj i, [k] => match S[i]? with
    | some (.dK false kvs) => match keyOf k with
      | some k => match look kvs k with
        | some v => .ok v (S.set i (.dK false (drop kvs k)))
        | none => .no
      | none => .no
    | _ => .no
  | _, _ => .no
def pop2V (S : Store) (x : Val) (vs : List Val) : Res Val := match x, vs with
  | .obj i, [k, d] => match S[i]? with
    | some (.dK false kvs) => match k with
      | .non => .ok d S
      | k => match keyOf k with
        | some k => match look kvs k with
          | some v => .ok v (S.set i (.dK false (drop kvs k)))
          | none => .ok d S
        | none => .no
    | _ => .no
  | _, _ => .no
def getV (S : Store) (x k d : Val) : Res Val := match x with
  | .obj i => match S[i]? with
    | some (.dK _ kvs) => Res.ofO ((keyOf k).map fun k => (look kvs k).getD d) S
    | some (.dT _ kvs) => Res.ofO ((keysOf k).map fun k => (look kvs k).getD d) S
    | _ => .no
  | _ => .no
def get1V (S : Store) (x : Val) (vs : List Val) : Res Val := match vs with
  | [k] => getV S x k .non
  | _ => .no
def get2V (S : Store) (x : Val) (vs : List Val) : Res Val := match vs with
  | [k, d] => getV S x k d
  | _ => .no
def sdefV (S : Store) (x : Val) (vs : List Val) : Res Val := match x, vs with
  | .obj i, [k, d] => match S[i]? with
    | some (.dK false kvs) => match keyOf k with
      | some k => if kvs.length < line then (match look kvs k with
        | some v => .ok v S
        | none => .ok d (S.set i (.dK false (put kvs k d)))) else .no
      | none => .no
    | _ => .no
  | _, _ => .no
def clearV (S : Store) (x : Val) (vs : List Val) : Res Val := match x, vs with
  | .obj i, [] => match S[i]? with
    | some (.lst false _) => .ok .non (S.set i (.lst false []))
    | _ => .no
  | _, _ => .no
def revV (S : Store) (x : Val) (vs : List Val) : Res Val := match x, vs with
  | .obj i, [] => match S[i]? with
    | some (.lst false xs) => .ok .non (S.set i (.lst false xs.reverse))
    | _ => .no
  | _, _ => .no
def indexV (S : Store) (x : Val) (vs : List Val) : Res Val := match x, vs with
  | .obj i, [v] => match S[i]? with
    | some (.lst _ xs) => if flat v && xs.all flat then (match xs.findIdx? fun x => eqF x v with
      | some j => .ok (.int j) S
      | none => .no) else .no
    | _ => .no
  | _, _ => .no
def removeV (S : Store) (x : Val) (vs : List Val) : Res Val := match x, vs with
  | .obj i, [.int k] => match S[i]? with
    | some (.lst false xs) => match xs.mapM intOf with
      | some ns => match ns.findIdx? fun n => n == k with
        | some j => .ok .non (S.set i (.lst false ((ns.eraseIdx j).map .int)))
        | none => .no
      | none => .no
    | _ => .no
  | _, _ => .no
def countV (S : Store) (x : Val) (vs : List Val) : Res Val := match x, vs with
  | .obj i, [.int k] => match S[i]? with
    | some (.lst _ xs) => match xs.mapM intOf with
      | some ns => .ok (.int (ns.count k)) S
      | none => .no
    | _ => .no
  | _, _ => .no
def startsV (S : Store) (x : Val) (vs : List Val) : Res Val := match x, vs with
  | .str a, [.str b] => .ok (.bl (Txt.startswith a b)) S
  | _, _ => .no
def joinV (S : Store) (x : Val) (vs : List Val) : Res Val := match x, vs with
  | .str a, [v] => match (seq? S v).bind fun xs => xs.mapM strOf with
    | some ys => if (ys.map (·.length)).sum + ys.length * a.length ≤ line ∧ sOk (Txt.join a ys) = true then .ok (.str (Txt.join a ys)) S else .no
    | none => .no
  | _, _ => .no
def splitV (S : Store) (x : Val) (vs : List Val) : Res Val := match x, vs with
  | .str a, [.str b] => if (b.length == 0) = false ∧ a.length + 2 ≤ line ∧ ((Txt.split a b).all sOk) = true then .ok (.obj S.length) (S ++ [.lst false ((Txt.split a b).map .str)]) else .no
  | _, _ => .no
def isalphaV (S : Store) (x : Val) (vs : List Val) : Res Val := match x, vs with
  | .str a, [] => .ok (.bl (Txt.isalpha a)) S
  | _, _ => .no
def lowerV (S : Store) (x : Val) (vs : List Val) : Res Val := match x, vs with
  | .str a, [] => if a.length ≤ 5592405 ∧ sOk (Txt.lower a) = true then .ok (.str (Txt.lower a)) S else .no
  | _, _ => .no
def bmV0 (m : Bm) (S : Store) (x : Val) (vs : List Val) : Res Val :=
  match m with
  | .append => appV S x vs
  | .extend => extV S x vs
  | .pop0 => pop0V S x vs
  | .popL => popLV S x vs
  | .popD => popDV S x vs
  | .pop2 => pop2V S x vs
  | .get1 => get1V S x vs
  | .get2 => get2V S x vs
  | .setdefault => sdefV S x vs
  | .clear => clearV S x vs
  | .reverse => revV S x vs
  | .index => indexV S x vs
  | .count => countV S x vs
  | .remove => removeV S x vs
  | .startswith => startsV S x vs
  | .join => joinV S x vs
  | .split => splitV S x vs
  | .lower => lowerV S x vs
  | .isalpha => isalphaV S x vs

/-- the kind that a method wants -/
def bmK : Bm → Kd → Bool
  | .popL, .list => true
  | .popD, .dict => true
  | .pop2, .dict => true
  | .get1, .dict => true
  | .get2, .dict => true
  | .setdefault, .dict => true
  | .startswith, .str => true
  | .join, .str => true
  | .split, .str => true
  | .lower, .str => true
  | .isalpha, .str => true
  | .append, .list => true
  | .extend, .list => true
  | .pop0, .list => true
  | .clear, .list => true
  | .reverse, .list => true
  | .index, .list => true
  | .count, .list => true
  | .remove, .list => true
  | _, _ => false
def bmGo (m : Bm) (S : Store) (x : Val) : Option Kd := (kdOf S x).bind fun k => if bmK m k then some k else none
/-- .. the object still of the kind that it was ahead of the arguments -/
def bmV (m : Bm) (k : Kd) (S : Store) (x : Val) (vs : List Val) : Res Val := if kdOf S x = some k then bmV0 m S x vs else .no

/-! ## what is walked -/
inductive Walk where
  | lst (i : Nat)
  | enm (i : Nat)
  | zp (i j : Nat)
  | rv (i n : Nat)
  | its (i : Nat)
  | ks (i : Nat)
  | sq (xs : List Val)
def walkAt (S : Store) (w : Walk) (k : Nat) : Option (Option Val) :=
  match w with
  | .sq xs => some xs[k]?
  | .lst i => (lst? S (.obj i)).map fun xs => xs[k]?
  | .enm i => (lst? S (.obj i)).map fun xs => xs[k]?.map fun x => .tup [.int k, x]
  | .zp i j => (lst? S (.obj i)).bind fun xs => (lst? S (.obj j)).map fun ys => xs[k]?.bind fun x => ys[k]?.map fun y => .tup [x, y]
  | .rv i n => (lst? S (.obj i)).bind fun xs => if k < n then xs[n - 1 - k]?.map some else some none
  | .its i => match S[i]? with
    | some (.dK true kvs) => some (kvs[k]?.map fun kv => .tup [keyV kv.1, kv.2])
    | _ => none
  | .ks i => match S[i]? with
    | some (.dK true kvs) => some (kvs[k]?.map fun kv => keyV kv.1)
    | _ => none
inductive ItK where | val | range | enm | zp | rv | items | keys | rvr
  deriving DecidableEq
def rangeL (lo : Int) (n : Nat) : List Val := (List.range n).map fun (k : Nat) => Val.int (lo + (k : Int))
def small (i : Int) : Bool := decide (-(2 ^ 62) ≤ i ∧ i < 2 ^ 62)
/-- the walk and a bound of its turns -/
def wkVal (S : Store) (vs : List Val) : Option (Walk × Nat) := match vs with
  | [.tup xs] => some (.sq xs, xs.length)
  | [.str z] => if z.length ≤ line then some (.sq (z.cps.toList.map fun c => .str ⟨#[c]⟩), z.length) else none
  | [.obj i] => (lst? S (.obj i)).map fun xs => (.lst i, xs.length)
  | _ => none
def wkRange (vs : List Val) : Option (Walk × Nat) := match vs with
  | [.int j] => if small j then some (.sq (rangeL 0 j.toNat), j.toNat) else none
  | [.int i, .int j] => if small i && small j then some (.sq (rangeL i (j - i).toNat), (j - i).toNat) else none
  | _ => none
def wkEnm (S : Store) (vs : List Val) : Option (Walk × Nat) := match vs with
  | [.obj i] => (lst? S (.obj i)).map fun xs => (.enm i, xs.length)
  | _ => none
def wkZp (S : Store) (vs : List Val) : Option (Walk × Nat) := match vs with
  | [.obj i, .obj j] => (lst? S (.obj i)).bind fun xs => (lst? S (.obj j)).map fun ys => (.zp i j, min xs.length ys.length)
  | _ => none
def wkRv (S : Store) (vs : List Val) : Option (Walk × Nat) := match vs with
  | [.obj i] => (lst? S (.obj i)).map fun xs => (.rv i xs.length, xs.length)
  | _ => none
def wkRvr (vs : List Val) : Option (Walk × Nat) := match vs with
  | [.int j] => if small j then some (.sq (rangeL 0 j.toNat).reverse, j.toNat) else none
  | _ => none
def wkIts (S : Store) (vs : List Val) : Option (Walk × Nat) := match vs with
  | [.obj i] => match S[i]? with
    | some (.dK true kvs) => some (.its i, kvs.length)
    | _ => none
  | _ => none
def wkKs (S : Store) (vs : List Val) : Option (Walk × Nat) := match vs with
  | [.obj i] => match S[i]? with
    | some (.dK true kvs) => some (.ks i, kvs.length)
    | _ => none
  | _ => none
def mkWalk (k : ItK) (S : Store) (vs : List Val) : Option (Walk × Nat) :=
  match k with
  | .val => wkVal S vs
  | .range => wkRange vs
  | .enm => wkEnm S vs
  | .zp => wkZp S vs
  | .rv => wkRv S vs
  | .rvr => wkRvr vs
  | .items => wkIts S vs
  | .keys => wkKs S vs

/-! ## the small syntax -/
inductive PyE where
  | c (v : Val)
  | var (i : Nat)
  | bin (o : BinO) (a b : PyE)
  | neg (a : PyE)
  | cmp (o : CmpO) (a b : PyE)
  | inK (neg : Bool) (a : PyE) (ks : List Str)
  | isN (neg : Bool) (a : PyE)
  | isB (neg : Bool) (a b : PyE)
  | chain (o o' : CmpO) (a b c : PyE)
  | and (a b : PyE)
  | or (a b : PyE)
  | not (a : PyE)
  | ite (t a b : PyE)
  | nil
  | cons (a b : PyE)
  | tup (a : PyE)
  | lst (a : PyE)
  | dnewK
  | dnewT
  | disp (a : PyE)
  | idx (a b : PyE)
  | sl (a : PyE) (hl : Bool) (lo : PyE) (hh : Bool) (hi : PyE)
  | fld (a : PyE) (f : Nat)
  | call (f : Nat) (a : PyE) (ds : List Val)
  | new (k f : Nat) (a : PyE) (ds : List Val)
  | meth (a : PyE) (m n : Nat) (as : PyE)
  | bi (b : Bi) (a : PyE)
  | bm (m : Bm) (a as : PyE)
  | comp (elt : PyE) (tp : Bool) (is : List Nat) (k : ItK) (as : PyE) (cond : PyE)
  | lock (i : Nat) (fs : List Nat) (a : PyE)
  | isC (j : Nat) (a : PyE)
  deriving Inhabited

inductive PyS where
  | skip
  | seq (a b : PyS)
  | expr (e : PyE)
  | asg (i : Nat) (e : PyE)
  | asgT (is : List Nat) (e : PyE)
  | asgL (is : List Nat) (e : PyE)
  | setI (o i e : PyE)
  | setF (o : PyE) (f : Nat) (e : PyE)
  | augV (i : Nat) (o : BinO) (e : PyE)
  | augF (a : PyE) (f : Nat) (o : BinO) (e : PyE)
  | ite (c : PyE) (a b : PyS)
  | ret (e : PyE)
  | for_ (tp : Bool) (is : List Nat) (k : ItK) (as : PyE) (b : PyS)
  | whl (c : PyE) (b : PyS)
  | brk
  | cnt
  | raise (k : Nat) (a : PyE)
  | try1 (b : PyS) (k : Nat) (h : PyS)
  | lockS (i : Nat) (fs : List Nat) (b : PyS)
  | never
  deriving Inhabited

/-- what is known of the text: methods of classes, their makers, which fields a class may have -/
structure Tab where
  mt : Nat → Nat → Option (Nat × List Val)   -- class, method's name: the def, its defaults
  isF : Nat → Nat → Bool
  catches : Nat → Nat → Option Bool           -- 'except k' takes an exception of class c (none: not known)
  isI : Nat → Nat → Option Bool               -- isinstance(x, j), x of class c

def setAll (env : Env) : List Nat → Env
  | [] => env
  | i :: r => (setAll env r).set i none
def tgt (tp : Bool) (is : List Nat) (v : Val) (env : Env) : Option Env :=
  if tp then match v with
    | .tup xs => if xs.length = is.length then some ((is.zip xs).foldl (fun e p => e.set p.1 (some p.2)) env) else none
    | _ => none
  else match is with
    | [i] => some (env.set i (some v))
    | _ => none

abbrev Fns := Nat → List Val → Store → Res Val

def optI (v : Val) (S : Store) : Res (Option Int) := match v with
  | .int i => .ok (some i) S
  | _ => .no
/-- what follows of a value's truth -/
def ifV {α : Type} (x : Val) (S : Store) (t f : Res α) : Res α := match tru S x with
  | some true => t
  | some false => f
  | none => .no
def negV (x : Val) (S : Store) : Res Val := match x with | .int i => .ok (.int (-i)) S | _ => .no
def xorB (n b : Bool) : Bool := if n then !b else b
def isNon : Val → Bool
  | .non => true
  | _ => false
def isBV (n : Bool) (x y : Val) (S : Store) : Res Val := match x, y with
  | .bl p, .bl q => .ok (.bl (xorB n (decide (p = q)))) S
  | _, _ => .no
def fldV (G : Tab) (f : Nat) (x : Val) (S : Store) : Res Val := match x with
  | .obj i => match S[i]? with
    | some (.ins c fs) => if G.isF c f then Res.ofO (fget f fs) S else .no
    | _ => .no
  | _ => .no
/-- the method m of x: the def, the defaults -/
def methV (G : Tab) (m : Nat) (x : Val) (S : Store) : Option (Nat × List Val) := match x with
  | .obj i => match S[i]? with
    | some (.ins c fs) => match fget m fs with
      | none => G.mt c m
      | some _ => none
    | _ => none
  | _ => none
def newV (x : Val) (r : Val) (S : Store) : Res Val := match r with
  | .non => .ok x S
  | _ => .no
def ifS (x : Val) (S : Store) (t f : Out) : Out := match tru S x with
  | some true => t
  | some false => f
  | none => .no

/-- a comprehension's turns: n a bound, k the turn, d the list that is made -/
def compW (turn : Val → Store → Res (Option Val)) (w : Walk) (d : Nat) : Nat → Nat → Store → Res Val
  | 0, _, _ => .no
  | n + 1, k, S => match walkAt S w k with
    | none => .no
    | some none => .ok (.obj d) S
    | some (some x) => match turn x S with
      | .ok none S1 => compW turn w d n (k + 1) S1
      | .ok (some y) S1 => match S1[d]? with
        | some (.lst false acc) => if acc.length < line then compW turn w d n (k + 1) (S1.set d (.lst false (acc ++ [y]))) else .no
        | _ => .no
      | _ => .no

/-- a dict display's end -/
def dispV (d : Nat) (acc : List (Key × Val)) (S : Store) : Res Val := match S[d]? with
  | some (.dK false []) => if acc.length ≤ 15 then .ok (.obj d) (S.set d (.dK false (merge [] acc))) else .no
  | _ => .no
def compT (tp : Bool) (is : List Nat) (env : Env) (c e : Env → Store → Res Val) (x : Val) (S : Store) : Res (Option Val) :=
  match tgt tp is x (setAll env is) with
  | none => .no
  | some env' => (c env' S).bind fun t S1 => ifV t S1 ((e env' S1).bind fun y S2 => .ok (some y) S2) (.ok none S1)
def compV (tp : Bool) (is : List Nat) (k : ItK) (env : Env) (c e : Env → Store → Res Val) (vs : List Val) (S : Store) : Res Val :=
  match mkWalk k S vs with
  | none => .no
  | some (w, n) => compW (compT tp is env c e) w S.length (n + 1) 0 (S ++ [.lst false []])
def chainV (o : CmpO) (x y : Val) (S : Store) (t : Res Val) : Res Val := match cmpV o S x y with
  | some true => t
  | some false => .ok (.bl false) S
  | none => .no

/-- the dict that is locked: a name's, or a field of it -/
def lkFs (G : Tab) (S : Store) : List Nat → Val → Option Nat
  | [], .obj a => some a
  | f :: fs, .obj a => match S[a]? with
    | some (.ins c gs) => if G.isF c f then (fget f gs).bind (lkFs G S fs) else none
    | _ => none
  | _, _ => none
def lkOf (G : Tab) (env : Env) (S : Store) (i : Nat) (fs : List Nat) : Option (Nat × List (Key × Val)) :=
  ((env[i]?.getD none).bind (lkFs G S fs)).bind fun d => match S[d]? with
    | some (.dK false kvs) => some (d, kvs)
    | _ => none
def unlk (d : Nat) (S : Store) : Option Store := match S[d]? with
  | some (.dK true kvs) => some (S.set d (.dK false kvs))
  | _ => none
def lockV (d : Nat) (r : Res Val) : Res Val := match r with
  | .ok v S => match unlk d S with
    | some S' => .ok v S'
    | none => .no
  | _ => .no
def lockO (d : Nat) (o : Out) : Out := match o with
  | .nx e S => match unlk d S with
    | some S' => .nx e S'
    | none => .no
  | .rt v S => match unlk d S with
    | some S' => .rt v S'
    | none => .no
  | _ => .no

/-- isinstance(x, C), C a class of the text, x an instance -/
def isCV (G : Tab) (j : Nat) (S : Store) : Val → Option Bool
  | .obj i => match S[i]? with
    | some (.ins c _) => G.isI j c
    | _ => none
  | _ => none
mutual
def ev (G : Tab) (ft : Fns) : PyE → Env → Store → Res Val
  | .c v, _, S => .ok v S
  | .var i, env, S => Res.ofO (env[i]?.getD none) S
  | .bin o a b, env, S => (ev G ft a env S).bind fun x S1 => (ev G ft b env S1).bind fun y S2 => binV o S2 x y
  | .neg a, env, S => (ev G ft a env S).bind fun x S1 => negV x S1
  | .cmp o a b, env, S => (ev G ft a env S).bind fun x S1 => (ev G ft b env S1).bind fun y S2 => Res.ofO ((cmpV o S2 x y).map .bl) S2
  | .inK n a ks, env, S => (ev G ft a env S).bind fun x S1 => if flat x then .ok (.bl (xorB n (ks.any fun k => eqF (.str k) x))) S1 else .no
  | .isN n a, env, S => (ev G ft a env S).bind fun x S1 => .ok (.bl (xorB n (isNon x))) S1
  | .isC j a, env, S => (ev G ft a env S).bind fun x S1 => Res.ofO ((isCV G j S1 x).map .bl) S1
  | .isB n a b, env, S => (ev G ft a env S).bind fun x S1 => (ev G ft b env S1).bind fun y S2 => isBV n x y S2
  | .chain o o' a b c, env, S => (ev G ft a env S).bind fun x S1 => (ev G ft b env S1).bind fun y S2 => chainV o x y S2 ((ev G ft c env S2).bind fun z S3 => Res.ofO ((cmpV o' S3 y z).map .bl) S3)
  | .and a b, env, S => (ev G ft a env S).bind fun x S1 => ifV x S1 (ev G ft b env S1) (.ok x S1)
  | .or a b, env, S => (ev G ft a env S).bind fun x S1 => ifV x S1 (.ok x S1) (ev G ft b env S1)
  | .not a, env, S => (ev G ft a env S).bind fun x S1 => ifV x S1 (.ok (.bl false) S1) (.ok (.bl true) S1)
  | .ite t a b, env, S => (ev G ft t env S).bind fun x S1 => ifV x S1 (ev G ft a env S1) (ev G ft b env S1)
  | .nil, _, _ => .no
  | .cons _ _, _, _ => .no
  | .tup a, env, S => (evA G ft a env S).bind fun xs S1 => if xs.length ≤ line then .ok (.tup xs) S1 else .no
  | .lst a, env, S => (evA G ft a env S).bind fun xs S1 => if xs.length ≤ line then .ok (.obj S1.length) (S1 ++ [.lst false xs]) else .no
  | .dnewK, _, S => .ok (.obj S.length) (S ++ [.dK false []])
  | .dnewT, _, S => .ok (.obj S.length) (S ++ [.dT false []])
  | .disp a, env, S => evP G ft a env S.length [] (S ++ [.dK false []])
  | .idx a b, env, S => (ev G ft a env S).bind fun x S1 => (ev G ft b env S1).bind fun y S2 => Res.ofO (ixV S2 x y) S2
  | .sl a hl lo hh hi, env, S => (ev G ft a env S).bind fun x S1 => (if hl then (ev G ft lo env S1).bind optI else .ok none S1).bind fun l S2 => (if hh then (ev G ft hi env S2).bind optI else .ok none S2).bind fun h S3 => slV S3 x l h
  | .fld a f, env, S => (ev G ft a env S).bind fun x S1 => fldV G f x S1
  | .call f a ds, env, S => (evA G ft a env S).bind fun vs S1 => ft f (vs ++ ds) S1
  | .new k f a ds, env, S => (evA G ft a env S).bind fun vs S1 => (ft f (.obj S1.length :: (vs ++ ds)) (S1 ++ [.ins k []])).bind fun r S2 => newV (.obj S1.length) r S2
  | .meth a m n as, env, S => (ev G ft a env S).bind fun x S1 => match methV G m x S1 with
    | some (f, ds) => (evA G ft as env S1).bind fun vs S2 => ft f (x :: (vs ++ ds.drop n)) S2
    | none => .no
  | .bi b a, env, S => (evA G ft a env S).bind fun vs S1 => biV b S1 vs
  | .bm m a as, env, S => (ev G ft a env S).bind fun x S1 => match bmGo m S1 x with
    | some k => (evA G ft as env S1).bind fun vs S2 => bmV m k S2 x vs
    | none => .no
  | .comp elt tp is k as cond, env, S => (evA G ft as env S).bind fun vs S1 => compV tp is k env (ev G ft cond) (ev G ft elt) vs S1
  | .lock i fs a, env, S => match lkOf G env S i fs with
    | some (d, kvs) => lockV d (ev G ft a env (S.set d (.dK true kvs)))
    | none => .no
def evA (G : Tab) (ft : Fns) : PyE → Env → Store → Res (List Val)
  | .nil, _, S => .ok [] S
  | .cons a b, env, S => (ev G ft a env S).bind fun x S1 => (evA G ft b env S1).bind fun xs S2 => .ok (x :: xs) S2
  | _, _, _ => .no
/-- a dict display's pairs; d the dict -/
def evP (G : Tab) (ft : Fns) : PyE → Env → Nat → List (Key × Val) → Store → Res Val
  | .nil, _, d, acc, S => dispV d acc S
  | .cons a b, env, d, acc, S => (ev G ft a env S).bind fun k S1 => match keyOf k with
    | none => .no
    | some k => evQ G ft b env d acc k S1
  | _, _, _, _, _ => .no
def evQ (G : Tab) (ft : Fns) : PyE → Env → Nat → List (Key × Val) → Key → Store → Res Val
  | .cons a b, env, d, acc, k, S => (ev G ft a env S).bind fun v S1 => evP G ft b env d (acc ++ [(k, v)]) S1
  | _, _, _, _, _, _ => .no
end

def Res.out {α : Type} (r : Res α) (env : Env) (f : α → Store → Out) : Out := match r with
  | .ok a S => f a S
  | .ex x S => .ex x env S
  | .no => .no
@[simp] theorem Res.out_ok {α : Type} (a : α) (S : Store) (env : Env) (f : α → Store → Out) : (Res.ok a S).out env f = f a S := rfl
@[simp] theorem Res.out_ex {α : Type} (e : Exn) (S : Store) (env : Env) (f : α → Store → Out) : (Res.ex e S : Res α).out env f = .ex e env S := rfl
@[simp] theorem Res.out_no {α : Type} (env : Env) (f : α → Store → Out) : (Res.no : Res α).out env f = .no := rfl

/-- a for's turns -/
def forW (body : Env → Store → Out) (tp : Bool) (is : List Nat) (w : Walk) : Nat → Nat → Env → Store → Out
  | 0, _, _, _ => .no
  | n + 1, k, env, S => match walkAt S w k with
    | none => .no
    | some none => .nx env S
    | some (some x) => match tgt tp is x env with
      | none => .no
      | some e => match body e S with
        | .nx e' S' => forW body tp is w n (k + 1) e' S'
        | .ct e' S' => forW body tp is w n (k + 1) e' S'
        | .bk e' S' => .nx e' S'
        | o => o
/-- a while's turns -/
def whlW (c : Env → Store → Res Val) (body : Env → Store → Out) : Nat → Env → Store → Out
  | 0, _, _ => .no
  | n + 1, env, S => (c env S).out env fun v S1 => ifS v S1 (match body env S1 with
        | .nx e' S' => whlW c body n e' S'
        | .ct e' S' => whlW c body n e' S'
        | .bk e' S' => .nx e' S'
        | o => o) (.nx env S1)
def whileBound : Nat := 100000

def setIV (S : Store) (o i v : Val) : Option Store := match o with
  | .obj a => match S[a]?, i with
    | some (.lst false xs), .int i => (ixN xs.length i).map fun j => S.set a (.lst false (xs.set j v))
    | some (.dK false kvs), i => (keyOf i).bind fun k => if kvs.length < line then some (S.set a (.dK false (put kvs k v))) else none
    | some (.dT false kvs), i => (keysOf i).bind fun k => if kvs.length < line then some (S.set a (.dT false (put kvs k v))) else none
    | _, _ => none
  | _ => none
/-- x += y -/
def iaddV (S : Store) (x y : Val) : Res Val :=
  match x, y with
  | .int i, .int j => .ok (.int (i + j)) S
  | .str a, .str b => if a.length + b.length ≤ line then .ok (.str (a ++ b)) S else .no
  | .obj i, .obj j => match S[i]?, S[j]? with
    | some (.lst false xs), some (.lst false ys) => if xs.length + ys.length ≤ line then .ok (.obj i) (S.set i (.lst false (xs ++ ys))) else .no
    | _, _ => .no
  | _, _ => .no
def augV (o : BinO) (S : Store) (x y : Val) : Res Val :=
  match o with
  | .add => iaddV S x y
  | .sub => subV S x y
  | _ => .no

def setFV (G : Tab) (f : Nat) (env : Env) (v x : Val) (S : Store) : Out := match x with
  | .obj i => match S[i]? with
    | some (.ins c fs) => if G.isF c f && decide (fs.length < 1000) then .nx env (S.set i (.ins c (fput f v fs))) else .no
    | _ => .no
  | _ => .no
/-- x.f op= .. : ahead of the value, and behind it -/
def augF1 (G : Tab) (f : Nat) (x : Val) (S : Store) : Option (Nat × Nat × Val) := match x with
  | .obj i => match S[i]? with
    | some (.ins c fs) => if G.isF c f then (fget f fs).map fun v => (i, c, v) else none
    | _ => none
  | _ => none
def augF2 (f : Nat) (env : Env) (i c : Nat) (z : Val) (S : Store) : Out := match S[i]? with
  | some (.ins c' fs') => if c' = c ∧ fs'.length < 1000 then .nx env (S.set i (.ins c (fput f z fs'))) else .no
  | _ => .no
def noEx (o : Out) : Out := match o with
  | .ex _ _ _ => .no
  | o => o
def tryV (G : Tab) (k : Nat) (h : Env → Store → Out) (o : Out) : Out := match o with
  | .ex x e S => match G.catches k x.c with
    | some true => noEx (h e S)
    | some false => .ex x e S
    | none => .no
  | o => o
def seqV (o : Out) (k : Env → Store → Out) : Out := match o with
  | .nx e S => k e S
  | o => o
def ofNx (o : Option (Env × Store)) : Out := match o with
  | some (e, S) => .nx e S
  | none => .no
def forV (tp : Bool) (is : List Nat) (k : ItK) (body : Env → Store → Out) (env : Env) (vs : List Val) (S : Store) : Out := match mkWalk k S vs with
  | none => .no
  | some (w, n) => forW body tp is w (n + 1) 0 env S

def ex (G : Tab) (ft : Fns) : PyS → Env → Store → Out
  | .skip, env, S => .nx env S
  | .seq a b, env, S => seqV (ex G ft a env S) (ex G ft b)
  | .expr e, env, S => (ev G ft e env S).out env fun _ S1 => .nx env S1
  | .asg i e, env, S => (ev G ft e env S).out env fun v S1 => .nx (env.set i (some v)) S1
  | .asgT is e, env, S => (ev G ft e env S).out env fun v S1 => ofNx ((tgt true is v env).map fun e' => (e', S1))
  | .asgL is e, env, S => (ev G ft e env S).out env fun v S1 => ofNx (((lst? S1 v).bind fun xs => tgt true is (.tup xs) env).map fun e' => (e', S1))
  | .setI o i e, env, S => (ev G ft e env S).out env fun v S1 => (ev G ft o env S1).out env fun x S2 => (ev G ft i env S2).out env fun k S3 => ofNx ((setIV S3 x k v).map fun S4 => (env, S4))
  | .setF o f e, env, S => (ev G ft e env S).out env fun v S1 => (ev G ft o env S1).out env fun x S2 => setFV G f env v x S2
  | .augV i o e, env, S => (Res.ofO (env[i]?.getD none) S).out env fun x S0 => (ev G ft e env S0).out env fun y S1 => (augV o S1 x y).out env fun z S2 => .nx (env.set i (some z)) S2
  | .augF a f o e, env, S => (ev G ft a env S).out env fun x S1 => match augF1 G f x S1 with
    | some (i, c, v) => (ev G ft e env S1).out env fun y S2 => (augV o S2 v y).out env fun z S3 => augF2 f env i c z S3
    | none => .no
  | .ite c a b, env, S => (ev G ft c env S).out env fun v S1 => ifS v S1 (ex G ft a env S1) (ex G ft b env S1)
  | .ret e, env, S => (ev G ft e env S).out env fun v S1 => .rt v S1
  | .for_ tp is k as b, env, S => (evA G ft as env S).out env fun vs S1 => forV tp is k (ex G ft b) env vs S1
  | .whl c b, env, S => whlW (ev G ft c) (ex G ft b) whileBound env S
  | .brk, env, S => .bk env S
  | .cnt, env, S => .ct env S
  | .raise k a, env, S => (evA G ft a env S).out env fun vs S1 => if vs.length ≤ line then .ex ⟨k, []⟩ env S1 else .no
  | .never, _, _ => .no
  | .try1 b k h, env, S => tryV G k (ex G ft h) (ex G ft b env S)
  | .lockS i fs b, env, S => match lkOf G env S i fs with
    | some (d, kvs) => lockO d (ex G ft b env (S.set d (.dK true kvs)))
    | none => .no

/-- a def: its parameters, its names, its body -/
structure Df where
  np : Nat
  nn : Nat
  body : PyS
def fin (o : Out) : Res Val := match o with
  | .nx _ S' => .ok .non S'
  | .rt v S' => .ok v S'
  | .ex x _ S' => .ex x S'
  | _ => .no
def run (G : Tab) (D : List Df) : Nat → Fns
  | 0, _, _, _ => .no
  | n + 1, f, vs, S => match D[f]? with
    | none => .no
    | some d => if vs.length = d.np then fin (ex G (run G D n) d.body (vs.map some ++ List.replicate (d.nn - d.np) none) S) else .no
end Nw

set_option Elab.async false
set_option linter.all false
set_option maxRecDepth 100000
namespace Nw
open PySem L2

structure Cfg where
  K : PySem.W.Frag
  ca : Nat → Addr
  NM : List Str
  nd : NM.Nodup
def Cfg.nm (G : Cfg) (f : Nat) : Str := G.NM.getD f Str.empty
theorem Cfg.nm_inj (G : Cfg) {f g : Nat} (hf : f < G.NM.length) (hg : g < G.NM.length) (e : G.nm f = G.nm g) : f = g := by
  unfold Cfg.nm at e
  rw [List.getD_eq_getElem?_getD, List.getD_eq_getElem?_getD, List.getElem?_eq_getElem hf, List.getElem?_eq_getElem hg] at e
  exact (List.getElem_inj G.nd).mp e


/-! ## values -/
mutual
inductive RV (μ : List Addr) (H : Hp) : Val → V → Prop
  | non : RV μ H .non .non
  | bl (b : Bool) : RV μ H (.bl b) (.bl b)
  | int (i : Int) : RV μ H (.int i) (.int i)
  | str {s : Str} (h : sOk s = true) : RV μ H (.str s) (.str s)
  | tup {a : Addr} {xs : List Val} {ys : List V} (h : H a = some (.tup ys)) (r : RVs μ H xs ys) : RV μ H (.tup xs) (.ref a)
  | obj {i : Nat} {a : Addr} (h : μ[i]? = some a) : RV μ H (.obj i) (.ref a)
inductive RVs (μ : List Addr) (H : Hp) : List Val → List V → Prop
  | nil : RVs μ H [] []
  | cons {v : Val} {x : V} {vs : List Val} {xs : List V} (h : RV μ H v x) (t : RVs μ H vs xs) : RVs μ H (v :: vs) (x :: xs)
end

def Up (μ μ' : List Addr) : Prop := ∀ (i : Nat) a, μ[i]? = some a → μ'[i]? = some a
def KeepT (H H' : Hp) : Prop := ∀ a xs, H a = some (.tup xs) → H' a = some (.tup xs)
structure Keep (H H' : Hp) : Prop where
  t : KeepT H H'
  z : ∀ a od u, H a = some (.frz od u) → H' a = some (.frz od u)
theorem Up.refl (μ : List Addr) : Up μ μ := fun _ _ h => h
theorem Up.trans {a b c : List Addr} (h : Up a b) (k : Up b c) : Up a c := fun i x e => k i x (h i x e)
theorem Up.app (μ : List Addr) (p : Addr) : Up μ (μ ++ [p]) := fun i a h => by
  have hl : i < μ.length := (List.getElem?_eq_some_iff.mp h).1
  rw [List.getElem?_append_left hl]; exact h
theorem Keep.refl (H : Hp) : Keep H H := ⟨fun _ _ h => h, fun _ _ _ h => h⟩
theorem Keep.trans {a b c : Hp} (h : Keep a b) (k : Keep b c) : Keep a c := ⟨fun i x e => k.t i x (h.t i x e), fun i x y e => k.z i x y (h.z i x y e)⟩
theorem Keep.new {H : Hp} {p : Addr} {o : HO} (h : H p = none) : Keep H (upd H p o) := ⟨fun a xs e => by
  rw [upd_ne (ne_of_none e h)]; exact e, fun a od u e => by rw [upd_ne (ne_of_none e h)]; exact e⟩
theorem Keep.upd {H : Hp} {p : Addr} {o u : HO} (h : H p = some u) (hu : (∀ xs, u ≠ .tup xs) ∧ ∀ od w, u ≠ .frz od w) : Keep H (upd H p o) := ⟨fun a xs e => by
  rw [upd_ne (ne_of e h (fun z => hu.1 xs z.symm))]; exact e, fun a od w e => by rw [upd_ne (ne_of e h (fun z => hu.2 od w z.symm))]; exact e⟩

mutual
theorem RV.monoT {μ μ' : List Addr} {H H' : Hp} (u : Up μ μ') (k : KeepT H H') : ∀ (v : Val) (x : V), RV μ H v x → RV μ' H' v x
  | .non, _, h => by cases h; exact .non
  | .bl b, _, h => by cases h; exact .bl b
  | .int i, _, h => by cases h; exact .int i
  | .str s, _, h => by cases h with | str h => exact .str h
  | .tup xs, _, h => by cases h with | tup h r => exact .tup (k _ _ h) (RVs.monoT u k xs _ r)
  | .obj i, _, h => by cases h with | obj h => exact .obj (u _ _ h)
  | .fn _ _, _, h => by cases h
theorem RVs.monoT {μ μ' : List Addr} {H H' : Hp} (u : Up μ μ') (k : KeepT H H') : ∀ (vs : List Val) (xs : List V), RVs μ H vs xs → RVs μ' H' vs xs
  | [], _, h => by cases h; exact .nil
  | v :: vs, _, h => by cases h with | cons h t => exact .cons (RV.monoT u k v _ h) (RVs.monoT u k vs _ t)
end
theorem RV.mono {μ μ' : List Addr} {H H' : Hp} (u : Up μ μ') (k : Keep H H') (v : Val) (x : V) (h : RV μ H v x) : RV μ' H' v x := RV.monoT u k.t v x h
theorem RVs.mono {μ μ' : List Addr} {H H' : Hp} (u : Up μ μ') (k : Keep H H') (vs : List Val) (xs : List V) (h : RVs μ H vs xs) : RVs μ' H' vs xs := RVs.monoT u k.t vs xs h

section
variable {μ μ' : List Addr} {H H' : Hp} {vs ws : List Val} {xs ys : List V} {v : Val} {x : V}
theorem RVs.length : ∀ {vs : List Val} {xs : List V}, RVs μ H vs xs → vs.length = xs.length
  | [], _, h => by cases h; rfl
  | _ :: _, _, h => by cases h with | cons h t => simp [RVs.length t]
theorem RVs.get : ∀ {vs : List Val} {xs : List V} {i : Nat} {v : Val}, RVs μ H vs xs → vs[i]? = some v → ∃ x, xs[i]? = some x ∧ RV μ H v x
  | [], _, _, _, _, e => by simp at e
  | w :: ws, _, 0, v, h, e => by cases h with | cons h t => simp at e; subst e; exact ⟨_, rfl, h⟩
  | w :: ws, _, i + 1, v, h, e => by
    cases h with
    | cons h t =>
      obtain ⟨x, h1, h2⟩ := RVs.get (i := i) (v := v) t (by simpa using e)
      exact ⟨x, by simpa using h1, h2⟩
theorem RVs.app : ∀ {vs ws : List Val} {xs ys : List V}, RVs μ H vs xs → RVs μ H ws ys → RVs μ H (vs ++ ws) (xs ++ ys)
  | [], _, _, _, h, k => by cases h; exact k
  | _ :: _, _, _, _, h, k => by cases h with | cons h t => exact .cons h (RVs.app t k)
theorem RVs.one (h : RV μ H v x) : RVs μ H [v] [x] := .cons h .nil
theorem RVs.drop : ∀ {vs : List Val} {xs : List V} (n : Nat), RVs μ H vs xs → RVs μ H (vs.drop n) (xs.drop n)
  | _, _, 0, h => h
  | [], _, n + 1, h => by cases h; exact .nil
  | _ :: _, _, n + 1, h => by cases h with | cons h t => exact RVs.drop n t
theorem RVs.take : ∀ {vs : List Val} {xs : List V} (n : Nat), RVs μ H vs xs → RVs μ H (vs.take n) (xs.take n)
  | _, _, 0, h => by simp; exact .nil
  | [], _, n + 1, h => by cases h; exact .nil
  | _ :: _, _, n + 1, h => by cases h with | cons h t => exact .cons h (RVs.take n t)
theorem RVs.set : ∀ {vs : List Val} {xs : List V} (i : Nat), RVs μ H vs xs → RV μ H v x → RVs μ H (vs.set i v) (xs.set i x)
  | [], _, _, h, _ => by cases h; exact .nil
  | _ :: _, _, 0, h, k => by cases h with | cons h t => exact .cons k t
  | _ :: _, _, i + 1, h, k => by cases h with | cons h t => exact .cons h (RVs.set i t k)
theorem RVs.rev : ∀ {vs : List Val} {xs : List V}, RVs μ H vs xs → RVs μ H vs.reverse xs.reverse
  | [], _, h => by cases h; exact .nil
  | _ :: _, _, h => by cases h with | cons h t => simp only [List.reverse_cons]; exact RVs.app (RVs.rev t) (.one h)
theorem RVs.erase : ∀ {vs : List Val} {xs : List V} (i : Nat), RVs μ H vs xs → RVs μ H (vs.eraseIdx i) (xs.eraseIdx i)
  | [], _, _, h => by cases h; exact .nil
  | _ :: _, _, 0, h => by cases h with | cons h t => exact t
  | _ :: _, _, i + 1, h => by cases h with | cons h t => exact .cons h (RVs.erase i t)
theorem RVs.dropLast (h : RVs μ H vs xs) : RVs μ H vs.dropLast xs.dropLast := by
  rw [List.dropLast_eq_take, List.dropLast_eq_take, h.length]; exact h.take _
theorem RVs.ints : ∀ {vs : List Val} {xs : List V} {ns : List Int}, RVs μ H vs xs → vs.mapM intOf = some ns → xs = ns.map V.int ∧ vs = ns.map Val.int
  | [], _, ns, h, e => by cases h; simp at e; subst e; exact ⟨rfl, rfl⟩
  | v :: vs, _, ns, h, e => by
    cases h with
    | cons h t =>
      rw [List.mapM_cons] at e
      cases v with
      | int i =>
        cases h
        cases e2 : vs.mapM intOf with
        | none => rw [e2] at e; simp [intOf] at e
        | some ms =>
          rw [e2] at e; simp [intOf] at e; subst e
          obtain ⟨h1, h2⟩ := RVs.ints t e2
          exact ⟨by rw [h1]; rfl, by rw [h2]; rfl⟩
      | _ => simp [intOf] at e
theorem RVs.strs : ∀ {vs : List Val} {xs : List V} {ns : List Str}, RVs μ H vs xs → vs.mapM strOf = some ns → xs = ns.map V.str ∧ vs = ns.map Val.str ∧ ∀ s ∈ ns, sOk s = true
  | [], _, ns, h, e => by cases h; simp at e; subst e; exact ⟨rfl, rfl, by simp⟩
  | v :: vs, _, ns, h, e => by
    cases h with
    | cons h t =>
      rw [List.mapM_cons] at e
      cases v with
      | str i =>
        cases h with
        | str hs =>
        cases e2 : vs.mapM strOf with
        | none => rw [e2] at e; simp [strOf] at e
        | some ms =>
          rw [e2] at e; simp [strOf] at e; subst e
          obtain ⟨h1, h2, h3⟩ := RVs.strs t e2
          exact ⟨by rw [h1]; rfl, by rw [h2]; rfl, by simpa using ⟨hs, h3⟩⟩
      | _ => simp [strOf] at e
theorem RVs.bools : ∀ {vs : List Val} {xs : List V} {ns : List Bool}, RVs μ H vs xs → vs.mapM boolOf = some ns → xs = ns.map V.bl
  | [], _, ns, h, e => by cases h; simp at e; subst e; rfl
  | v :: vs, _, ns, h, e => by
    cases h with
    | cons h t =>
      rw [List.mapM_cons] at e
      cases v with
      | bl i =>
        cases h
        cases e2 : vs.mapM boolOf with
        | none => rw [e2] at e; simp [boolOf] at e
        | some ms =>
          rw [e2] at e; simp [boolOf] at e; subst e
          rw [RVs.bools t e2]; rfl
      | _ => simp [boolOf] at e
theorem RVs.of_ints : ∀ (ns : List Int), RVs μ H (ns.map .int) (ns.map V.int)
  | [] => .nil
  | i :: r => .cons (.int i) (RVs.of_ints r)
theorem RVs.of_strs : ∀ (ns : List Str), (∀ s ∈ ns, sOk s = true) → RVs μ H (ns.map .str) (ns.map V.str)
  | [], _ => .nil
  | i :: r, h => .cons (.str (h i (by simp))) (RVs.of_strs r fun s hs => h s (by simp [hs]))
end

/-! ## dicts' pairs, attributes -/
def RKv {κ : Type} (μ : List Addr) (H : Hp) : List (κ × Val) → List (κ × V) → Prop
  | [], [] => True
  | (k, v) :: r, (k', x) :: r' => k = k' ∧ RV μ H v x ∧ RKv μ H r r'
  | _, _ => False
def kOk : Key → Bool
  | .inl _ => true
  | .inr s => sOk s
def RF (G : Cfg) (μ : List Addr) (H : Hp) : List (Nat × Val) → List (Str × V) → Prop
  | [], [] => True
  | (f, v) :: r, (s, x) :: r' => f < G.NM.length ∧ s = G.nm f ∧ RV μ H v x ∧ RF G μ H r r'
  | _, _ => False
section
variable {G : Cfg} {μ μ' : List Addr} {H H' : Hp} {κ : Type}
theorem RKv.monoT (u : Up μ μ') (k : KeepT H H') : ∀ {a : List (κ × Val)} {b : List (κ × V)}, RKv μ H a b → RKv μ' H' a b
  | [], [], _ => trivial
  | (_, v) :: _, (_, x) :: _, ⟨h1, h2, h3⟩ => ⟨h1, h2.monoT u k v x, RKv.monoT u k h3⟩
  | [], _ :: _, h => h.elim
  | _ :: _, [], h => h.elim
theorem RKv.mono (u : Up μ μ') (k : Keep H H') {a : List (κ × Val)} {b : List (κ × V)} (h : RKv μ H a b) : RKv μ' H' a b := RKv.monoT u k.t h
theorem RKv.length : ∀ {a : List (κ × Val)} {b : List (κ × V)}, RKv μ H a b → a.length = b.length
  | [], [], _ => rfl
  | (_, v) :: _, (_, x) :: _, ⟨h1, h2, h3⟩ => by simp [RKv.length h3]
  | [], _ :: _, h => h.elim
  | _ :: _, [], h => h.elim
theorem RKv.keys : ∀ {a : List (κ × Val)} {b : List (κ × V)}, RKv μ H a b → a.map (·.1) = b.map (·.1)
  | [], [], _ => rfl
  | (_, v) :: _, (_, x) :: _, ⟨h1, h2, h3⟩ => by simp [RKv.keys h3, h1]
  | [], _ :: _, h => h.elim
  | _ :: _, [], h => h.elim
variable [DecidableEq κ]
theorem RKv.look : ∀ {a : List (κ × Val)} {b : List (κ × V)} (k : κ), RKv μ H a b → (∀ v, look a k = some v → ∃ x, valV b k = some x ∧ RV μ H v x) ∧ (look a k = none → valV b k = none)
  | [], [], k, _ => ⟨fun v h => by simp [Nw.look] at h, fun _ => rfl⟩
  | (q, v) :: r, (q', x) :: r', k, ⟨h1, h2, h3⟩ => by
    subst h1
    obtain ⟨i1, i2⟩ := RKv.look k h3
    by_cases e : q = k
    · refine ⟨fun w h => ⟨x, valV_pos e, ?_⟩, fun h => ?_⟩
      · have : Nw.look ((q, v) :: r) k = some v := by simp [Nw.look, List.find?_cons, e]
        rw [this] at h; cases h; exact h2
      · have : Nw.look ((q, v) :: r) k = some v := by simp [Nw.look, List.find?_cons, e]
        rw [this] at h; cases h
    · have ez : Nw.look ((q, v) :: r) k = Nw.look r k := by simp [Nw.look, List.find?_cons, e]
      rw [ez, valV_neg e]
      exact ⟨i1, i2⟩
  | [], _ :: _, _, h => h.elim
  | _ :: _, [], _, h => h.elim
theorem RKv.map_set {k : κ} {v : Val} {x : V} (hv : RV μ H v x) : ∀ {a : List (κ × Val)} {b : List (κ × V)}, RKv μ H a b → RKv μ H (a.map fun kv => if kv.1 = k then (kv.1, v) else kv) (b.map fun kv => if kv.1 = k then (kv.1, x) else kv)
  | [], [], _ => trivial
  | (q, v') :: r, (q', x') :: r', ⟨h1, h2, h3⟩ => by
    subst h1
    simp only [List.map_cons]
    by_cases e : q = k
    · rw [if_pos e, if_pos e]; exact ⟨rfl, hv, RKv.map_set hv h3⟩
    · rw [if_neg e, if_neg e]; exact ⟨rfl, h2, RKv.map_set hv h3⟩
  | [], _ :: _, h => h.elim
  | _ :: _, [], h => h.elim
theorem RKv.app : ∀ {a a' : List (κ × Val)} {b b' : List (κ × V)}, RKv μ H a b → RKv μ H a' b' → RKv μ H (a ++ a') (b ++ b')
  | [], _, [], _, _, h => h
  | (_, _) :: _, _, (_, _) :: _, _, ⟨h1, h2, h3⟩, h => ⟨h1, h2, RKv.app h3 h⟩
  | [], _, _ :: _, _, h, _ => h.elim
  | _ :: _, _, [], _, h, _ => h.elim
theorem RKv.any {k : κ} : ∀ {a : List (κ × Val)} {b : List (κ × V)}, RKv μ H a b → (a.any fun kv => decide (kv.1 = k)) = (b.any fun kv => decide (kv.1 = k))
  | [], [], _ => rfl
  | (_, _) :: _, (_, _) :: _, ⟨h1, _, h3⟩ => by simp [h1, RKv.any h3]
  | [], _ :: _, h => h.elim
  | _ :: _, [], h => h.elim
theorem RKv.put {k : κ} {v : Val} {x : V} {a : List (κ × Val)} {b : List (κ × V)} (h : RKv μ H a b) (hv : RV μ H v x) : RKv μ H (put a k v) (putK b k x) := by
  unfold Nw.put putK
  rw [h.any]
  split
  · exact h.map_set hv
  · exact h.app ⟨rfl, hv, trivial⟩
theorem RKv.drop {k : κ} : ∀ {a : List (κ × Val)} {b : List (κ × V)}, RKv μ H a b → RKv μ H (drop a k) (dropK b k)
  | [], [], _ => trivial
  | (q, v) :: r, (q', x) :: r', ⟨h1, h2, h3⟩ => by
    subst h1
    have ih := RKv.drop (k := k) h3
    unfold Nw.drop dropK at ih ⊢
    simp only [List.filter_cons]
    by_cases e : q = k
    · simp [e]; simpa using ih
    · simp [e]; exact ⟨rfl, h2, by simpa using ih⟩
  | [], _ :: _, h => h.elim
  | _ :: _, [], h => h.elim
theorem RKv.merge : ∀ {m : List (Key × Val)} {n : List (Key × V)} {a : List (Key × Val)} {b : List (Key × V)}, RKv μ H m n → RKv μ H a b → RKv μ H (merge a m) (mergeK b n)
  | [], [], _, _, _, h => h
  | (q, v) :: r, (q', x) :: r', a, b, ⟨h1, h2, h3⟩, h => by
    subst h1
    exact RKv.merge (m := r) (n := r') h3 (h.put h2)
  | [], _ :: _, _, _, h, _ => h.elim
  | _ :: _, [], _, _, h, _ => h.elim

omit [DecidableEq κ]
theorem RF.monoT (u : Up μ μ') (k : KeepT H H') : ∀ {a : List (Nat × Val)} {b : List (Str × V)}, RF G μ H a b → RF G μ' H' a b
  | [], [], _ => trivial
  | (_, v) :: _, (_, x) :: _, ⟨h0, h1, h2, h3⟩ => ⟨h0, h1, h2.monoT u k v x, RF.monoT u k h3⟩
  | [], _ :: _, h => h.elim
  | _ :: _, [], h => h.elim
theorem RF.mono (u : Up μ μ') (k : Keep H H') {a : List (Nat × Val)} {b : List (Str × V)} (h : RF G μ H a b) : RF G μ' H' a b := RF.monoT u k.t h
theorem RF.length : ∀ {a : List (Nat × Val)} {b : List (Str × V)}, RF G μ H a b → a.length = b.length
  | [], [], _ => rfl
  | (_, v) :: _, (_, x) :: _, ⟨_, h1, h2, h3⟩ => by simp [RF.length h3]
  | [], _ :: _, h => h.elim
  | _ :: _, [], h => h.elim
theorem RF.get {f : Nat} (hf : f < G.NM.length) : ∀ {a : List (Nat × Val)} {b : List (Str × V)}, RF G μ H a b → (∀ v, fget f a = some v → ∃ x, b.lookup (G.nm f) = some x ∧ RV μ H v x) ∧ (fget f a = none → b.lookup (G.nm f) = none)
  | [], [], _ => ⟨fun v h => by simp [fget] at h, fun _ => rfl⟩
  | (g, v) :: r, (s, x) :: r', ⟨h0, h1, h2, h3⟩ => by
    subst h1
    obtain ⟨i1, i2⟩ := RF.get hf h3
    by_cases e : g = f
    · subst e
      have e2 : List.lookup (G.nm g) ((G.nm g, x) :: r') = some x := by simp [List.lookup]
      refine ⟨fun w h => ⟨x, e2, ?_⟩, fun h => ?_⟩
      · have z : fget g ((g, v) :: r) = some v := if_pos rfl
        rw [z] at h; cases h; exact h2
      · have z : fget g ((g, v) :: r) = some v := if_pos rfl
        rw [z] at h; cases h
    · have ne : G.nm f ≠ G.nm g := fun z => e (G.nm_inj h0 hf z.symm)
      have e2 : List.lookup (G.nm f) ((G.nm g, x) :: r') = List.lookup (G.nm f) r' := by
        have : (G.nm f == G.nm g) = false := beq_eq_false_iff_ne.mpr ne
        simp [List.lookup, this]
      have z : fget f ((g, v) :: r) = fget f r := if_neg e
      rw [e2, z]
      exact ⟨i1, i2⟩
  | [], _ :: _, h => h.elim
  | _ :: _, [], h => h.elim
theorem RF.put {f : Nat} (hf : f < G.NM.length) {v : Val} {x : V} (hv : RV μ H v x) : ∀ {a : List (Nat × Val)} {b : List (Str × V)}, RF G μ H a b → RF G μ H (fput f v a) (putF (G.nm f) x b)
  | [], [], _ => ⟨hf, rfl, hv, trivial⟩
  | (g, w) :: r, (s, y) :: r', ⟨h0, h1, h2, h3⟩ => by
    subst h1
    show RF G μ H (if g = f then (g, v) :: r else (g, w) :: fput f v r) (if G.nm g = G.nm f then (G.nm g, x) :: r' else (G.nm g, y) :: putF (G.nm f) x r')
    by_cases e : g = f
    · subst e
      rw [if_pos rfl, if_pos rfl]
      exact ⟨hf, rfl, hv, h3⟩
    · have ne : G.nm g ≠ G.nm f := fun z => e (G.nm_inj h0 hf z)
      rw [if_neg e, if_neg ne]
      exact ⟨h0, rfl, h2, RF.put hf hv h3⟩
  | [], _ :: _, h => h.elim
  | _ :: _, [], h => h.elim
end

/-! ## objects, the store -/
/-- a list that the object knows: the script -/
def Lk (K : PySem.W.Frag) (H : Hp) (a : Addr) (ys : List V) : Prop :=
  (∃ o, H a = some (.frz o (.lst ys))) ∨
    ∃ (o : PySem.Obj) (its : Array Value) (n : Nat), K.lookup a = some o ∧ o.cls = .type "list" ∧ o.dict = none ∧ o.data = .seq its n ∧ its.size ≤ sizeLine ∧ Vals ys its.toList
theorem Lk.sq {K : PySem.W.Frag} {H : Hp} {a : Addr} {ys : List V} (h : Lk K H a ys) : SqL K H a ys := by
  rcases h with ⟨o, h⟩ | h
  · exact .inl (.inr ⟨o, h⟩)
  · exact .inr h

def RO (G : Cfg) (μ : List Addr) (H : Hp) (a : Addr) : Obj → Prop
  | .lst false xs => ∃ ys, H a = some (.lst ys) ∧ RVs μ H xs ys
  | .lst true xs => ∃ ys, Lk G.K H a ys ∧ RVs μ H xs ys
  | .dK false kvs => ∃ ys, H a = some (.dK ys) ∧ RKv μ H kvs ys ∧ ∀ p ∈ kvs, kOk p.1 = true
  | .dK true kvs => ∃ od ys, H a = some (.frz od (.dK ys)) ∧ RKv μ H kvs ys ∧ ∀ p ∈ kvs, kOk p.1 = true
  | .dT false kvs => ∃ ys, H a = some (.dT ys) ∧ RKv μ H kvs ys ∧ ∀ p ∈ kvs, ∀ k ∈ p.1, kOk k = true
  | .dT true kvs => ∃ od ys, H a = some (.frz od (.dT ys)) ∧ RKv μ H kvs ys ∧ ∀ p ∈ kvs, ∀ k ∈ p.1, kOk k = true
  | .ins c fs => ∃ dx ys, H a = some (.ins (G.ca c) dx ys) ∧ RF G μ H fs ys

def isLk : Obj → Bool
  | .lst true _ => true
  | _ => false

structure Sim (G : Cfg) (μ : List Addr) (S : Store) (H : Hp) : Prop where
  len : μ.length = S.length
  ob : ∀ (i : Nat) o, S[i]? = some o → ∃ a, μ[i]? = some a ∧ RO G μ H a o
  inj : ∀ (i j : Nat) oi oj a, S[i]? = some oi → S[j]? = some oj → isLk oi = false → isLk oj = false → μ[i]? = some a → μ[j]? = some a → i = j

section
variable {G : Cfg} {μ μ' : List Addr} {H H' : Hp} {S : Store} {a p : Addr} {o : Obj}
/-- an unlocked object is tracked at its place, and is no tuple -/
theorem RO.there (r : RO G μ H a o) (n : isLk o = false) : ∃ ho, H a = some ho ∧ ∀ xs, ho ≠ .tup xs := by
  cases o with
  | lst l xs => cases l with
    | false => obtain ⟨ys, h, _⟩ := r; exact ⟨_, h, fun _ z => by cases z⟩
    | true => cases n
  | dK l xs => cases l with
    | false => obtain ⟨ys, h, _⟩ := r; exact ⟨_, h, fun _ z => by cases z⟩
    | true => obtain ⟨od, ys, h, _⟩ := r; exact ⟨_, h, fun _ z => by cases z⟩
  | dT l xs => cases l with
    | false => obtain ⟨ys, h, _⟩ := r; exact ⟨_, h, fun _ z => by cases z⟩
    | true => obtain ⟨od, ys, h, _⟩ := r; exact ⟨_, h, fun _ z => by cases z⟩
  | ins c fs => obtain ⟨dx, ys, h, _⟩ := r; exact ⟨_, h, fun _ z => by cases z⟩
/-- an object's description in another heap -/
theorem RO.monoT (r : RO G μ H a o) (u : Up μ μ') (k : KeepT H H') (e : ∀ ho, H a = some ho → H' a = some ho) : RO G μ' H' a o := by
  cases o with
  | lst l xs => cases l with
    | false => obtain ⟨ys, h, q⟩ := r; exact ⟨ys, e _ h, q.monoT u k⟩
    | true =>
      obtain ⟨ys, h, q⟩ := r
      refine ⟨ys, ?_, q.monoT u k⟩
      rcases h with ⟨o, h⟩ | h
      · exact .inl ⟨o, e _ h⟩
      · exact .inr h
  | dK l xs => cases l with
    | false => obtain ⟨ys, h, q, z⟩ := r; exact ⟨ys, e _ h, q.monoT u k, z⟩
    | true => obtain ⟨od, ys, h, q, z⟩ := r; exact ⟨od, ys, e _ h, q.monoT u k, z⟩
  | dT l xs => cases l with
    | false => obtain ⟨ys, h, q, z⟩ := r; exact ⟨ys, e _ h, q.monoT u k, z⟩
    | true => obtain ⟨od, ys, h, q, z⟩ := r; exact ⟨od, ys, e _ h, q.monoT u k, z⟩
  | ins c fs => obtain ⟨dx, ys, h, q⟩ := r; exact ⟨dx, ys, e _ h, q.monoT u k⟩

theorem RO.mono (r : RO G μ H a o) (u : Up μ μ') (k : Keep H H') (e : ∀ ho, H a = some ho → H' a = some ho) : RO G μ' H' a o := r.monoT u k.t e
def isFz : Obj → Bool
  | .dK true _ => true
  | .dT true _ => true
  | _ => false
theorem RO.unFz (r : RO G μ H a o) (n : isLk o = false) (z : isFz o = false) : ∃ ho, H a = some ho ∧ (∀ xs, ho ≠ .tup xs) ∧ ∀ od u, ho ≠ .frz od u := by
  cases o with
  | lst l xs => cases l with
    | false => obtain ⟨ys, h, _⟩ := r; exact ⟨_, h, (fun _ z => by cases z), fun _ _ z => by cases z⟩
    | true => cases n
  | dK l xs => cases l with
    | false => obtain ⟨ys, h, _⟩ := r; exact ⟨_, h, (fun _ z => by cases z), fun _ _ z => by cases z⟩
    | true => cases z
  | dT l xs => cases l with
    | false => obtain ⟨ys, h, _⟩ := r; exact ⟨_, h, (fun _ z => by cases z), fun _ _ z => by cases z⟩
    | true => cases z
  | ins c fs => obtain ⟨dx, ys, h, _⟩ := r; exact ⟨_, h, (fun _ z => by cases z), fun _ _ z => by cases z⟩

theorem Sim.lt (s : Sim G μ S H) {i : Nat} (h : i < S.length) : ∃ a, μ[i]? = some a := by
  have : i < μ.length := by rw [s.len]; exact h
  exact ⟨_, List.getElem?_eq_getElem this⟩
/-- nothing of ours changed -/
theorem Sim.keep (s : Sim G μ S H) (k : Keep H H') (e : ∀ b ho, H b = some ho → H' b = some ho) : Sim G μ S H' :=
  ⟨s.len, fun i o h => let ⟨a, h1, h2⟩ := s.ob i o h; ⟨a, h1, RO.mono (o := o) h2 (Up.refl _) k fun ho => e a ho⟩, s.inj⟩
/-- a new thing that is none of ours (a tuple) -/
theorem Sim.new (s : Sim G μ S H) {u : HO} (h : H p = none) : Sim G μ S (upd H p u) :=
  s.keep (Keep.new h) fun b ho e => by rw [upd_ne (ne_of_none e h)]; exact e
/-- a new object of ours -/
theorem Sim.alloc (s : Sim G μ S H) {u : HO} (h : H p = none) (n : isLk o = false) (r : RO G (μ ++ [p]) (upd H p u) p o) : Sim G (μ ++ [p]) (S ++ [o]) (upd H p u) := by
  have up := Up.app μ p
  have kp : Keep H (upd H p u) := Keep.new h
  have old : ∀ (i : Nat) q, S[i]? = some q → ∃ a, (μ ++ [p])[i]? = some a ∧ RO G (μ ++ [p]) (upd H p u) a q := fun i q e => by
    obtain ⟨a, h1, h2⟩ := s.ob i q e
    exact ⟨a, up _ _ h1, RO.mono (o := q) h2 up kp fun ho z => by rw [upd_ne (ne_of_none z h)]; exact z⟩
  have cs : ∀ (i : Nat) q, (S ++ [o])[i]? = some q → S[i]? = some q ∨ (i = S.length ∧ q = o) := fun i q e => by
    by_cases hi : i < S.length
    · rw [List.getElem?_append_left hi] at e; exact .inl e
    · rw [List.getElem?_append_right (by omega)] at e
      have hz : i - S.length = 0 := by
        by_cases hz : i - S.length = 0
        · exact hz
        · rw [List.getElem?_eq_none (by simp; omega)] at e; cases e
      rw [hz] at e; simp at e
      exact .inr ⟨by omega, e.symm⟩
  refine ⟨by simp [s.len], fun i q e => ?_, fun i j oi oj a ei ej ni nj hi hj => ?_⟩
  · rcases cs i q e with e | ⟨e1, e2⟩
    · exact old i q e
    · subst e1; subst e2
      exact ⟨p, by rw [← s.len]; simp, r⟩
  · have notnew : ∀ (k : Nat) ok, S[k]? = some ok → isLk ok = false → μ[k]? = some a → a ≠ p := fun k ok ek nk hk z => by
      obtain ⟨b, h1, h2⟩ := s.ob k ok ek
      rw [hk] at h1; cases h1
      obtain ⟨ho, h3, _⟩ := RO.there (o := ok) h2 nk
      rw [z, h] at h3; cases h3
    have back : ∀ (k : Nat) ok, S[k]? = some ok → (μ ++ [p])[k]? = some a → μ[k]? = some a := fun k ok ek hk => by
      have : k < S.length := (List.getElem?_eq_some_iff.mp ek).1
      rw [List.getElem?_append_left (by rw [s.len]; exact this)] at hk; exact hk
    rcases cs i oi ei with e1 | ⟨e1, _⟩
    · have hi' := back i oi e1 hi
      rcases cs j oj ej with e2 | ⟨e2, _⟩
      · exact s.inj i j oi oj a e1 e2 ni nj hi' (back j oj e2 hj)
      · subst e2
        rw [← s.len, List.getElem?_append_right (Nat.le_refl _)] at hj
        simp at hj
        exact absurd hj.symm (notnew i oi e1 ni hi')
    · subst e1
      have hp : a = p := by
        rw [← s.len, List.getElem?_append_right (Nat.le_refl _)] at hi
        simpa using hi.symm
      rcases cs j oj ej with e2 | ⟨e2, _⟩
      · exact absurd hp (notnew j oj e2 nj (back j oj e2 hj))
      · exact e2.symm
/-- an object of ours is changed -/
theorem Sim.putT (s : Sim G μ S H) {i : Nat} {o o' : Obj} {u : HO} (e : S[i]? = some o) (n : isLk o = false) (n' : isLk o' = false) (ha : μ[i]? = some a) (r : RO G μ (upd H a u) a o') : Sim G μ (S.set i o') (upd H a u) ∧ KeepT H (upd H a u) := by
  obtain ⟨b, h1, h2⟩ := s.ob i o e
  rw [ha] at h1; cases h1
  obtain ⟨ho, h3, h4⟩ := RO.there (o := o) h2 n
  have kp : KeepT H (upd H a u) := fun b xs e => by rw [upd_ne (ne_of e h3 (fun z => h4 xs z.symm))]; exact e
  have hl : i < S.length := (List.getElem?_eq_some_iff.mp e).1
  refine ⟨⟨by simp [s.len], fun j q ej => ?_, fun j k oj ok b ej ek nj nk hj hk => ?_⟩, kp⟩
  · by_cases hj : i = j
    · subst hj
      rw [List.getElem?_set_self hl] at ej; cases ej
      exact ⟨a, ha, r⟩
    · rw [List.getElem?_set_ne hj] at ej
      obtain ⟨b, h5, h6⟩ := s.ob j q ej
      refine ⟨b, h5, ?_⟩
      by_cases hb : b = a
      · subst hb
        by_cases nq : isLk q = false
        · exact absurd (s.inj i j o q b e ej n nq ha h5) hj
        · -- a locked one at the same place: it is of the text
          cases q with
          | lst l xs => cases l with
            | true =>
              obtain ⟨ys, h7, h8⟩ := h6
              refine ⟨ys, ?_, h8.monoT (Up.refl _) kp⟩
              rcases h7 with ⟨ob, h7⟩ | h7
              · rw [h3] at h7
                cases o with
                | lst l2 xs2 => cases l2 with
                  | false => obtain ⟨_, z, _⟩ := h2; rw [h3] at z; cases z; cases h7
                  | true => cases n
                | dK l2 xs2 => cases l2 with
                  | false => obtain ⟨_, z, _⟩ := h2; rw [h3] at z; cases z; cases h7
                  | true => obtain ⟨_, _, z, _⟩ := h2; rw [h3] at z; cases z; cases h7
                | dT l2 xs2 => cases l2 with
                  | false => obtain ⟨_, z, _⟩ := h2; rw [h3] at z; cases z; cases h7
                  | true => obtain ⟨_, _, z, _⟩ := h2; rw [h3] at z; cases z; cases h7
                | ins c fs => obtain ⟨_, _, z, _⟩ := h2; rw [h3] at z; cases z; cases h7
              · exact .inr h7
            | false => exact absurd rfl nq
          | _ => exact absurd rfl nq
      · exact RO.monoT (o := q) h6 (Up.refl _) kp fun ho z => by rw [upd_ne hb]; exact z
  · have old : ∀ (m : Nat) om, (S.set i o')[m]? = some om → isLk om = false → ∃ om', S[m]? = some om' ∧ isLk om' = false := fun m om em nm => by
      by_cases hm : i = m
      · subst hm; exact ⟨o, e, n⟩
      · rw [List.getElem?_set_ne hm] at em; exact ⟨om, em, nm⟩
    obtain ⟨oj', e1, n1⟩ := old j oj ej nj
    obtain ⟨ok', e2, n2⟩ := old k ok ek nk
    exact s.inj j k oj' ok' b e1 e2 n1 n2 hj hk
theorem Sim.put (s : Sim G μ S H) {i : Nat} {o o' : Obj} {u : HO} (e : S[i]? = some o) (n : isLk o = false) (n' : isLk o' = false) (ha : μ[i]? = some a) (r : RO G μ (upd H a u) a o') (nz : isFz o = false := by rfl) : Sim G μ (S.set i o') (upd H a u) ∧ Keep H (upd H a u) := by
  obtain ⟨s1, _⟩ := s.putT e n n' ha r
  obtain ⟨b, h1, h2⟩ := s.ob i o e
  rw [ha] at h1; cases h1
  obtain ⟨ho, h3, h4⟩ := RO.unFz (o := o) h2 n nz
  exact ⟨s1, Keep.upd h3 h4⟩
end

/-! ## the frame's names -/
structure REnv (μ : List Addr) (H : Hp) (env : Env) (σ : St) : Prop where
  len : env.length = σ.length
  at_ : ∀ (i : Nat) v, env[i]? = some (some v) → ∃ x, σ[i]? = some (some x) ∧ RV μ H v x
section
variable {μ μ' : List Addr} {H H' : Hp} {env : Env} {σ : St}
theorem REnv.monoT (r : REnv μ H env σ) (u : Up μ μ') (k : KeepT H H') : REnv μ' H' env σ :=
  ⟨r.len, fun i v e => let ⟨x, h1, h2⟩ := r.at_ i v e; ⟨x, h1, h2.monoT u k v x⟩⟩
theorem REnv.mono (r : REnv μ H env σ) (u : Up μ μ') (k : Keep H H') : REnv μ' H' env σ := r.monoT u k.t
theorem REnv.set (r : REnv μ H env σ) {i : Nat} {v : Val} {x : V} (h : RV μ H v x) : REnv μ H (env.set i (some v)) (σ.set i (some x)) := by
  refine ⟨by simp [r.len], fun j w e => ?_⟩
  by_cases hj : i = j
  · subst hj
    have hl : i < env.length := by
      have := (List.getElem?_eq_some_iff.mp e).1
      simpa using this
    rw [List.getElem?_set_self hl] at e
    cases e
    exact ⟨x, List.getElem?_set_self (by rw [← r.len]; exact hl), h⟩
  · rw [List.getElem?_set_ne hj] at e
    rw [List.getElem?_set_ne hj]
    exact r.at_ j w e
theorem REnv.clear (r : REnv μ H env σ) {i : Nat} : REnv μ H (env.set i none) (σ.set i none) := by
  refine ⟨by simp [r.len], fun j w e => ?_⟩
  by_cases hj : i = j
  · subst hj
    by_cases hl : i < env.length
    · rw [List.getElem?_set_self hl] at e; cases e
    · rw [List.getElem?_eq_none (by simp; omega)] at e; cases e
  · rw [List.getElem?_set_ne hj] at e
    rw [List.getElem?_set_ne hj]
    exact r.at_ j w e
end

/-! ## readings -/
/-- an exception as it lies behind -/
def RX (G : Cfg) (μ : List Addr) (H : Hp) (e : Exn) (d : Option Addr) : Prop :=
  (e.fs = [] ∧ d = none) ∨ ∃ a ys, d = some a ∧ H a = some (.xd ys) ∧ RF G μ H e.fs ys
def After {α : Type} (G : Cfg) (W : WX) (σ : St) (μ : List Addr) (H : Hp) (r : Res α) (k : α → List Addr → Store → Hp → Prop) : Prop :=
  match r with
  | .ok a S => ∀ μ' H', Up μ μ' → Keep H H' → Sim G μ' S H' → k a μ' S H'
  | .ex e S => ∀ μ' H' d, Up μ μ' → Keep H H' → Sim G μ' S H' → RX G μ' H' e d → W (.ref (G.ca e.c)) d σ H'
  | .no => False
section
variable {α β : Type} {G : Cfg} {W : WX} {σ : St} {μ μ1 : List Addr} {H H1 : Hp} {r : Res α} {k : α → List Addr → Store → Hp → Prop}
theorem After.later (h : After G W σ μ H r k) (u : Up μ μ1) (kp : Keep H H1) : After G W σ μ1 H1 r k := by
  cases r with
  | ok a S => exact fun μ' H' u' k' s => h μ' H' (u.trans u') (kp.trans k') s
  | ex e S => exact fun μ' H' d u' k' s => h μ' H' d (u.trans u') (kp.trans k') s
  | no => exact h
theorem After.bind {f : α → Store → Res β} {k : β → List Addr → Store → Hp → Prop} (h : After G W σ μ H (r.bind f) k) : After G W σ μ H r fun a μ' S' H' => After G W σ μ' H' (f a S') k := by
  cases r with
  | ok a S => exact fun μ' H' u' k' s => After.later (r := f a S) h u' k'
  | ex e S => exact h
  | no => exact h
theorem After.imp {k' : α → List Addr → Store → Hp → Prop} (h : After G W σ μ H r k) (i : ∀ a μ' S' H', Up μ μ' → Keep H H' → Sim G μ' S' H' → k a μ' S' H' → k' a μ' S' H') : After G W σ μ H r k' := by
  cases r with
  | ok a S => exact fun μ' H' u k s => i a μ' S H' u k s (h μ' H' u k s)
  | ex e S => exact h
  | no => exact h
end
abbrev Kv (Q : VK) : Val → List Addr → Store → Hp → Prop := fun v μ _ H => ∀ x, RV μ H v x → Q x H
def lift (G : Cfg) (W : WX) (m : Env → Store → Res Val) : TE := fun σ H Q => ∃ μ env S, Sim G μ S H ∧ REnv μ H env σ ∧ After G W σ μ H (m env S) (Kv Q)
def liftA (G : Cfg) (W : WX) (m : Env → Store → Res (List Val)) : TA := fun σ H Q => ∃ μ env S, Sim G μ S H ∧ REnv μ H env σ ∧ After G W σ μ H (m env S) fun vs μ' _ H' => ∀ xs, RVs μ' H' vs xs → Q xs H'
/-- as a test -/
def tst (m : Env → Store → Res Val) : Env → Store → Res Bool := fun env S => (m env S).bind fun v S1 => Res.ofO (tru S1 v) S1
def liftT (G : Cfg) (W : WX) (m : Env → Store → Res Bool) : TT := fun σ H Q => ∃ μ env S, Sim G μ S H ∧ REnv μ H env σ ∧ After G W σ μ H (m env S) fun b _ _ H' => Q b H'
def AfterO (G : Cfg) (W : WX) (μ : List Addr) (H : Hp) (o : Out) (D : Ends) : Prop :=
  match o with
  | .nx e S => ∀ μ' H' σ', Up μ μ' → Keep H H' → Sim G μ' S H' → REnv μ' H' e σ' → D.nx σ' H'
  | .rt v S => ∀ μ' H' x, Up μ μ' → Keep H H' → Sim G μ' S H' → RV μ' H' v x → D.rt x H'
  | .bk e S => ∀ μ' H' σ', Up μ μ' → Keep H H' → Sim G μ' S H' → REnv μ' H' e σ' → D.bk σ' H'
  | .ct e S => ∀ μ' H' σ', Up μ μ' → Keep H H' → Sim G μ' S H' → REnv μ' H' e σ' → D.ct σ' H'
  | .ex x e S => ∀ μ' H' σ' d, Up μ μ' → Keep H H' → Sim G μ' S H' → REnv μ' H' e σ' → RX G μ' H' x d → W (.ref (G.ca x.c)) d σ' H'
  | .no => False
def liftS (G : Cfg) (W : WX) (m : Env → Store → Out) : TS := fun D σ H => ∃ μ env S, Sim G μ S H ∧ REnv μ H env σ ∧ AfterO G W μ H (m env S) D
theorem AfterO.later {G : Cfg} {W : WX} {μ μ1 : List Addr} {H H1 : Hp} {o : Out} {D : Ends} (h : AfterO G W μ H o D) (u : Up μ μ1) (k : Keep H H1) : AfterO G W μ1 H1 o D := by
  cases o with
  | nx e S => exact fun μ' H' σ' u' k' => h μ' H' σ' (u.trans u') (k.trans k')
  | rt v S => exact fun μ' H' x u' k' => h μ' H' x (u.trans u') (k.trans k')
  | bk e S => exact fun μ' H' σ' u' k' => h μ' H' σ' (u.trans u') (k.trans k')
  | ct e S => exact fun μ' H' σ' u' k' => h μ' H' σ' (u.trans u') (k.trans k')
  | ex x e S => exact fun μ' H' σ' d u' k' => h μ' H' σ' d (u.trans u') (k.trans k')
  | no => exact h

theorem _root_.L2.PE.imp {X : Cx} {e : Expr} {t t' : TE} (h : PE X e t) (i : ∀ σ H Q, t' σ H Q → t σ H Q) : PE X e t' := ⟨fun pins s σ H Q I q => h.run pins s σ H Q I (i σ H Q q)⟩
theorem _root_.L2.PT.imp {X : Cx} {e : Expr} {t t' : TT} (h : PT X e t) (i : ∀ σ H Q, t' σ H Q → t σ H Q) : PT X e t' := ⟨fun pins s σ H Q I q => h.run pins s σ H Q I (i σ H Q q)⟩
theorem _root_.L2.PW.imp {X : Cx} {e : Expr} {t t' : TT} (h : PW X e t) (i : ∀ σ H Q, t' σ H Q → t σ H Q) : PW X e t' := ⟨fun wh pins s σ H Q I q => h.run wh pins s σ H Q I (i σ H Q q)⟩
theorem _root_.L2.PA.imp {X : Cx} {e : List Expr} {t t' : TA} (h : PA X e t) (i : ∀ σ H Q, t' σ H Q → t σ H Q) : PA X e t' := ⟨fun pos pins s σ H Q I q => h.run pos pins s σ H Q I (i σ H Q q)⟩
theorem _root_.L2.PS.imp {X : Cx} {e : Stmt} {t t' : TS} (h : PS X e t) (i : ∀ D σ H, t' D σ H → t D σ H) : PS X e t' := ⟨fun pins s σ H D I q => h.run pins s σ H D I (i D σ H q)⟩
theorem _root_.L2.PSs.imp {X : Cx} {e : List Stmt} {t t' : TS} (h : PSs X e t) (i : ∀ D σ H, t' D σ H → t D σ H) : PSs X e t' := ⟨fun pins s σ H D I q => h.run pins s σ H D I (i D σ H q)⟩
theorem _root_.L2.PE.or {X : Cx} {e : Expr} {t t' : TE} (h : PE X e t) (h' : PE X e t') : PE X e (fun σ H Q => t σ H Q ∨ t' σ H Q) := ⟨fun pins s σ H Q I q => q.elim (h.run pins s σ H Q I) (h'.run pins s σ H Q I)⟩
/-- any of many readings -/
theorem _root_.L2.PE.any {X : Cx} {e : Expr} {ι : Type} {t : ι → TE} (h : ∀ i, PE X e (t i)) : PE X e (fun σ H Q => ∃ i, t i σ H Q) := ⟨fun pins s σ H Q I ⟨i, q⟩ => (h i).run pins s σ H Q I q⟩
end Nw

set_option Elab.async false
set_option linter.all false
set_option maxRecDepth 100000
set_option maxHeartbeats 1000000
namespace Nw
open PySem L2
section
open PySem.Spec PyProof.Rows
/-! tuple * int, a number below 2 -/
theorem tuple_mul0 (l : Addr) (items : Array Value) (n : Nat) (dd : Option Addr) (sl : Array (Option Value)) (x : Int) (u : Tok) (c0 : (decide (x < -(2 ^ 63)) || decide (x ≥ 2 ^ 63)) = false) (c1 : (items.isEmpty || x == 1) = false) (c2 : (decide (x ≤ 0) || items.isEmpty) = true) :
    Meets (Builtin.«tuple.__mul__» ⟨[.ref l, .int x u], []⟩) (fun _ R s => s.heap.get? l = some { cls := .type "tuple", dict := dd, data := .seq items n, slots := sl } ∧
      R (.ok (.ret (Value.ref s.heap.objs.size))) { s with heap := s.heap.push { cls := Value.type "tuple", data := Data.seq #[] }, toks := s.toks }) :=
  .of_wp fun prog w A R s h => by
    obtain ⟨hp, g, d, tk, os⟩ := s
    obtain ⟨hl, h⟩ := h
    have f1 := AutoSeq1.idx_int
    wp_walk using wpAny_loadPart' hl
    repeat (first
      | (refine wpAny_ite_false (decide_eq_false (by rw [c0]; exact Bool.false_ne_true)) ?_; wp_walk using wpAny_loadPart' hl)
      | (refine wpAny_ite_false (decide_eq_false (by rw [c1]; exact Bool.false_ne_true)) ?_; wp_walk using wpAny_loadPart' hl)
      | (refine wpAny_ite_true (decide_eq_true c2) ?_; wp_walk using wpAny_loadPart' hl))
    exact ⟨_, rfl, h⟩
theorem tuple_mul1 (l : Addr) (items : Array Value) (n : Nat) (dd : Option Addr) (sl : Array (Option Value)) (x : Int) (u : Tok) (c0 : (decide (x < -(2 ^ 63)) || decide (x ≥ 2 ^ 63)) = false) (c1 : (items.isEmpty || x == 1) = true) :
    Meets (Builtin.«tuple.__mul__» ⟨[.ref l, .int x u], []⟩) (fun _ R s => s.heap.get? l = some { cls := .type "tuple", dict := dd, data := .seq items n, slots := sl } ∧
      R (.ok (.ret (Value.ref l))) s) :=
  .of_wp fun prog w A R s h => by
    obtain ⟨hp, g, d, tk, os⟩ := s
    obtain ⟨hl, h⟩ := h
    have f1 := AutoSeq1.idx_int
    wp_walk using wpAny_loadPart' hl
    repeat (first
      | (refine wpAny_ite_false (decide_eq_false (by rw [c0]; exact Bool.false_ne_true)) ?_; wp_walk using wpAny_loadPart' hl)
      | (refine wpAny_ite_true (decide_eq_true c1) ?_; wp_walk using wpAny_loadPart' hl))
    exact ⟨_, rfl, h⟩
def rRepS (K : PySem.W.Frag) : R2 := fun x y H Q => ∃ l k xs, x = .ref l ∧ y = .int k ∧ SqT K H l xs ∧ xs ≠ [] ∧ -1000 ≤ k ∧ (k = 1 ∧ Q (.ref l) H ∨ k ≤ 0 ∧ ∀ p, H p = none → Q (.ref p) (upd H p (.tup [])))
theorem op_repS {X : Cx} : OpR X (binaryOp .Mult) (rRepS X.K) := by
  intro pins s σ H x y v u Q I rx ry h
  obtain ⟨l, k, xs, rfl, rfl, hT, hne, h1, q⟩ := h
  cases rx
  obtain ⟨t, rfl⟩ := ry
  obtain ⟨its, r, ⟨⟨cls, dd, data, sl⟩, ho, hc, n, hd⟩, hs⟩ := I.tuple hT
  simp only at hc hd
  subst hc hd
  have hle : its.length = xs.length := r.length.symm
  have hn : its ≠ [] := fun e => hne (by
    rw [e] at hle
    exact List.eq_nil_of_length_eq_zero hle.symm)
  have hi : its.toArray.isEmpty = false := by
    cases its with
    | nil => exact absurd rfl hn
    | cons a b => rfl
  have c0 : (decide (k < -(2 ^ 63)) || decide (k ≥ 2 ^ 63)) = false := by
    rw [decide_eq_false (by omega), decide_eq_false (by omega)] <;> rfl
  rcases q with ⟨e, q⟩ | ⟨e, q⟩
  · have c1 : (its.toArray.isEmpty || k == 1) = true := by rw [e]; simp
    refine wpAny_binaryOp_repeat_ref (T := "tuple") (U := "int") (by decide) ⟨_, ho, rfl⟩ (fun s' => typeIs_int s' k t) noFill_tuple_mul F.fills_int_mul F.slot_int_rmul repeat_tuple F.slot_int_index.lookup
      (call_meets F.slot_int_rmul (typeIs_int s k t) F.entry_int_rmul (F.args_int_rmul_2 _ _) (int_rmul_tuple k t l its.toArray n dd sl)
        ⟨ho, rfl, ⟨_, ho, rfl⟩, call_meets F.slot_tuple_mul ⟨_, ho, rfl⟩ F.entry_tuple_mul (F.args_tuple_mul_2 _ _) (tuple_mul1 l its.toArray n dd sl k t c0 c1) ⟨ho, ?_⟩⟩)
    exact ⟨.ref l, H, I, rfl, q⟩
  · have c1 : (its.toArray.isEmpty || k == 1) = false := by
      rw [hi, Bool.false_or]
      exact beq_eq_false_iff_ne.mpr (by omega)
    have c2 : (decide (k ≤ 0) || its.toArray.isEmpty) = true := by rw [decide_eq_true e]; rfl
    refine wpAny_binaryOp_repeat_ref (T := "tuple") (U := "int") (by decide) ⟨_, ho, rfl⟩ (fun s' => typeIs_int s' k t) noFill_tuple_mul F.fills_int_mul F.slot_int_rmul repeat_tuple F.slot_int_index.lookup
      (call_meets F.slot_int_rmul (typeIs_int s k t) F.entry_int_rmul (F.args_int_rmul_2 _ _) (int_rmul_tuple k t l its.toArray n dd sl)
        ⟨ho, rfl, ⟨_, ho, rfl⟩, call_meets F.slot_tuple_mul ⟨_, ho, rfl⟩ F.entry_tuple_mul (F.args_tuple_mul_2 _ _) (tuple_mul0 l its.toArray n dd sl k t c0 c1 c2) ⟨ho, ?_⟩⟩)
    refine ⟨.ref s.heap.objs.size, _, I.laid (t' := s.toks) (o := .tup []) (fun b ob q => Heap.get?_push_of_some _ q) (Nat.le_refl _) ?_, rfl, q _ (I.hok.fresh (Nat.le_refl _))⟩
    exact ⟨Nat.zero_le _, [], .nil, IsTup.new _ _⟩
end

section
variable {α β : Type} {G : Cfg} {W : WX} {X : Cx} {σ : St} {μ : List Addr} {H : Hp} {S : Store} {Q : VK}

theorem After.here {v : α} {k : α → List Addr → Store → Hp → Prop} (h : After G W σ μ H (.ok v S) k) (s : Sim G μ S H) : k v μ S H := h μ H (Up.refl _) (Keep.refl _) s
/-- a value that is there already -/
theorem After.val {v : Val} {x : V} (h : After G W σ μ H (.ok v S) (Kv Q)) (s : Sim G μ S H) (r : RV μ H v x) : Q x H := h.here s x r
theorem After.ofO {o : Option α} {k : α → List Addr → Store → Hp → Prop} (h : After G W σ μ H (Res.ofO o S) k) : ∃ v, o = some v ∧ After G W σ μ H (.ok v S) k := by
  cases o with
  | none => exact h.elim
  | some v => exact ⟨v, rfl, h⟩
/-- a new object of ours -/
theorem After.alloc {o : Obj} {u : HO} {p : Addr} (h : After G W σ μ H (.ok (.obj S.length) (S ++ [o])) (Kv Q)) (s : Sim G μ S H) (hp : H p = none) (n : isLk o = false) (r : RO G (μ ++ [p]) (upd H p u) p o) : Q (.ref p) (upd H p u) := by
  refine h (μ ++ [p]) (upd H p u) (Up.app _ _) (Keep.new hp) (s.alloc hp n r) _ (.obj ?_)
  rw [← s.len]; simp
theorem After.lst {xs : List Val} {ys : List V} {p : Addr} (h : After G W σ μ H (.ok (.obj S.length) (S ++ [.lst false xs])) (Kv Q)) (s : Sim G μ S H) (r : RVs μ H xs ys) (hp : H p = none) : Q (.ref p) (upd H p (.lst ys)) :=
  h.alloc s hp rfl ⟨ys, upd_same, r.mono (Up.app _ _) (Keep.new hp)⟩
theorem After.tup {xs : List Val} {ys : List V} {p : Addr} (h : After G W σ μ H (.ok (.tup xs) S) (Kv Q)) (s : Sim G μ S H) (r : RVs μ H xs ys) (hp : H p = none) : Q (.ref p) (upd H p (.tup ys)) :=
  h μ (upd H p (.tup ys)) (Up.refl _) (Keep.new hp) (s.new hp) _ (.tup upd_same (r.mono (Up.refl _) (Keep.new hp)))
/-- an object of ours is changed, a value told -/
theorem After.put {i : Nat} {o o' : Obj} {u : HO} {a : Addr} {v : Val} {x : V} (h : After G W σ μ H (.ok v (S.set i o')) (Kv Q)) (s : Sim G μ S H) (e : S[i]? = some o) (n : isLk o = false) (n' : isLk o' = false) (ha : μ[i]? = some a) (r : RO G μ (upd H a u) a o') (rv : RV μ H v x) (nz : isFz o = false := by rfl) : Q x (upd H a u) := by
  obtain ⟨s', k⟩ := s.put e n n' ha r nz
  exact h μ _ (Up.refl _) k s' x (rv.mono (Up.refl _) k)
/-- .. a list -/
theorem Sim.lst (s : Sim G μ S H) {i : Nat} {xs : List Val} (e : S[i]? = some (.lst false xs)) : ∃ a ys, μ[i]? = some a ∧ H a = some (.lst ys) ∧ RVs μ H xs ys := by
  obtain ⟨a, h1, ys, h2, h3⟩ := s.ob i _ e
  exact ⟨a, ys, h1, h2, h3⟩
theorem Sim.lstR (s : Sim G μ S H) {i : Nat} {l : Bool} {xs : List Val} (e : S[i]? = some (.lst l xs)) : ∃ a ys, μ[i]? = some a ∧ SqL G.K H a ys ∧ RVs μ H xs ys := by
  obtain ⟨a, h1, h2⟩ := s.ob i _ e
  cases l with
  | false => obtain ⟨ys, h2, h3⟩ := h2; exact ⟨a, ys, h1, SqL.of h2, h3⟩
  | true => obtain ⟨ys, h2, h3⟩ := h2; exact ⟨a, ys, h1, h2.sq, h3⟩
theorem Sim.dK (s : Sim G μ S H) {i : Nat} {kvs : List (Key × Val)} (e : S[i]? = some (.dK false kvs)) : ∃ a ys, μ[i]? = some a ∧ H a = some (.dK ys) ∧ RKv μ H kvs ys ∧ ∀ p ∈ kvs, kOk p.1 = true := by
  obtain ⟨a, h1, ys, h2, h3⟩ := s.ob i _ e
  exact ⟨a, ys, h1, h2, h3⟩
theorem Sim.dT (s : Sim G μ S H) {i : Nat} {kvs : List (List Key × Val)} (e : S[i]? = some (.dT false kvs)) : ∃ a ys, μ[i]? = some a ∧ H a = some (.dT ys) ∧ RKv μ H kvs ys ∧ ∀ p ∈ kvs, ∀ k ∈ p.1, kOk k = true := by
  obtain ⟨a, h1, ys, h2, h3⟩ := s.ob i _ e
  exact ⟨a, ys, h1, h2, h3⟩
theorem Sim.dKR (s : Sim G μ S H) {i : Nat} {l : Bool} {kvs : List (Key × Val)} (e : S[i]? = some (.dK l kvs)) : ∃ a ys, μ[i]? = some a ∧ Rd H a (.dK ys) ∧ RKv μ H kvs ys ∧ ∀ p ∈ kvs, kOk p.1 = true := by
  obtain ⟨a, h1, h2⟩ := s.ob i _ e
  cases l with
  | false => obtain ⟨ys, h2, h3⟩ := h2; exact ⟨a, ys, h1, .inl h2, h3⟩
  | true => obtain ⟨od, ys, h2, h3⟩ := h2; exact ⟨a, ys, h1, .inr ⟨od, h2⟩, h3⟩
theorem Sim.dTR (s : Sim G μ S H) {i : Nat} {l : Bool} {kvs : List (List Key × Val)} (e : S[i]? = some (.dT l kvs)) : ∃ a ys, μ[i]? = some a ∧ Rd H a (.dT ys) ∧ RKv μ H kvs ys ∧ ∀ p ∈ kvs, ∀ k ∈ p.1, kOk k = true := by
  obtain ⟨a, h1, h2⟩ := s.ob i _ e
  cases l with
  | false => obtain ⟨ys, h2, h3⟩ := h2; exact ⟨a, ys, h1, .inl h2, h3⟩
  | true => obtain ⟨od, ys, h2, h3⟩ := h2; exact ⟨a, ys, h1, .inr ⟨od, h2⟩, h3⟩
theorem Sim.ins (s : Sim G μ S H) {i c : Nat} {fs : List (Nat × Val)} (e : S[i]? = some (.ins c fs)) : ∃ a dx ys, μ[i]? = some a ∧ H a = some (.ins (G.ca c) dx ys) ∧ RF G μ H fs ys := by
  obtain ⟨a, h1, dx, ys, h2, h3⟩ := s.ob i _ e
  exact ⟨a, dx, ys, h1, h2, h3⟩
/-- keys -/
theorem key_rel {v : Val} {x : V} {k : Key} (r : RV μ H v x) (e : keyOf v = some k) : x = kV k ∧ v = keyV k ∧ kOk k = true := by
  cases v with
  | int i => cases r; simp [keyOf] at e; subst e; exact ⟨rfl, rfl, rfl⟩
  | str i => cases r with | str h => simp [keyOf] at e; subst e; exact ⟨rfl, rfl, h⟩
  | _ => simp [keyOf] at e
theorem keys_rel : ∀ {vs : List Val} {xs : List V} {ks : List Key}, RVs μ H vs xs → vs.mapM keyOf = some ks → xs = ks.map kV ∧ vs = ks.map keyV ∧ ∀ k ∈ ks, kOk k = true
  | [], _, ns, h, e => by cases h; simp at e; subst e; exact ⟨rfl, rfl, by simp⟩
  | v :: vs, _, ns, h, e => by
    cases h with
    | cons h t =>
      rw [List.mapM_cons] at e
      cases e1 : keyOf v with
      | none => rw [e1] at e; simp at e
      | some k =>
        cases e2 : vs.mapM keyOf with
        | none => rw [e1, e2] at e; simp at e
        | some ms =>
          rw [e1, e2] at e; simp at e; subst e
          obtain ⟨h1, h2, h3⟩ := keys_rel t e2
          obtain ⟨k1, k2, k3⟩ := key_rel h e1
          exact ⟨by rw [h1, k1]; rfl, by rw [h2, k2]; rfl, by simpa using ⟨k3, h3⟩⟩
theorem keysT_rel {v : Val} {x : V} {ks : List Key} (r : RV μ H v x) (e : keysOf v = some ks) : ∃ b, x = .ref b ∧ H b = some (.tup (ks.map kV)) ∧ ∀ k ∈ ks, kOk k = true := by
  cases v with
  | tup xs =>
    cases r with
    | tup h t =>
      obtain ⟨h1, h2, h3⟩ := keys_rel t e
      exact ⟨_, rfl, by rw [h, h1], h3⟩
  | _ => simp [keysOf] at e
theorem RV.key {k : Key} (h : kOk k = true) : RV μ H (keyV k) (kV k) := by
  cases k with
  | inl i => exact .int i
  | inr s => exact .str h

/-! ## parts -/
theorem one {m : Env → Store → Res Val} {f : Val → Env → Store → Res α} {k : α → List Addr → Store → Hp → Prop}
    (h : ∃ μ env S, Sim G μ S H ∧ REnv μ H env σ ∧ After G W σ μ H ((m env S).bind fun x S1 => f x env S1) k) :
    lift G W m σ H fun x' H1 => ∃ μ env x S, Sim G μ S H1 ∧ REnv μ H1 env σ ∧ RV μ H1 x x' ∧ After G W σ μ H1 (f x env S) k := by
  obtain ⟨μ, env, S, s, e, h⟩ := h
  exact ⟨μ, env, S, s, e, h.bind.imp fun x μ1 S1 H1 u1 k1 s1 h1 x' rx => ⟨μ1, env, x, S1, s1, e.mono u1 k1, rx, h1⟩⟩
theorem oneA {m : Env → Store → Res (List Val)} {f : List Val → Env → Store → Res α} {k : α → List Addr → Store → Hp → Prop}
    (h : ∃ μ env S, Sim G μ S H ∧ REnv μ H env σ ∧ After G W σ μ H ((m env S).bind fun x S1 => f x env S1) k) :
    liftA G W m σ H fun xs H1 => ∃ μ env vs S, Sim G μ S H1 ∧ REnv μ H1 env σ ∧ RVs μ H1 vs xs ∧ After G W σ μ H1 (f vs env S) k := by
  obtain ⟨μ, env, S, s, e, h⟩ := h
  exact ⟨μ, env, S, s, e, h.bind.imp fun x μ1 S1 H1 u1 k1 s1 h1 x' rx => ⟨μ1, env, x, S1, s1, e.mono u1 k1, rx, h1⟩⟩
theorem two {ma mb : Env → Store → Res Val} {f : Val → Val → Env → Store → Res α} {k : α → List Addr → Store → Hp → Prop}
    (h : ∃ μ env S, Sim G μ S H ∧ REnv μ H env σ ∧ After G W σ μ H ((ma env S).bind fun x S1 => (mb env S1).bind fun y S2 => f x y env S2) k) :
    lift G W ma σ H fun x' H1 => lift G W mb σ H1 fun y' H2 => ∃ μ env x y S, Sim G μ S H2 ∧ REnv μ H2 env σ ∧ RV μ H2 x x' ∧ RV μ H2 y y' ∧ After G W σ μ H2 (f x y env S) k := by
  obtain ⟨μ, env, S, s, e, h⟩ := h
  exact ⟨μ, env, S, s, e, h.bind.imp fun x μ1 S1 H1 u1 k1 s1 h1 x' rx => ⟨μ1, env, S1, s1, e.mono u1 k1, h1.bind.imp fun y μ2 S2 H2 u2 k2 s2 h2 y' ry =>
    ⟨μ2, env, x, y, S2, s2, (e.mono u1 k1).mono u2 k2, rx.mono u2 k2 _ _, ry, h2⟩⟩⟩
theorem lift_mono {m : Env → Store → Res Val} {Q' : VK} (h : lift G W m σ H Q) (i : ∀ x H1, Q x H1 → Q' x H1) : lift G W m σ H Q' := by
  obtain ⟨μ, env, S, s, e, h⟩ := h
  exact ⟨μ, env, S, s, e, h.imp fun x μ1 S1 H1 u1 k1 s1 h1 x' rx => i _ _ (h1 x' rx)⟩

/-! ## names, constants -/
def cOk : Val → Bool
  | .str s => sOk s
  | .non => true
  | .bl _ => true
  | .int _ => true
  | _ => false
def cV : Val → V
  | .str s => .str s
  | .non => .non
  | .bl b => .bl b
  | .int i => .int i
  | _ => .non
theorem cV_rel {v : Val} (h : cOk v = true) : RV μ H v (cV v) := by
  cases v with
  | str s => exact .str h
  | non => exact .non
  | bl b => exact .bl b
  | int i => exact .int i
  | _ => cases h
theorem de_c {e : Expr} {v : Val} (hv : cOk v = true) (h : PE X e (tC (cV v))) : PE X e (lift G W fun _ S => .ok v S) :=
  h.imp fun σ H Q ⟨μ, env, S, s, r, q⟩ => q.val s (cV_rel hv)
theorem de_var {e : Expr} {i : Nat} {G' : Tab} {ft : Fns} (h : PE X e (tVar i)) : PE X e (lift G W (ev G' ft (.var i))) := by
  refine h.imp fun σ H Q ⟨μ, env, S, s, r, q⟩ => ?_
  rw [ev] at q
  obtain ⟨v, e, q⟩ := q.ofO
  obtain ⟨x, h1, h2⟩ := r.at_ i v (by
    cases z : env[i]? with
    | none => rw [z] at e; cases e
    | some o => rw [z] at e; simp at e; rw [e])
  exact ⟨x, h1, q.val s h2⟩

/-! ## two-place operators -/
theorem natAbs64 {i : Int} (h : i.natAbs < 2 ^ 64) : -(2 ^ 64) < i ∧ i < 2 ^ 64 := by
  have : (2 : Nat) ^ 64 = 18446744073709551616 := by decide
  omega
theorem line_eq : line = sizeLine := by rw [sizeLine_eq]; rfl

/-- what stands at a two-place operation -/
def St2 (X : Cx) (f : Store → Val → Val → Res Val) : R2 := fun x y H Q => ∃ (G : Cfg) (W : WX) (σ : St) (μ : List Addr) (v w : Val) (S : Store), G.K = X.K ∧ Sim G μ S H ∧ RV μ H v x ∧ RV μ H w y ∧ After G W σ μ H (f S v w) (Kv Q)
theorem sOk_app {a b : Str} (h1 : sOk a = true) (h2 : sOk b = true) : sOk (a ++ b) = true := by
  unfold sOk at h1 h2 ⊢
  show ((a.cps ++ b.cps).all _) = true
  rw [Array.all_append, h1, h2]; rfl
theorem RVs.nil_iff {xs : List Val} {ys : List V} (h : RVs μ H xs ys) : xs = [] ↔ ys = [] := by
  cases h <;> simp
theorem bin_add : OpR X (binaryOp .Add) (St2 X addV) := by
  intro pins s σ H x y u w Q I ru rw_ h
  refine ((op_add.or op_add_str).or (op_catA.or op_cat)) pins s σ H x y u w Q I ru rw_ ?_
  obtain ⟨G, W, σ', μ, v, w', S, hK, sm, r1, r2, h⟩ := h
  unfold addV at h
  split at h
  case h_1 i j => cases r1; cases r2; exact .inl (.inl ⟨_, _, rfl, rfl, h.val sm (.int _)⟩)
  case h_2 a b =>
    cases r1 with
    | str h1 =>
    cases r2 with
    | str h2 =>
    split at h
    · rename_i hl
      exact .inl (.inr ⟨_, _, rfl, rfl, by rw [← line_eq]; exact hl, h.val sm (.str (sOk_app h1 h2))⟩)
    · exact h.elim
  case h_3 xs ys =>
    cases r1 with
    | tup h1 t1 =>
    cases r2 with
    | tup h2 t2 =>
    split at h
    · rename_i hl
      refine .inr (.inl ⟨_, _, _, _, rfl, rfl, SqT.of h1, SqT.of h2, by rw [← line_eq, ← t1.length, ← t2.length]; exact hl, fun e => ?_, fun e1 e2 => ?_, fun e1 e2 p hp => ?_⟩)
      · have e' := t1.nil_iff.mpr e
        subst e'
        exact h.val sm (.tup h2 (by simpa using t2))
      · have e' := t2.nil_iff.mpr e2
        subst e'
        exact h.val sm (.tup h1 (by simpa using t1))
      · exact h.tup sm (t1.app t2) hp
    · exact h.elim
  case h_4 i j =>
    cases r1 with
    | obj h1 =>
    cases r2 with
    | obj h2 =>
    split at h
    · rename_i xs ys e1 e2
      split at h
      · rename_i hl
        obtain ⟨a, zs, g1, g2, g3⟩ := sm.lst e1
        obtain ⟨b, ws, g4, g5, g6⟩ := sm.lst e2
        rw [h1] at g1; cases g1
        rw [h2] at g4; cases g4
        exact .inr (.inr ⟨_, _, _, _, rfl, rfl, g2, g5, by rw [← line_eq, ← g3.length, ← g6.length]; exact hl, fun p hp => h.lst sm (g3.app g6) hp⟩)
      · exact h.elim
    · exact h.elim
  case h_5 => exact h.elim
theorem bin_sub : OpR X (binaryOp .Sub) (St2 X subV) := by
  intro pins s σ H x y u w Q I ru rw_ h
  refine op_sub pins s σ H x y u w Q I ru rw_ ?_
  obtain ⟨G, W, σ', μ, v, w', S, hK, sm, r1, r2, h⟩ := h
  unfold subV at h
  split at h
  · cases r1; cases r2; exact ⟨_, _, rfl, rfl, h.val sm (.int _)⟩
  · exact h.elim
theorem rep_rel {xs : List Val} {ys : List V} (h : RVs μ H xs ys) : ∀ n, RVs μ H (List.replicate n xs).flatten (List.replicate n ys).flatten
  | 0 => .nil
  | n + 1 => by simp only [List.replicate_succ, List.flatten_cons]; exact h.app (rep_rel h n)
theorem bin_mul : OpR X (binaryOp .Mult) (St2 X mulV) := by
  intro pins s σ H x y u w Q I ru rw_ h
  refine ((op_mul.or op_rep).or (op_repT.or op_repS)) pins s σ H x y u w Q I ru rw_ ?_
  obtain ⟨G, W, σ', μ, v, w', S, hK, sm, r1, r2, h⟩ := h
  unfold mulV at h
  split at h
  · cases r1; cases r2
    split at h
    · rename_i hc
      refine .inl (.inl ⟨_, _, rfl, rfl, ?_, h.val sm (.int _)⟩)
      rcases hc with hc | hc
      · exact .inl (natAbs64 hc)
      · exact .inr (natAbs64 hc)
    · exact h.elim
  · cases r1 with
    | obj h1 =>
    cases r2
    split at h
    · rename_i xs e
      split at h
      · rename_i hc
        obtain ⟨a, zs, g1, g2, g3⟩ := sm.lst e
        rw [h1] at g1; cases g1
        exact .inl (.inr ⟨_, _, _, rfl, rfl, g2, hc.1, hc.2.1, by rw [← line_eq, ← g3.length]; exact hc.2.2, fun p hp => h.lst sm (rep_rel g3 _) hp⟩)
      · exact h.elim
    · exact h.elim
  · cases r1 with
    | tup h1 t1 =>
    cases r2
    split at h
    · rename_i xs k p ys hc
      obtain ⟨c1, c2, c3, c4⟩ := hc
      have hl := t1.length
      have hne : ys ≠ [] := by rintro rfl; simp at hl; subst hl; simp at c1
      by_cases hk : 2 ≤ k
      · exact .inr (.inl ⟨_, _, _, rfl, rfl, SqT.of h1, hne, hk, c4, by omega, fun p hp => h.tup sm (rep_rel t1 _) hp⟩)
      · refine .inr (.inr ⟨_, _, _, rfl, rfl, SqT.of h1, hne, c3, ?_⟩)
        by_cases h1k : k = 1
        · subst h1k
          refine .inl ⟨rfl, ?_⟩
          have e : (List.replicate (1 : Int).toNat xs).flatten = xs := by simp
          rw [e] at h
          exact h.val sm (.tup h1 t1)
        · refine .inr ⟨by omega, fun p hp => ?_⟩
          have e0 : k.toNat = 0 := by omega
          have e : (List.replicate k.toNat xs).flatten = [] := by rw [e0]; rfl
          rw [e] at h
          exact h.tup sm .nil hp
    · exact h.elim
  · exact h.elim
theorem bin_fdiv : OpR X (binaryOp .FloorDiv) (St2 X fdivV) := by
  intro pins s σ H x y u w Q I ru rw_ h
  refine op_fdiv pins s σ H x y u w Q I ru rw_ ?_
  obtain ⟨G, W, σ', μ, v, w', S, hK, sm, r1, r2, h⟩ := h
  unfold fdivV at h
  split at h
  · cases r1; cases r2
    split at h
    · rename_i hc; exact ⟨_, _, rfl, rfl, hc, h.val sm (.int _)⟩
    · exact h.elim
  · exact h.elim
theorem bin_mod : OpR X (binaryOp .Mod) (St2 X modV) := by
  intro pins s σ H x y u w Q I ru rw_ h
  refine op_mod pins s σ H x y u w Q I ru rw_ ?_
  obtain ⟨G, W, σ', μ, v, w', S, hK, sm, r1, r2, h⟩ := h
  unfold modV at h
  split at h
  · cases r1; cases r2
    split at h
    · rename_i hc; exact ⟨_, _, rfl, rfl, hc, h.val sm (.int _)⟩
    · exact h.elim
  · exact h.elim
theorem bin_pow : OpR X (binaryOp .Pow) (St2 X powV) := by
  intro pins s σ H x y u w Q I ru rw_ h
  refine op_pow pins s σ H x y u w Q I ru rw_ ?_
  obtain ⟨G, W, σ', μ, v, w', S, hK, sm, r1, r2, h⟩ := h
  unfold powV at h
  split at h
  · cases r1; cases r2
    split at h
    · rename_i hc; exact ⟨_, _, rfl, rfl, hc, h.val sm (.int _)⟩
    · exact h.elim
  · exact h.elim

def opPy : BinO → Operator
  | .add => .Add | .sub => .Sub | .mul => .Mult | .fdiv => .FloorDiv | .mod => .Mod | .pow => .Pow
theorem bin_all (o : BinO) : OpR X (binaryOp (opPy o)) (St2 X (binV o)) := by
  cases o
  · exact bin_add
  · exact bin_sub
  · exact bin_mul
  · exact bin_fdiv
  · exact bin_mod
  · exact bin_pow
variable {G' : Tab} {ft : Fns}
theorem de_bin {a b : Expr} {pa pb : PyE} {pos : Pos} (o : BinO) (hK : G.K = X.K) (ha : PE X a (lift G W (ev G' ft pa))) (hb : PE X b (lift G W (ev G' ft pb))) : PE X (.BinOp a (opPy o) b pos) (lift G W (ev G' ft (.bin o pa pb))) := by
  refine (pe_op (bin_all o) ha hb).imp fun σ H Q h => ?_
  have h2 := two (f := fun x y _ S => binV o S x y) (by simp only [lift, ev] at h; exact h)
  exact lift_mono h2 fun x H1 h3 => lift_mono h3 fun y H2 ⟨μ, env, v, w, S, s, e, r1, r2, q⟩ => ⟨G, W, σ, μ, v, w, S, hK, s, r1, r2, q⟩
theorem de_neg {a : Expr} {pa : PyE} {pos : Pos} (ha : PE X a (lift G W (ev G' ft pa))) : PE X (.UnaryOp .USub a pos) (lift G W (ev G' ft (.neg pa))) := by
  refine (pe_un un_neg ha).imp fun σ H Q h => ?_
  have h2 := one (f := fun x _ S1 => negV x S1) (by simp only [lift, ev] at h; exact h)
  refine lift_mono h2 fun x H1 ⟨μ, env, v, S, s, e, r, q⟩ => ?_
  cases v with
  | int i => cases r; exact ⟨_, rfl, q.val s (.int _)⟩
  | _ => exact q.elim
end
end Nw

set_option Elab.async false
set_option linter.all false
set_option maxRecDepth 100000
set_option maxHeartbeats 1000000
namespace Nw
open PySem L2

section
variable {α β : Type} {G : Cfg} {W : WX} {X : Cx} {σ : St} {μ : List Addr} {H : Hp} {S : Store} {Q : VK} {G' : Tab} {ft : Fns}

/-! ## data -/
theorem mapM_some {α β : Type} {f : α → Option β} : ∀ {l : List α} {r : List β}, l.mapM f = some r → (∀ x ∈ l, ∃ y ∈ r, f x = some y) ∧ l.length = r.length
  | [], r, e => by simp at e; subst e; simp
  | x :: l, r, e => by
    rw [List.mapM_cons] at e
    cases e1 : f x with
    | none => rw [e1] at e; simp at e
    | some y =>
      cases e2 : l.mapM f with
      | none => rw [e1, e2] at e; simp at e
      | some ys =>
        rw [e1, e2] at e; simp at e; subst e
        obtain ⟨h1, h2⟩ := mapM_some e2
        refine ⟨fun z hz => ?_, by simp [h2]⟩
        rcases List.mem_cons.mp hz with e | hz
        · subst e; exact ⟨y, by simp, e1⟩
        · obtain ⟨w, hw, e3⟩ := h1 z hz
          exact ⟨w, by simp [hw], e3⟩
theorem dats_rel {n : Nat} (ih : ∀ v x d, RV μ H v x → dat n S v = some d → Dp G.K H x d ∧ d.canLay0 = true ∧ d.depth ≤ n) :
    ∀ {vs : List Val} {xs : List V} {ds : List PyData}, RVs μ H vs xs → vs.mapM (dat n S) = some ds → DpAll G.K H xs ds ∧ PyData.canLayAll0 ds = true ∧ PyData.depthAll ds ≤ n
  | [], _, ds, h, e => by cases h; simp at e; subst e; exact ⟨.nil, rfl, Nat.zero_le _⟩
  | v :: vs, _, ds, h, e => by
    cases h with
    | cons h t =>
      rw [List.mapM_cons] at e
      cases e1 : dat n S v with
      | none => rw [e1] at e; simp at e
      | some d =>
        cases e2 : vs.mapM (dat n S) with
        | none => rw [e1, e2] at e; simp at e
        | some ds' =>
          rw [e1, e2] at e; simp at e; subst e
          obtain ⟨a1, a2, a3⟩ := ih _ _ _ h e1
          obtain ⟨b1, b2, b3⟩ := dats_rel ih t e2
          exact ⟨.cons a1 b1, by simp [PyData.canLayAll0, a2, b2], by simp [PyData.depthAll]; omega⟩
theorem dat_rel (s : Sim G μ S H) : ∀ (n : Nat) (v : Val) (x : V) (d : PyData), RV μ H v x → dat n S v = some d → Dp G.K H x d ∧ d.canLay0 = true ∧ d.depth ≤ n
  | n, .non, x, d, r, e => by cases r; cases n <;> (simp [dat] at e; subst e; exact ⟨.non, rfl, Nat.zero_le _⟩)
  | n, .bl b, x, d, r, e => by cases r; cases n <;> (simp [dat] at e; subst e; exact ⟨.bl _, rfl, Nat.zero_le _⟩)
  | n, .int b, x, d, r, e => by cases r; cases n <;> (simp [dat] at e; subst e; exact ⟨.int _, rfl, Nat.zero_le _⟩)
  | n, .str b, x, d, r, e => by
    cases r with
    | str h => cases n <;> (simp [dat] at e; subst e; exact ⟨.str _, by simp [PyData.canLay0]; exact h, Nat.zero_le _⟩)
  | 0, .tup xs, x, d, r, e => by simp [dat] at e
  | n + 1, .tup xs, x, d, r, e => by
    cases r with
    | tup h t =>
      simp only [dat] at e
      cases e2 : xs.mapM (dat n S) with
      | none => rw [e2] at e; cases e
      | some ds =>
        rw [e2] at e; cases e
        obtain ⟨a1, a2, a3⟩ := dats_rel (fun v x d r e => dat_rel s n v x d r e) t e2
        exact ⟨.tup (SqT.of h) a1, by simpa [PyData.canLay0] using a2, by simp [PyData.depth]; omega⟩
  | 0, .obj i, x, d, r, e => by simp [dat] at e
  | n + 1, .obj i, x, d, r, e => by
    cases r with
    | obj h =>
      simp only [dat] at e
      split at e
      · rename_i l xs eo
        cases e2 : xs.mapM (dat n S) with
        | none => rw [e2] at e; cases e
        | some ds =>
          rw [e2] at e; cases e
          obtain ⟨a, ys, g1, g2, g3⟩ := s.lstR eo
          rw [h] at g1; cases g1
          obtain ⟨a1, a2, a3⟩ := dats_rel (fun v x d r e => dat_rel s n v x d r e) g3 e2
          exact ⟨.lst g2 a1, by simpa [PyData.canLay0] using a2, by simp [PyData.depth]; omega⟩
      · cases e
  | n, .fn _ _, x, d, r, e => by cases r
theorem dat_shaped (s : Sim G μ S H) {v : Val} {x : V} {d : PyData} (r : RV μ H v x) (e : dat 64 S v = some d) : Dp G.K H x d ∧ SeqAt.shaped d = true := by
  obtain ⟨h1, h2, h3⟩ := dat_rel s 64 v x d r e
  exact ⟨h1, by unfold SeqAt.shaped; rw [h2, decide_eq_true h3]; rfl⟩

/-- a comparison by values -/
def St2b (X : Cx) (f : Store → Val → Val → Option Bool) : R2 := fun x y H Q => ∃ (G : Cfg) (W : WX) (σ : St) (μ : List Addr) (v w : Val) (S : Store), G.K = X.K ∧ Sim G μ S H ∧ RV μ H v x ∧ RV μ H w y ∧ After G W σ μ H (Res.ofO ((f S v w).map .bl) S) (Kv Q)
theorem After.bool {o : Option Bool} (h : After G W σ μ H (Res.ofO (o.map .bl) S) (Kv Q)) (s : Sim G μ S H) : ∃ b, o = some b ∧ Q (.bl b) H := by
  obtain ⟨v, e, h⟩ := h.ofO
  cases o with
  | none => cases e
  | some b => cases e; exact ⟨b, rfl, h.val s (.bl b)⟩
theorem eqD_rel (s : Sim G μ S H) {v w : Val} {x y : V} {b : Bool} (r1 : RV μ H v x) (r2 : RV μ H w y) (e : eqD S v w = some b) : ∃ d d', Dp G.K H x d ∧ Dp G.K H y d' ∧ SeqAt.shaped d = true ∧ SeqAt.shaped d' = true ∧ PyData.eqv d d' = b := by
  unfold eqD at e
  cases e1 : dat 64 S v with
  | none => rw [e1] at e; cases e
  | some d =>
    cases e2 : dat 64 S w with
    | none => rw [e1, e2] at e; cases e
    | some d' =>
      rw [e1, e2] at e; cases e
      obtain ⟨a1, a2⟩ := dat_shaped s r1 e1
      obtain ⟨b1, b2⟩ := dat_shaped s r2 e2
      exact ⟨d, d', a1, b1, a2, b2, rfl⟩
theorem cmp_eq (hu : X.A.units + 64 < cLine) : OpR X (compareOp .Eq) (St2b X (cmpV .eq)) := by
  intro pins s σ H x y u w Q I ru rw_ h
  refine op_eqD hu pins s σ H x y u w Q I ru rw_ ?_
  obtain ⟨G, W, σ', μ, v, w', S, hK, sm, r1, r2, h⟩ := h
  obtain ⟨b, e, q⟩ := h.bool sm
  obtain ⟨d, d', h1, h2, h3, h4, h5⟩ := eqD_rel sm r1 r2 e
  subst h5
  rw [hK] at h1 h2
  exact ⟨d, d', h1, h2, h3, h4, q⟩
theorem cmp_ne (hu : X.A.units + 64 < cLine) : OpR X (compareOp .NotEq) (St2b X (cmpV .ne)) := by
  intro pins s σ H x y u w Q I ru rw_ h
  refine op_neD hu pins s σ H x y u w Q I ru rw_ ?_
  obtain ⟨G, W, σ', μ, v, w', S, hK, sm, r1, r2, h⟩ := h
  obtain ⟨b, e, q⟩ := h.bool sm
  simp only [cmpV] at e
  cases e1 : eqD S v w' with
  | none => rw [e1] at e; cases e
  | some c =>
    rw [e1] at e; cases e
    obtain ⟨d, d', h1, h2, h3, h4, h5⟩ := eqD_rel sm r1 r2 e1
    subst h5
    rw [hK] at h1 h2
    exact ⟨d, d', h1, h2, h3, h4, q⟩
theorem cmp_int {op : CmpOp} {o : CmpO} {g : Int → Int → Bool} (hop : OpR X (compareOp op) (rI0 fun i j => .bl (g i j)))
    (hv : ∀ S x y, cmpV o S x y = match x, y with | .int i, .int j => some (g i j) | _, _ => none) : OpR X (compareOp op) (St2b X (cmpV o)) := by
  intro pins s σ H x y u w Q I ru rw_ h
  refine hop pins s σ H x y u w Q I ru rw_ ?_
  obtain ⟨G, W, σ', μ, v, w', S, hK, sm, r1, r2, h⟩ := h
  obtain ⟨b, e, q⟩ := h.bool sm
  rw [hv] at e
  split at e
  · cases r1; cases r2; cases e; exact ⟨_, _, rfl, rfl, q⟩
  · cases e
theorem flat_rel {v : Val} {x : V} (r : RV μ H v x) (h : flat v = true) : flatV x = true := by
  cases r <;> first | rfl | cases h
theorem flats_rel : ∀ {vs : List Val} {xs : List V}, RVs μ H vs xs → vs.all flat = true → xs.all flatV = true
  | [], _, h, _ => by cases h; rfl
  | v :: vs, _, h, e => by
    cases h with
    | cons h t =>
      simp only [List.all_cons, Bool.and_eq_true] at e ⊢
      exact ⟨flat_rel h e.1, flats_rel t e.2⟩
theorem eqF_rel {v w : Val} {x y : V} (r1 : RV μ H v x) (r2 : RV μ H w y) (h1 : flat v = true) (h2 : flat w = true) : eqF v w = eqV x y := by
  cases r1 <;> first | (cases h1; done) | (cases r2 <;> first | (cases h2; done) | rfl)
theorem inF_rel {w : Val} {y : V} (r2 : RV μ H w y) (h2 : flat w = true) : ∀ {vs : List Val} {xs : List V}, RVs μ H vs xs → vs.all flat = true → (vs.any fun v => eqF v w) = inV y xs
  | [], _, h, _ => by cases h; rfl
  | v :: vs, _, h, e => by
    cases h with
    | cons h t =>
      simp only [List.all_cons, Bool.and_eq_true] at e
      have ih := inF_rel r2 h2 t e.2
      unfold inV at ih ⊢
      simp only [List.any_cons, ih, eqF_rel h r2 e.1 h2]
/-- y in d by values -/
theorem op_inDict (hu : X.A.units + 1 < cLine) : OpR X (compareOp .In) (fun y x H Q => ∃ a o, x = .ref a ∧ DGet H a y o ∧ Q (.bl o.isSome) H) := by
  intro pins s σ H y x iv u Q I ry rx h
  obtain ⟨a, o, ex, g, q⟩ := h
  subst ex
  obtain rfl : u = Value.ref a := rx
  exact d_in hu I g ry fun s3 I3 => ⟨.bl o.isSome, H, I3, rfl, q⟩
theorem op_notInDict (hu : X.A.units + 1 < cLine) : OpR X (compareOp .NotIn) (fun y x H Q => ∃ a o, x = .ref a ∧ DGet H a y o ∧ Q (.bl (!o.isSome)) H) := by
  intro pins s σ H y x iv u Q I ry rx h
  obtain ⟨a, o, ex, g, q⟩ := h
  subst ex
  obtain rfl : u = Value.ref a := rx
  exact d_notIn hu I g ry fun s3 I3 => ⟨.bl (!o.isSome), H, I3, rfl, q⟩
theorem RKv.lookO {κ : Type} [DecidableEq κ] {a : List (κ × Val)} {b : List (κ × V)} (h : RKv μ H a b) (k : κ) : (Nw.look a k).isSome = (valV b k).isSome := by
  obtain ⟨h1, h2⟩ := h.look k
  cases e : Nw.look a k with
  | none => rw [h2 e]; rfl
  | some v => obtain ⟨x, h3, _⟩ := h1 v e; rw [h3]; rfl
theorem dget_k (s : Sim G μ S H) {i : Nat} {l : Bool} {kvs : List (Key × Val)} {a : Addr} {w : Val} {y : V} {k : Key} (e : S[i]? = some (.dK l kvs)) (ha : μ[i]? = some a) (r : RV μ H w y) (ek : keyOf w = some k) :
    ∃ ys, Rd H a (.dK ys) ∧ RKv μ H kvs ys ∧ DGet H a y (valV ys k) := by
  obtain ⟨b, ys, h1, h2, h3, _⟩ := s.dKR e
  rw [ha] at h1; cases h1
  obtain ⟨h4, _, _⟩ := key_rel r ek
  exact ⟨ys, h2, h3, .inl ⟨ys, k, h2, h4, rfl⟩⟩
theorem dget_t (s : Sim G μ S H) {i : Nat} {l : Bool} {kvs : List (List Key × Val)} {a : Addr} {w : Val} {y : V} {k : List Key} (e : S[i]? = some (.dT l kvs)) (ha : μ[i]? = some a) (r : RV μ H w y) (ek : keysOf w = some k) :
    ∃ ys, Rd H a (.dT ys) ∧ RKv μ H kvs ys ∧ DGet H a y (valV ys k) := by
  obtain ⟨b, ys, h1, h2, h3, _⟩ := s.dTR e
  rw [ha] at h1; cases h1
  obtain ⟨c, h4, h5, _⟩ := keysT_rel r ek
  exact ⟨ys, h2, h3, .inr ⟨ys, k, c, h2, h4, h5, rfl⟩⟩
/-- what x in y asks, of any kind -/
theorem mem_rel (s : Sim G μ S H) {v w : Val} {x y : V} {b : Bool} (r1 : RV μ H v x) (r2 : RV μ H w y) (e : memV S v w = some b) :
    (∃ (c : Nat) (z : Str), x = .str ⟨#[c]⟩ ∧ y = .str z ∧ decide (c ∈ z.cps.toList) = b) ∨
    (∃ p xs, y = .ref p ∧ (SqL G.K H p xs ∨ SqT G.K H p xs) ∧ flatV x = true ∧ xs.all flatV = true ∧ inV x xs = b) ∨
    (∃ d ds, Dp G.K H x d ∧ Dp G.K H y (.list ds) ∧ SeqAt.shaped d = true ∧ SeqAt.shaped (.list ds) = true ∧ (ds.any fun z => PyData.eqv z d) = b) ∨
    (∃ a o, y = .ref a ∧ DGet H a x o ∧ o.isSome = b) ∨
    (∃ a ys, x = .non ∧ y = .ref a ∧ Rd H a (.dK ys) ∧ b = false) := by
  unfold memV at e
  split at e
  · cases r2 with
    | str h2 =>
    split at e
    · rename_i cs
      cases r1 with
      | str h1 =>
      split at e
      · rename_i c hc
        cases e
        refine .inl ⟨c, _, ?_, rfl, rfl⟩
        rw [show cs = #[c] from by rw [← Array.toArray_toList (xs := cs), hc]]
      · cases e
    · cases e
  · cases r2 with
    | tup h2 t2 =>
    split at e
    · rename_i hf
      simp only [Bool.and_eq_true] at hf
      cases e
      exact .inr (.inl ⟨_, _, rfl, .inr (SqT.of h2), flat_rel r1 hf.1, flats_rel t2 hf.2, (inF_rel r1 hf.1 t2 hf.2).symm⟩)
    · cases e
  · rename_i i
    cases r2 with
    | obj h2 =>
    split at e
    · rename_i l ys eo
      obtain ⟨a, zs, g1, g2, g3⟩ := s.lstR eo
      rw [h2] at g1; cases g1
      split at e
      · rename_i hf
        simp only [Bool.and_eq_true] at hf
        cases e
        exact .inr (.inl ⟨_, _, rfl, .inl g2, flat_rel r1 hf.1, flats_rel g3 hf.2, (inF_rel r1 hf.1 g3 hf.2).symm⟩)
      · cases e1 : dat 64 S v with
        | none => rw [e1] at e; cases e
        | some d =>
          cases e2 : ys.mapM (dat 63 S) with
          | none => rw [e1, e2] at e; cases e
          | some ds =>
            rw [e1, e2] at e; cases e
            obtain ⟨a1, a2⟩ := dat_shaped s r1 e1
            have e3 : dat 64 S (.obj i) = some (.list ds) := by simp only [dat, eo, e2]; rfl
            obtain ⟨b1, b2⟩ := dat_shaped s (.obj h2) e3
            exact .inr (.inr (.inl ⟨d, ds, a1, b1, a2, b2, rfl⟩))
    · rename_i l kvs eo
      split at e
      · cases e
        cases r1
        obtain ⟨a, ys, g1, g2, _⟩ := s.dKR eo
        rw [h2] at g1; cases g1
        exact .inr (.inr (.inr (.inr ⟨_, _, rfl, rfl, g2, rfl⟩)))
      · cases e1 : keyOf v with
        | none => rw [e1] at e; cases e
        | some k =>
          rw [e1] at e; cases e
          obtain ⟨ys, _, g1, g2⟩ := dget_k s eo h2 r1 e1
          exact .inr (.inr (.inr (.inl ⟨_, _, rfl, g2, (g1.lookO k).symm⟩)))
    · rename_i l kvs eo
      cases e1 : keysOf v with
      | none => rw [e1] at e; cases e
      | some k =>
        rw [e1] at e; cases e
        obtain ⟨ys, _, g1, g2⟩ := dget_t s eo h2 r1 e1
        exact .inr (.inr (.inr (.inl ⟨_, _, rfl, g2, (g1.lookO k).symm⟩)))
    · cases e
  · cases e
theorem cmp_mem (hu : X.A.units + 65 < cLine) : OpR X (compareOp .In) (St2b X (cmpV .mem)) := by
  intro pins s σ H x y u w Q I ru rw_ h
  obtain ⟨G, W, σ', μ, v, w', S, hK, sm, r1, r2, h⟩ := h
  obtain ⟨b, e, q⟩ := h.bool sm
  rcases mem_rel sm r1 r2 e with ⟨c, z, h1, h2, h3⟩ | ⟨p, xs, h1, h2, h3, h4, h5⟩ | ⟨d, ds, h1, h2, h3, h4, h5⟩ | ⟨a, o, h1, h2, h3⟩ | ⟨a, ys, h1, h2, h3, h4⟩
  · subst h3; exact op_in_sign pins s σ H x y u w Q I ru rw_ ⟨c, z, h1, h2, q⟩
  · subst h5; rw [hK] at h2; exact op_in_seq pins s σ H x y u w Q I ru rw_ ⟨p, xs, h1, h2, h3, h4, q⟩
  · subst h5; rw [hK] at h1 h2; exact op_inD hu pins s σ H x y u w Q I ru rw_ ⟨d, ds, h1, h2, h3, h4, q⟩
  · subst h3; exact op_inDict (by omega) pins s σ H x y u w Q I ru rw_ ⟨a, o, h1, h2, q⟩
  · subst h1 h2 h4
    obtain rfl : u = Value.none := ru
    obtain rfl : w = Value.ref a := rw_
    exact d_inNone I h3 fun s3 I3 => ⟨.bl false, H, I3, rfl, q⟩
theorem cmp_nmem (hu : X.A.units + 65 < cLine) : OpR X (compareOp .NotIn) (St2b X (cmpV .nmem)) := by
  intro pins s σ H x y u w Q I ru rw_ h
  obtain ⟨G, W, σ', μ, v, w', S, hK, sm, r1, r2, h⟩ := h
  obtain ⟨b, e, q⟩ := h.bool sm
  simp only [cmpV] at e
  cases e0 : memV S v w' with
  | none => rw [e0] at e; cases e
  | some b0 =>
    rw [e0] at e; cases e
    rcases mem_rel sm r1 r2 e0 with ⟨c, z, h1, h2, h3⟩ | ⟨p, xs, h1, h2, h3, h4, h5⟩ | ⟨d, ds, h1, h2, h3, h4, h5⟩ | ⟨a, o, h1, h2, h3⟩ | ⟨a, ys, h1, h2, h3, h4⟩
    · subst h3; exact op_notIn_sign pins s σ H x y u w Q I ru rw_ ⟨c, z, h1, h2, q⟩
    · subst h5; rw [hK] at h2; exact op_notIn_seq pins s σ H x y u w Q I ru rw_ ⟨p, xs, h1, h2, h3, h4, q⟩
    · subst h5; rw [hK] at h1 h2; exact op_notInD hu pins s σ H x y u w Q I ru rw_ ⟨d, ds, h1, h2, h3, h4, q⟩
    · subst h3; exact op_notInDict (by omega) pins s σ H x y u w Q I ru rw_ ⟨a, o, h1, h2, q⟩
    · subst h1 h2 h4
      obtain rfl : u = Value.none := ru
      obtain rfl : w = Value.ref a := rw_
      exact d_notInNone I h3 fun s3 I3 => ⟨.bl true, H, I3, rfl, q⟩
/-! ## == of dicts that are alike -/
theorem dEqD_some {v w : Val} {b : Bool} (e : dEqD S v w = some b) : b = true ∧ ∃ i j l l' kvs kws, v = .obj i ∧ w = .obj j ∧ S[i]? = some (.dK l kvs) ∧ S[j]? = some (.dK l' kws) ∧ kvs.length = kws.length ∧
    ∀ kv ∈ kvs, ∃ u, Nw.look kws kv.1 = some u ∧ eqD S kv.2 u = some true := by
  unfold dEqD at e
  split at e
  · split at e
    · rename_i e1 e2
      split at e
      · rename_i hc
        cases e
        refine ⟨rfl, _, _, _, _, _, _, rfl, rfl, e1, e2, hc.1, fun kv hk => ?_⟩
        have q := List.all_eq_true.mp hc.2 kv hk
        split at q
        · rename_i u hu
          exact ⟨u, hu, by simpa using q⟩
        · cases q
      · cases e
    · cases e
  · cases e
theorem dhits {A : Around} {X : Cx} {pins : List (Addr × PySem.Obj)} {σ' : St} {s : Shared} (hu : A.in1.units + 64 < cLine) (hK : G.K = X.K) (I : Inv X pins σ' H s) (sm : Sim G μ S H) {kws : List (Key × Val)} {yws : List (Key × V)} {vws : List (Key × Value)} (r2 : RKv μ H kws yws) (v2 : KV yws vws) :
    ∀ {kvs : List (Key × Val)} {yvs : List (Key × V)} {vvs : List (Key × Value)}, RKv μ H kvs yvs → KV yvs vvs → (∀ kv ∈ kvs, ∃ u, Nw.look kws kv.1 = some u ∧ eqD S kv.2 u = some true) → PySem.W.KeqHits A.in1 s vws vvs true
  | [], [], _, r, v, _ => by cases v; exact .nil
  | [], _ :: _, _, r, _, _ => r.elim
  | _ :: _, [], _, r, _, _ => r.elim
  | (k, v) :: kvs, (k', x) :: yvs, _, r, vv, h => by
    obtain ⟨e1, rv, tr⟩ := r
    cases vv with
    | @cons p q ps qs hv tv =>
      obtain ⟨e2, rx⟩ := hv
      obtain ⟨k2, vx⟩ := q
      simp only at e2 rx
      subst e1 e2
      have ih := dhits hu hK I sm r2 v2 tr tv fun kv hk => h kv (List.mem_cons_of_mem _ hk)
      obtain ⟨u, h1, h2⟩ := h (k, v) (List.mem_cons_self ..)
      obtain ⟨xu, hxu, rvu⟩ := (r2.look k).1 u h1
      have q := v2.val k
      rw [hxu] at q
      cases hvu : valueAt vws k with
      | none => rw [hvu] at q; exact (show False from q).elim
      | some vu =>
        rw [hvu] at q
        obtain ⟨d, d', d1, d2, s1, s2, d3⟩ := eqD_rel sm rv rvu h2
        rw [hK] at d1 d2
        obtain ⟨as, q1⟩ := Dp.reads I d x vx d1 rx
        obtain ⟨bs, q2⟩ := Dp.reads I d' xu vu d2 q
        have ea := PySem.W.keq_at (A := A) q1 q2 s1 s2 hu
        rw [d3] at ea
        exact PySem.W.KeqHits.hit hvu ea ih
theorem dEqD_use (hu : X.A.units + 65 < cLine) {x y : V} {v w' : Val} {b : Bool} {u w : Value} {pins : List (Addr × PySem.Obj)} {σ' : St} {s : Shared} (hK : G.K = X.K) (I : Inv X pins σ' H s) (sm : Sim G μ S H) (ru : RelV x u) (rw_ : RelV y w) (r1 : RV μ H v x) (r2 : RV μ H w' y) (e : dEqD S v w' = some b) :
    b = true ∧ ∃ (a c : Addr) (ka kb : List (Key × Value)), u = .ref a ∧ w = .ref c ∧ (a == sysModules) = false ∧ (c == sysModules) = false ∧ s.heap.DictOf (mixKind X.prog X.w) a ka ∧ s.heap.DictOf (mixKind X.prog X.w) c kb ∧ ka.length = kb.length ∧ PySem.W.KeqHits X.A.in1 s kb ka true := by
  obtain ⟨rfl, i, j, l, l', kvs, kws, rfl, rfl, e1, e2, hl, ha⟩ := dEqD_some e
  refine ⟨rfl, ?_⟩
  cases r1 with
  | obj h1 =>
  cases r2 with
  | obj h2 =>
  obtain ⟨a, ys, g1, g2, g3, _⟩ := sm.dKR e1
  rw [h1] at g1; cases g1
  obtain ⟨c, zs, k1, k2, k3, _⟩ := sm.dKR e2
  rw [h2] at k1; cases k1
  obtain ⟨_, z1, va, ra, da⟩ := dk_rd I.hok g2
  obtain ⟨_, z2, vb, rb, db⟩ := dk_rd I.hok k2
  refine ⟨_, _, va, vb, ru, rw_, z1, z2, da, db, ?_, ?_⟩
  · rw [← ra.length, ← rb.length, ← g3.length, ← k3.length, hl]
  · exact dhits (by simp only [Around.in1_units]; omega) hK I sm k3 rb g3 ra ha
theorem cmp_eqd (hu : X.A.units + 65 < cLine) : OpR X (compareOp .Eq) (St2b X (cmpV .eqd)) := by
  intro pins s σ H x y u w Q I ru rw_ h
  obtain ⟨G, W, σ', μ, v, w', S, hK, sm, r1, r2, h⟩ := h
  obtain ⟨b, e, q⟩ := h.bool sm
  obtain ⟨rfl, a, c, ka, kb, rfl, rfl, z1, z2, da, db, hl, hh⟩ := dEqD_use hu hK I sm ru rw_ r1 r2 e
  exact PySem.W.keq_eq z1 z2 da db (by omega) (fun _ => hh) ⟨.bl true, H, I, by rw [hl]; simp; rfl, q⟩
theorem cmp_ned (hu : X.A.units + 65 < cLine) : OpR X (compareOp .NotEq) (St2b X (cmpV .ned)) := by
  intro pins s σ H x y u w Q I ru rw_ h
  obtain ⟨G, W, σ', μ, v, w', S, hK, sm, r1, r2, h⟩ := h
  obtain ⟨b, e, q⟩ := h.bool sm
  simp only [cmpV] at e
  cases e0 : dEqD S v w' with
  | none => rw [e0] at e; cases e
  | some b0 =>
    rw [e0] at e; cases e
    obtain ⟨rfl, a, c, ka, kb, rfl, rfl, z1, z2, da, db, hl, hh⟩ := dEqD_use hu hK I sm ru rw_ r1 r2 e0
    exact PySem.W.keq_ne z1 z2 da db (by omega) (fun _ => hh) ⟨.bl false, H, I, by rw [hl]; simp; rfl, q⟩
def cmpPy : CmpO → CmpOp
  | .eq => .Eq | .ne => .NotEq | .lt => .Lt | .le => .LtE | .gt => .Gt | .ge => .GtE | .mem => .In | .nmem => .NotIn | .eqd => .Eq | .ned => .NotEq
theorem cmp_all (hu : X.A.units + 65 < cLine) (o : CmpO) : OpR X (compareOp (cmpPy o)) (St2b X (cmpV o)) := by
  cases o
  · exact cmp_eq (by omega)
  · exact cmp_ne (by omega)
  · exact cmp_int op_lt fun S x y => by cases x <;> cases y <;> rfl
  · exact cmp_int op_le fun S x y => by cases x <;> cases y <;> rfl
  · exact cmp_int op_gt fun S x y => by cases x <;> cases y <;> rfl
  · exact cmp_int op_ge fun S x y => by cases x <;> cases y <;> rfl
  · exact cmp_mem hu
  · exact cmp_nmem hu
  · exact cmp_eqd hu
  · exact cmp_ned hu

theorem cmp_read {pa pb : PyE} {σ : St} {H : Hp} (hK : G.K = X.K) (o : CmpO) (h : lift G W (ev G' ft (.cmp o pa pb)) σ H Q) : tOp (St2b X (cmpV o)) (lift G W (ev G' ft pa)) (lift G W (ev G' ft pb)) σ H Q := by
  have h2 := two (f := fun x y _ S2 => Res.ofO ((cmpV o S2 x y).map Val.bl) S2) (by simp only [lift, ev] at h; exact h)
  exact lift_mono h2 fun x H1 h3 => lift_mono h3 fun y H2 ⟨μ, env, v, w, S, s, e, r1, r2, q⟩ => ⟨G, W, σ, μ, v, w, S, hK, s, r1, r2, q⟩
/-- a test of a bool -/
theorem tst_bool {m : Env → Store → Res Val} {σ : St} {H : Hp} {Qb : Bool → Hp → Prop} (hb : ∀ env S v S', m env S = .ok v S' → ∃ b, v = .bl b) (h : liftT G W (tst m) σ H Qb) : lift G W m σ H fun x H1 => ∃ k, x = .bl k ∧ Qb k H1 := by
  obtain ⟨μ, env, S, s, e, h⟩ := h
  refine ⟨μ, env, S, s, e, ?_⟩
  unfold tst at h
  cases em : m env S with
  | no => rw [em] at h; exact h.elim
  | ex x S' => rw [em] at h; exact h
  | ok v S' =>
    rw [em] at h
    obtain ⟨b, rfl⟩ := hb env S v S' em
    exact fun μ' H' u k s' x r => by cases r; exact ⟨b, rfl, h μ' H' u k s'⟩
theorem ofO_bl {o : Option Bool} {S S' : Store} {v : Val} (h : Res.ofO (o.map .bl) S = .ok v S') : ∃ b, v = .bl b := by
  cases o with
  | none => cases h
  | some b => cases h; exact ⟨b, rfl⟩
theorem bind_ok {r : Res α} {f : α → Store → Res β} {v : β} {S : Store} (h : r.bind f = .ok v S) : ∃ a S1, r = .ok a S1 ∧ f a S1 = .ok v S := by
  cases r with
  | ok a S1 => exact ⟨a, S1, rfl, h⟩
  | ex e S1 => cases h
  | no => cases h

variable {a b : Expr} {pa pb : PyE} {pos : Pos}
theorem de_cmp (hu : X.A.units + 65 < cLine) (hK : G.K = X.K) (o : CmpO) (ha : PE X a (lift G W (ev G' ft pa))) (hb : PE X b (lift G W (ev G' ft pb))) (hm : behindInMarks (cmpPy o) b = false) :
    PE X (.Compare a [cmpPy o] [b] pos) (lift G W (ev G' ft (.cmp o pa pb))) :=
  (pe_cmpR (cmp_all hu o) ha hb hm).imp fun σ H Q h => cmp_read hK o h
theorem dt_cmp (hu : X.A.units + 65 < cLine) (hK : G.K = X.K) (o : CmpO) (ha : PE X a (lift G W (ev G' ft pa))) (hb : PE X b (lift G W (ev G' ft pb))) (hm : behindInMarks (cmpPy o) b = false) :
    PT X (.Compare a [cmpPy o] [b] pos) (liftT G W (tst (ev G' ft (.cmp o pa pb)))) := by
  refine (pt_cmpR (cmp_all hu o) ha hb hm).imp fun σ H Q h => ?_
  refine cmp_read hK o (tst_bool (fun env S v S' e => ?_) h)
  simp only [ev] at e
  obtain ⟨_, _, _, e⟩ := bind_ok e
  obtain ⟨_, _, _, e⟩ := bind_ok e
  exact ofO_bl e
end
end Nw

set_option Elab.async false
set_option linter.all false
set_option maxRecDepth 100000
set_option maxHeartbeats 1000000
namespace Nw
open PySem L2

section
variable {α β : Type} {G : Cfg} {W : WX} {X : Cx} {σ : St} {μ : List Addr} {H : Hp} {S : Store} {Q : VK} {G' : Tab} {ft : Fns}
variable {a b c : Expr} {pa pb pc : PyE} {pos : Pos}

/-! ## truth -/
theorem tru_rel (s : Sim G μ S H) {v : Val} {x : V} {k : Bool} (r : RV μ H v x) (e : tru S v = some k) : TruV G.K x H k := by
  cases v with
  | non => cases r; simp [tru] at e; exact e
  | bl b => cases r; simp [tru] at e; exact e.symm
  | int i => cases r; simp [tru] at e; exact e.symm
  | str z =>
    cases r with
    | str h =>
    simp only [tru] at e
    split at e
    · rename_i hl
      cases e; exact ⟨by rw [← line_eq]; exact hl, rfl⟩
    · cases e
  | tup xs =>
    cases r with
    | tup h t =>
    simp only [tru, Option.some.injEq] at e
    subst e
    refine .inr (.inl ⟨_, SqT.of h, ?_⟩)
    cases t <;> rfl
  | obj i =>
    cases r with
    | obj h =>
    simp only [tru] at e
    split at e
    · rename_i l xs eo
      obtain ⟨p, ys, g1, g2, g3⟩ := s.lstR eo
      rw [h] at g1; cases g1
      cases e
      refine .inl ⟨_, g2, ?_⟩
      cases g3 <;> rfl
    · rename_i kvs eo
      obtain ⟨p, ys, g1, g2, g3, _⟩ := s.dK eo
      rw [h] at g1; cases g1
      cases e
      refine .inr (.inr ⟨_, g2, ?_⟩)
      cases kvs <;> cases ys <;> first | rfl | exact g3.elim
    · cases e
  | fn _ _ => cases r
theorem ifV_after {r : Val} {t f : Res α} {k : α → List Addr → Store → Hp → Prop} (h : After G W σ μ H (ifV r S t f) k) : ∃ b, tru S r = some b ∧ After G W σ μ H (if b = true then t else f) k := by
  unfold ifV at h
  split at h
  · rename_i e; exact ⟨true, e, h⟩
  · rename_i e; exact ⟨false, e, h⟩
  · exact h.elim

theorem de_and (hK : G.K = X.K) {rest : List Expr} (ha : PE X a (lift G W (ev G' ft pa))) (hb : PE X (.BoolOp .And (b :: rest) pos) (lift G W (ev G' ft pb))) : PE X (.BoolOp .And (a :: b :: rest) pos) (lift G W (ev G' ft (.and pa pb))) := by
  refine (pe_andT ha hb).imp fun σ H Q h => ?_
  have h2 := one (f := fun x env S1 => ifV x S1 (ev G' ft pb env S1) (.ok x S1)) (by simp only [lift, ev] at h; exact h)
  refine lift_mono h2 fun x H1 ⟨μ, env, v, S, s, e, r, q⟩ => ?_
  obtain ⟨k, e1, q⟩ := ifV_after q
  refine ⟨k, by rw [← hK]; exact tru_rel s r e1, ?_⟩
  cases k with
  | true => exact ⟨μ, env, S, s, e, q⟩
  | false => exact After.val (v := v) q s r
theorem de_or (hK : G.K = X.K) {rest : List Expr} (ha : PE X a (lift G W (ev G' ft pa))) (hb : PE X (.BoolOp .Or (b :: rest) pos) (lift G W (ev G' ft pb))) : PE X (.BoolOp .Or (a :: b :: rest) pos) (lift G W (ev G' ft (.or pa pb))) := by
  refine (pe_orT ha hb).imp fun σ H Q h => ?_
  have h2 := one (f := fun x env S1 => ifV x S1 (.ok x S1) (ev G' ft pb env S1)) (by simp only [lift, ev] at h; exact h)
  refine lift_mono h2 fun x H1 ⟨μ, env, v, S, s, e, r, q⟩ => ?_
  obtain ⟨k, e1, q⟩ := ifV_after q
  refine ⟨k, by rw [← hK]; exact tru_rel s r e1, ?_⟩
  cases k with
  | false => exact ⟨μ, env, S, s, e, q⟩
  | true => exact After.val (v := v) q s r
theorem de_not (hK : G.K = X.K) (ha : PE X a (lift G W (ev G' ft pa))) : PE X (.UnaryOp .Not a pos) (lift G W (ev G' ft (.not pa))) := by
  refine (pe_notT ha).imp fun σ H Q h => ?_
  have h2 := one (f := fun x env S1 => ifV x S1 (Res.ok (Val.bl false) S1) (Res.ok (Val.bl true) S1)) (by simp only [lift, ev] at h; exact h)
  refine lift_mono h2 fun x H1 ⟨μ, env, v, S, s, e, r, q⟩ => ?_
  obtain ⟨k, e1, q⟩ := ifV_after q
  refine ⟨k, by rw [← hK]; exact tru_rel s r e1, ?_⟩
  cases k with
  | false => exact After.val (v := .bl true) q s (.bl _)
  | true => exact After.val (v := .bl false) q s (.bl _)
/-- a test, by its parts -/
theorem tst_one {m : Env → Store → Res Val} {f : Val → Env → Store → Res Val} {Qb : Bool → Hp → Prop} (h : liftT G W (tst fun env S => (m env S).bind fun x S1 => f x env S1) σ H Qb) :
    lift G W m σ H fun x' H1 => ∃ μ env x S, Sim G μ S H1 ∧ REnv μ H1 env σ ∧ RV μ H1 x x' ∧ After G W σ μ H1 ((f x env S).bind fun v S1 => Res.ofO (tru S1 v) S1) fun b _ _ H' => Qb b H' := by
  obtain ⟨μ, env, S, s, e, h⟩ := h
  refine one (f := fun x env S1 => (f x env S1).bind fun v S1 => Res.ofO (tru S1 v) S1) ⟨μ, env, S, s, e, ?_⟩
  unfold tst at h
  dsimp only at h ⊢
  cases em : m env S with
  | no => rw [em] at h; exact h
  | ex x S' => rw [em] at h; exact h
  | ok v S' => rw [em] at h; exact h
/-- .. where the first part is a test, too -/
theorem tst_fst {m : Env → Store → Res Val} {t f : Val → Env → Store → Res Val} {Qb : Bool → Hp → Prop} (h : liftT G W (tst fun env S => (m env S).bind fun x S1 => ifV x S1 (t x env S1) (f x env S1)) σ H Qb) :
    liftT G W (tst m) σ H fun k H1 => ∃ μ env x S, Sim G μ S H1 ∧ REnv μ H1 env σ ∧ tru S x = some k ∧ After G W σ μ H1 ((if k = true then t x env S else f x env S).bind fun v S1 => Res.ofO (tru S1 v) S1) fun b _ _ H' => Qb b H' := by
  obtain ⟨μ, env, S, s, e, h⟩ := h
  refine ⟨μ, env, S, s, e, ?_⟩
  unfold tst at h ⊢
  dsimp only at h ⊢
  cases em : m env S with
  | no => rw [em] at h; exact h
  | ex x S' => rw [em] at h; exact h
  | ok v S' =>
    rw [em] at h
    simp only [Res.bind_ok] at h ⊢
    unfold ifV at h
    cases et : tru S' v with
    | none => rw [et] at h; exact h
    | some k =>
      rw [et] at h
      refine fun μ' H' u kk s' => ⟨μ', env, v, S', s', e.mono u kk, et, ?_⟩
      cases k with
      | true => exact After.later h u kk
      | false => exact After.later h u kk
theorem dw_and {rest : List Expr} (ha : PT X a (liftT G W (tst (ev G' ft pa)))) (hb : PW X (.BoolOp .And (b :: rest) pos) (liftT G W (tst (ev G' ft pb)))) : PW X (.BoolOp .And (a :: b :: rest) pos) (liftT G W (tst (ev G' ft (.and pa pb)))) := by
  refine (pw_and ha hb).imp fun σ H Q h => ?_
  have h2 := tst_fst (t := fun x env S1 => ev G' ft pb env S1) (f := fun x env S1 => .ok x S1) (by simp only [liftT, tst, ev] at h; exact h)
  obtain ⟨μ, env, S, s, e, h2⟩ := h2
  refine ⟨μ, env, S, s, e, h2.imp fun k μ1 S1 H1 u k1 s1 ⟨μ2, env2, x, S2, s2, e2, et, q⟩ => ?_⟩
  cases k with
  | true => exact ⟨μ2, env2, S2, s2, e2, q⟩
  | false =>
    rw [if_neg Bool.false_ne_true] at q ⊢
    simp only [Res.bind_ok, et, Res.ofO_some] at q
    exact q.here s2
theorem dw_or {rest : List Expr} (ha : PT X a (liftT G W (tst (ev G' ft pa)))) (hb : PW X (.BoolOp .Or (b :: rest) pos) (liftT G W (tst (ev G' ft pb)))) : PW X (.BoolOp .Or (a :: b :: rest) pos) (liftT G W (tst (ev G' ft (.or pa pb)))) := by
  refine (pw_or ha hb).imp fun σ H Q h => ?_
  have h2 := tst_fst (t := fun x env S1 => .ok x S1) (f := fun x env S1 => ev G' ft pb env S1) (by simp only [liftT, tst, ev] at h; exact h)
  obtain ⟨μ, env, S, s, e, h2⟩ := h2
  refine ⟨μ, env, S, s, e, h2.imp fun k μ1 S1 H1 u k1 s1 ⟨μ2, env2, x, S2, s2, e2, et, q⟩ => ?_⟩
  cases k with
  | false => exact ⟨μ2, env2, S2, s2, e2, q⟩
  | true =>
    rw [if_pos rfl] at q ⊢
    simp only [Res.bind_ok, et, Res.ofO_some] at q
    exact q.here s2
theorem dt_not (ha : PT X a (liftT G W (tst (ev G' ft pa)))) : PT X (.UnaryOp .Not a pos) (liftT G W (tst (ev G' ft (.not pa)))) := by
  refine (pt_not ha).imp fun σ H Q h => ?_
  have h2 := tst_fst (t := fun x env S1 => Res.ok (Val.bl false) S1) (f := fun x env S1 => Res.ok (Val.bl true) S1) (by simp only [liftT, tst, ev] at h; exact h)
  obtain ⟨μ, env, S, s, e, h2⟩ := h2
  refine ⟨μ, env, S, s, e, h2.imp fun k μ1 S1 H1 u k1 s1 ⟨μ2, env2, x, S2, s2, e2, et, q⟩ => ?_⟩
  cases k with
  | false => exact After.here (v := true) q s2
  | true => exact After.here (v := false) q s2
/-- any other expression as a test -/
theorem dt_any (hK : G.K = X.K) (ha : PE X a (lift G W (ev G' ft pa))) (he : ∀ whole, isTrue a X.env whole = (do let v ← whole; standAt a.pos; holding [v] (truthy v))) : PT X a (liftT G W (tst (ev G' ft pa))) := by
  refine (pt_truth ha he).imp fun σ H Q h => ?_
  have h2 := one (f := fun x env S1 => Res.ofO (tru S1 x) S1) (by simp only [liftT, tst] at h; exact h)
  refine lift_mono h2 fun x H1 ⟨μ, env, v, S, s, e, r, q⟩ => ?_
  obtain ⟨k, ek, q⟩ := q.ofO
  exact ⟨k, by rw [← hK]; exact tru_rel s r ek, q.here s⟩
theorem de_ite (hc : PT X c (liftT G W (tst (ev G' ft pc)))) (ha : PE X a (lift G W (ev G' ft pa))) (hb : PE X b (lift G W (ev G' ft pb))) : PE X (.IfExp c a b pos) (lift G W (ev G' ft (.ite pc pa pb))) := by
  refine (pe_ifExp hc ha hb).imp fun σ H Q h => ?_
  obtain ⟨μ, env, S, s, e, h⟩ := h
  refine ⟨μ, env, S, s, e, ?_⟩
  simp only [ev] at h
  unfold tst
  cases em : ev G' ft pc env S with
  | no => rw [em] at h; exact h
  | ex x S' => rw [em] at h; exact h
  | ok v S' =>
    rw [em] at h
    simp only [Res.bind_ok] at h ⊢
    obtain ⟨k, ek, q⟩ := ifV_after h
    rw [ek]
    refine fun μ' H' u kk s' => ?_
    cases k with
    | true => exact ⟨μ', env, S', s', e.mono u kk, After.later q u kk⟩
    | false => exact ⟨μ', env, S', s', e.mono u kk, After.later q u kk⟩

/-! ## is -/
theorem de_isN {pos' : Pos} {j : Nat} (ha : PE X a (lift G W (ev G' ft pa))) : PE X (.Compare a [.Is] [.Constant .none j pos'] pos) (lift G W (ev G' ft (.isN false pa))) := by
  refine (pe_cmp (pc_isN ha) (by rfl)).imp fun σ H Q h => ?_
  have h2 := one (f := fun x env S1 => Res.ok (Val.bl (xorB false (isNon x))) S1) (by simp only [lift, ev] at h; exact h)
  refine lift_mono h2 fun x H1 ⟨μ, env, v, S, s, e, r, q⟩ => ?_
  have : isNon v = decide (x = .non) := by cases r <;> simp [isNon]
  rw [← this]
  exact After.val (v := .bl _) q s (.bl _)
theorem de_notN {pos' : Pos} {j : Nat} (ha : PE X a (lift G W (ev G' ft pa))) : PE X (.Compare a [.IsNot] [.Constant .none j pos'] pos) (lift G W (ev G' ft (.isN true pa))) := by
  refine (pe_cmp (pc_notN ha) (by rfl)).imp fun σ H Q h => ?_
  have h2 := one (f := fun x env S1 => Res.ok (Val.bl (xorB true (isNon x))) S1) (by simp only [lift, ev] at h; exact h)
  refine lift_mono h2 fun x H1 ⟨μ, env, v, S, s, e, r, q⟩ => ?_
  have : isNon v = decide (x = .non) := by cases r <;> simp [isNon]
  rw [← this]
  exact After.val (v := .bl _) q s (.bl _)
theorem dt_isN {pos' : Pos} {j : Nat} (ha : PE X a (lift G W (ev G' ft pa))) : PT X (.Compare a [.Is] [.Constant .none j pos'] pos) (liftT G W (tst (ev G' ft (.isN false pa)))) := by
  refine (pt_cmp (pc_isN ha) (by rfl)).imp fun σ H Q h => ?_
  have h2 := tst_one (f := fun x env S1 => Res.ok (Val.bl (xorB false (isNon x))) S1) (by simp only [liftT, tst, ev] at h; exact h)
  refine lift_mono h2 fun x H1 ⟨μ, env, v, S, s, e, r, q⟩ => ?_
  have : isNon v = decide (x = .non) := by cases r <;> simp [isNon]
  exact ⟨_, rfl, by rw [← this]; exact After.here (v := isNon v) q s⟩
theorem dt_notN {pos' : Pos} {j : Nat} (ha : PE X a (lift G W (ev G' ft pa))) : PT X (.Compare a [.IsNot] [.Constant .none j pos'] pos) (liftT G W (tst (ev G' ft (.isN true pa)))) := by
  refine (pt_cmp (pc_notN ha) (by rfl)).imp fun σ H Q h => ?_
  have h2 := tst_one (f := fun x env S1 => Res.ok (Val.bl (xorB true (isNon x))) S1) (by simp only [liftT, tst, ev] at h; exact h)
  refine lift_mono h2 fun x H1 ⟨μ, env, v, S, s, e, r, q⟩ => ?_
  have : isNon v = decide (x = .non) := by cases r <;> simp [isNon]
  exact ⟨_, rfl, by rw [← this]; exact After.here (v := !isNon v) q s⟩
theorem bin_isB : OpR X (compareOp .Is) (St2 X fun S x y => isBV false x y S) := by
  intro pins s σ H x y u w Q I ru rw_ h
  refine op_isBl pins s σ H x y u w Q I ru rw_ ?_
  obtain ⟨G, W, σ', μ, v, w', S, hK, sm, r1, r2, h⟩ := h
  unfold isBV at h
  dsimp only at h
  split at h
  · cases r1; cases r2; exact ⟨_, _, rfl, rfl, h.val sm (.bl _)⟩
  · exact h.elim
theorem bin_notB : OpR X (compareOp .IsNot) (St2 X fun S x y => isBV true x y S) := by
  intro pins s σ H x y u w Q I ru rw_ h
  refine op_notBl pins s σ H x y u w Q I ru rw_ ?_
  obtain ⟨G, W, σ', μ, v, w', S, hK, sm, r1, r2, h⟩ := h
  unfold isBV at h
  dsimp only at h
  split at h
  · cases r1; cases r2; exact ⟨_, _, rfl, rfl, h.val sm (.bl _)⟩
  · exact h.elim
theorem isB_read {n : Bool} (hK : G.K = X.K) (h : lift G W (ev G' ft (.isB n pa pb)) σ H Q) : tOp (St2 X fun S x y => isBV n x y S) (lift G W (ev G' ft pa)) (lift G W (ev G' ft pb)) σ H Q := by
  have h2 := two (f := fun x y _ S2 => isBV n x y S2) (by simp only [lift, ev] at h; exact h)
  exact lift_mono h2 fun x H1 h3 => lift_mono h3 fun y H2 ⟨μ, env, v, w, S, s, e, r1, r2, q⟩ => ⟨G, W, σ, μ, v, w, S, hK, s, r1, r2, q⟩
theorem isB_bl {n : Bool} {env : Env} {v : Val} {S S' : Store} (e : ev G' ft (.isB n pa pb) env S = .ok v S') : ∃ b, v = .bl b := by
  simp only [ev] at e
  obtain ⟨x, _, _, e⟩ := bind_ok e
  obtain ⟨y, _, _, e⟩ := bind_ok e
  unfold isBV at e
  split at e
  · cases e; exact ⟨_, rfl⟩
  · cases e
theorem de_isB (hK : G.K = X.K) (ha : PE X a (lift G W (ev G' ft pa))) (hb : PE X b (lift G W (ev G' ft pb))) : PE X (.Compare a [.Is] [b] pos) (lift G W (ev G' ft (.isB false pa pb))) :=
  (pe_cmpR bin_isB ha hb (nomark _)).imp fun σ H Q h => isB_read hK h
theorem de_notB (hK : G.K = X.K) (ha : PE X a (lift G W (ev G' ft pa))) (hb : PE X b (lift G W (ev G' ft pb))) : PE X (.Compare a [.IsNot] [b] pos) (lift G W (ev G' ft (.isB true pa pb))) :=
  (pe_cmpR bin_notB ha hb (nomark _)).imp fun σ H Q h => isB_read hK h
theorem dt_isB (hK : G.K = X.K) (ha : PE X a (lift G W (ev G' ft pa))) (hb : PE X b (lift G W (ev G' ft pb))) : PT X (.Compare a [.Is] [b] pos) (liftT G W (tst (ev G' ft (.isB false pa pb)))) :=
  (pt_cmpR bin_isB ha hb (nomark _)).imp fun σ H Q h => isB_read hK (tst_bool (fun env S v S' e => isB_bl e) h)
theorem dt_notB (hK : G.K = X.K) (ha : PE X a (lift G W (ev G' ft pa))) (hb : PE X b (lift G W (ev G' ft pb))) : PT X (.Compare a [.IsNot] [b] pos) (liftT G W (tst (ev G' ft (.isB true pa pb)))) :=
  (pt_cmpR bin_notB ha hb (nomark _)).imp fun σ H Q h => isB_read hK (tst_bool (fun env S v S' e => isB_bl e) h)

/-! ## chains -/
theorem chain_read (hu : X.A.units + 65 < cLine) (hK : G.K = X.K) {o o' : CmpO} (h : lift G W (ev G' ft (.chain o o' pa pb pc)) σ H Q) : tChain (St2b X (cmpV o)) (St2b X (cmpV o')) (lift G W (ev G' ft pa)) (lift G W (ev G' ft pb)) (lift G W (ev G' ft pc)) σ H Q := by
  have h2 := two (f := fun x y env S2 => chainV o x y S2 ((ev G' ft pc env S2).bind fun z S3 => Res.ofO ((cmpV o' S3 y z).map .bl) S3)) (by simp only [lift, ev] at h; exact h)
  refine lift_mono h2 fun x H1 h3 => lift_mono h3 fun y H2 ⟨μ, env, v, w, S, s, e, r1, r2, q⟩ => ?_
  unfold chainV at q
  cases ec : cmpV o S v w with
  | none => rw [ec] at q; exact q.elim
  | some k =>
    rw [ec] at q
    refine ⟨G, W, σ, μ, v, w, S, hK, s, r1, r2, ?_⟩
    rw [ec]
    refine fun μ1 H3 u1 k1 s1 x' rx => ?_
    cases rx
    refine ⟨k, rfl, ?_⟩
    cases k with
    | false =>
      refine After.val (v := .bl false) (After.later q u1 k1) s1 (.bl _)
    | true =>
      refine ⟨μ1, env, S, s1, e.mono u1 k1, (After.later q u1 k1).bind.imp fun z μ2 S2 H4 u2 k2 s2 h2 z' rz => ⟨G, W, σ, μ2, w, z, S2, hK, s2, (r2.mono u1 k1 _ _).mono u2 k2 _ _, rz, h2⟩⟩
theorem de_chain (hu : X.A.units + 65 < cLine) (hK : G.K = X.K) (o o' : CmpO) (ha : PE X a (lift G W (ev G' ft pa))) (hb : PE X b (lift G W (ev G' ft pb))) (hc : PE X c (lift G W (ev G' ft pc))) (hm : lastMarks [cmpPy o, cmpPy o'] [b, c] = false) :
    PE X (.Compare a [cmpPy o, cmpPy o'] [b, c] pos) (lift G W (ev G' ft (.chain o o' pa pb pc))) :=
  (pe_chain (cmp_all hu o) (cmp_all hu o') ha hb hc hm).imp fun σ H Q h => chain_read hu hK h
theorem dt_chain (hu : X.A.units + 65 < cLine) (hK : G.K = X.K) (o o' : CmpO) (ha : PE X a (lift G W (ev G' ft pa))) (hb : PE X b (lift G W (ev G' ft pb))) (hc : PE X c (lift G W (ev G' ft pc))) (hm : lastMarks [cmpPy o, cmpPy o'] [b, c] = false) :
    PT X (.Compare a [cmpPy o, cmpPy o'] [b, c] pos) (liftT G W (tst (ev G' ft (.chain o o' pa pb pc)))) := by
  refine (pt_chain (cmp_all hu o) (cmp_all hu o') ha hb hc hm).imp fun σ H Q h => chain_read hu hK (tst_bool (fun env S v S' e => ?_) h)
  simp only [ev] at e
  obtain ⟨x, _, _, e⟩ := bind_ok e
  obtain ⟨y, _, _, e⟩ := bind_ok e
  unfold chainV at e
  split at e
  · obtain ⟨z, _, _, e⟩ := bind_ok e; exact ofO_bl e
  · cases e; exact ⟨_, rfl⟩
  · cases e

/-! ## displays, items, slices, fields -/
theorem da_nil : PA X [] (liftA G W (evA G' ft .nil)) := pa_nil.imp fun σ H Q ⟨μ, env, S, s, e, h⟩ => by
  simp only [evA] at h; exact h.here s _ .nil
theorem da_cons {es : List Expr} (ha : PE X a (lift G W (ev G' ft pa))) (hb : PA X es (liftA G W (evA G' ft pb))) (hs : starEach (a :: es) X.env = (false, eval a X.env) :: starEach es X.env) : PA X (a :: es) (liftA G W (evA G' ft (.cons pa pb))) := by
  refine (pa_cons ha hb hs).imp fun σ H Q h => ?_
  obtain ⟨μ, env, S, s, e, h⟩ := h
  simp only [evA] at h
  exact ⟨μ, env, S, s, e, h.bind.imp fun x μ1 S1 H1 u1 k1 s1 h1 x' rx => ⟨μ1, env, S1, s1, e.mono u1 k1, h1.bind.imp fun xs μ2 S2 H2 u2 k2 s2 h2 xs' rxs => h2.here s2 _ (.cons (rx.mono u2 k2 _ _) rxs)⟩⟩
theorem de_tup {es : List Expr} {k : Nat} (ha : PA X es (liftA G W (evA G' ft pa))) : PE X (.Tuple es k pos) (lift G W (ev G' ft (.tup pa))) := by
  refine (pe_tup ha).imp fun σ H Q h => ?_
  have h2 := oneA (f := fun xs env S1 => if xs.length ≤ line then Res.ok (Val.tup xs) S1 else .no) (by simp only [lift, ev] at h; exact h)
  obtain ⟨μ, env, S, s, e, h2⟩ := h2
  refine ⟨μ, env, S, s, e, h2.imp fun vs μ1 S1 H1 u1 k1 s1 h1 xs rxs => ?_⟩
  obtain ⟨μ2, env2, vs2, S2, s2, e2, r2, q⟩ := h1 xs rxs
  split at q
  · rename_i hl
    exact ⟨by rw [← line_eq, ← r2.length]; exact hl, fun p hp => q.tup s2 r2 hp⟩
  · exact q.elim
theorem de_lst {es : List Expr} (ha : PA X es (liftA G W (evA G' ft pa))) : PE X (.List es pos) (lift G W (ev G' ft (.lst pa))) := by
  refine (pe_lst ha).imp fun σ H Q h => ?_
  have h2 := oneA (f := fun xs env S1 => if xs.length ≤ line then Res.ok (Val.obj S1.length) (S1 ++ [.lst false xs]) else .no) (by simp only [lift, ev] at h; exact h)
  obtain ⟨μ, env, S, s, e, h2⟩ := h2
  refine ⟨μ, env, S, s, e, h2.imp fun vs μ1 S1 H1 u1 k1 s1 h1 xs rxs => ?_⟩
  obtain ⟨μ2, env2, vs2, S2, s2, e2, r2, q⟩ := h1 xs rxs
  split at q
  · rename_i hl
    exact ⟨by rw [← line_eq, ← r2.length]; exact hl, fun p hp => q.lst s2 r2 hp⟩
  · exact q.elim
theorem de_dnewK : PE X (.Dict [] [] pos) (lift G W (ev G' ft .dnewK)) := pe_dnewK.imp fun σ H Q ⟨μ, env, S, s, e, h⟩ p hp => by
  simp only [ev] at h
  exact h.alloc s hp rfl ⟨[], upd_same, trivial, by simp⟩
theorem de_dnewT : PE X (.Dict [] [] pos) (lift G W (ev G' ft .dnewT)) := pe_dnewT.imp fun σ H Q ⟨μ, env, S, s, e, h⟩ p hp => by
  simp only [ev] at h
  exact h.alloc s hp rfl ⟨[], upd_same, trivial, by simp⟩
theorem atI_rel {vs : List Val} {xs : List V} {i : Int} {v : Val} (r : RVs μ H vs xs) (e : atI vs i = some v) : ∃ x, atI xs i = some x ∧ RV μ H v x := by
  unfold atI at e ⊢
  rw [← r.length]
  cases e1 : ixN vs.length i with
  | none => rw [e1] at e; cases e
  | some j => rw [e1] at e; exact r.get e
/-- d[k] by values -/
theorem ix_dict (hu : X.A.units + 1 < cLine) : IxR X (fun x y H Q => ∃ a v, x = .ref a ∧ DGet H a y (some v) ∧ Q v H) := by
  intro value slice pins s σ H x y u iv Q I rx ry h hs
  obtain ⟨a, v, ex, g, q⟩ := h
  subst ex
  obtain rfl : u = Value.ref a := rx
  exact PyProof.Rows.tail_any (dict_typeIs I g) PySem.F.slot_dict_getitem.lookup (d_getItem hu I g ry fun w' s3 I3 rw' => ⟨v, H, I3, rw', q⟩) hs
theorem sOk_one {z : Str} {i : Int} {c : Nat} (h : sOk z = true) (e : atI z.cps.toList i = some c) : sOk ⟨#[c]⟩ = true := by
  unfold atI at e
  cases e1 : ixN z.cps.toList.length i with
  | none => rw [e1] at e; cases e
  | some j =>
    rw [e1] at e
    unfold sOk at h ⊢
    have hc : c ∈ z.cps.toList := List.mem_of_getElem? e
    rw [Array.all_eq_true_iff_forall_mem] at h ⊢
    intro x hx
    simp at hx; subst hx
    exact h x (by simpa using hc)
theorem de_idx (hu : X.A.units + 1 < cLine) (hK : G.K = X.K) (ha : PE X a (lift G W (ev G' ft pa))) (hb : PE X b (lift G W (ev G' ft pb))) (hs : PlainIx b) : PE X (.Subscript a b pos) (lift G W (ev G' ft (.idx pa pb))) := by
  refine (pe_ix (IxR.or ix_seq (ix_dict hu)) ha hb hs).imp fun σ H Q h => ?_
  have h2 := two (f := fun x y _ S2 => Res.ofO (ixV S2 x y) S2) (by simp only [lift, ev] at h; exact h)
  refine lift_mono h2 fun x H1 h3 => lift_mono h3 fun y H2 ⟨μ, env, v, w, S, s, e, r1, r2, q⟩ => ?_
  obtain ⟨u, eu, qq⟩ := q.ofO
  clear q
  unfold ixV at eu
  split at eu
  · cases r1 with
    | str h1 =>
    cases r2
    split at eu
    · rename_i hl
      cases e1 : atI (Str.cps _).toList _ with
      | none => rw [e1] at eu; cases eu
      | some c =>
        rw [e1] at eu; cases eu
        exact .inl (.inr (.inr ⟨_, _, c, rfl, rfl, by rw [← line_eq]; exact hl, e1, qq.val s (.str (sOk_one h1 e1))⟩))
    · cases eu
  · cases r1 with
    | tup h1 t1 =>
    cases r2
    obtain ⟨z, e1, r3⟩ := atI_rel t1 eu
    exact .inl (.inr (.inl ⟨_, _, _, z, rfl, rfl, SqT.of h1, e1, qq.val s r3⟩))
  · cases r1 with
    | obj h1 =>
    split at eu
    · rename_i l xs eo
      obtain ⟨p, ys, g1, g2, g3⟩ := s.lstR eo
      rw [h1] at g1; cases g1
      split at eu
      · cases r2
        obtain ⟨z, e1, r3⟩ := atI_rel g3 eu
        exact .inl (.inl ⟨_, _, _, z, rfl, rfl, by rw [← hK]; exact g2, e1, qq.val s r3⟩)
      · cases eu
    · rename_i l kvs eo
      cases e1 : keyOf w with
      | none => rw [e1] at eu; cases eu
      | some k =>
        rw [e1] at eu
        obtain ⟨ys, _, g1, g2⟩ := dget_k s eo h1 r2 e1
        obtain ⟨z, e2, r3⟩ := (g1.look k).1 _ eu
        rw [e2] at g2
        exact .inr ⟨_, z, rfl, g2, qq.val s r3⟩
    · rename_i l kvs eo
      cases e1 : keysOf w with
      | none => rw [e1] at eu; cases eu
      | some k =>
        rw [e1] at eu
        obtain ⟨ys, _, g1, g2⟩ := dget_t s eo h1 r2 e1
        obtain ⟨z, e2, r3⟩ := (g1.look k).1 _ eu
        rw [e2] at g2
        exact .inr ⟨_, z, rfl, g2, qq.val s r3⟩
    · cases eu
  · cases eu
end
end Nw

set_option Elab.async false
set_option linter.all false
set_option maxRecDepth 100000
set_option maxHeartbeats 1000000
namespace Nw
open PySem L2

section
variable {α β : Type} {G : Cfg} {W : WX} {X : Cx} {σ : St} {μ : List Addr} {H : Hp} {S : Store} {Q : VK} {G' : Tab} {ft : Fns}
variable {a b c e : Expr} {pa pb pc : PyE} {pos : Pos}

theorem strs_flat (ks : List Str) : (ks.map V.str).all flatV = true := by
  induction ks with
  | nil => rfl
  | cons k r ih => simp only [List.map_cons, List.all_cons, ih]; rfl
theorem inK_rel {ks : List Str} {w : Val} {y : V} (r : RV μ H w y) (hf : flat w = true) : (ks.any fun k => eqF (.str k) w) = inV y (ks.map V.str) := by
  induction ks with
  | nil => rfl
  | cons k t ih =>
    unfold inV at ih ⊢
    simp only [List.map_cons, List.any_cons, ih]
    congr 1
    cases r <;> first | (cases hf; done) | rfl
theorem inK_read {n : Bool} {ks : List Str} {p : Addr} (hp : ∀ H, SqT X.K H p (ks.map V.str)) (h : lift G W (ev G' ft (.inK n pa ks)) σ H Q) : tOp (rIn X.K n) (lift G W (ev G' ft pa)) (tC (.ref p)) σ H Q := by
  have h2 := one (f := fun x _ S1 => if flat x then Res.ok (Val.bl (xorB n (ks.any fun k => eqF (.str k) x))) S1 else .no) (by simp only [lift, ev] at h; exact h)
  refine lift_mono h2 fun x H1 ⟨μ, env, v, S, s, e, r, q⟩ => ?_
  split at q
  · rename_i hf
    refine ⟨p, _, rfl, .inr (hp H1), flat_rel r hf, strs_flat ks, ?_⟩
    have z : After.val q s (.bl _) = After.val q s (.bl _) := rfl
    have q2 : Q (.bl (xorB n (ks.any fun k => eqF (.str k) v))) H1 := After.val q s (.bl _)
    rw [inK_rel r hf] at q2
    cases n <;> exact q2
  · exact q.elim
theorem inK_bl {n : Bool} {ks : List Str} {env : Env} {v : Val} {S S' : Store} (e : ev G' ft (.inK n pa ks) env S = .ok v S') : ∃ b, v = .bl b := by
  simp only [ev] at e
  obtain ⟨x, _, _, e⟩ := bind_ok e
  split at e
  · cases e; exact ⟨_, rfl⟩
  · cases e
theorem de_inK {ks : List Str} {p : Addr} (n : Bool) (hp : ∀ H, SqT X.K H p (ks.map V.str)) (ha : PE X a (lift G W (ev G' ft pa))) (hb : PE X b (tC (.ref p))) (hm : behindInMarks (if n then .NotIn else .In) b = false) :
    PE X (.Compare a [if n then .NotIn else .In] [b] pos) (lift G W (ev G' ft (.inK n pa ks))) := by
  cases n with
  | false => exact (pe_cmpR op_in_seq ha hb hm).imp fun σ H Q h => inK_read hp h
  | true => exact (pe_cmpR op_notIn_seq ha hb hm).imp fun σ H Q h => inK_read hp h
theorem dt_inK {ks : List Str} {p : Addr} (n : Bool) (hp : ∀ H, SqT X.K H p (ks.map V.str)) (ha : PE X a (lift G W (ev G' ft pa))) (hb : PE X b (tC (.ref p))) (hm : behindInMarks (if n then .NotIn else .In) b = false) :
    PT X (.Compare a [if n then .NotIn else .In] [b] pos) (liftT G W (tst (ev G' ft (.inK n pa ks)))) := by
  cases n with
  | false => exact (pt_cmpR op_in_seq ha hb hm).imp fun σ H Q h => inK_read hp (tst_bool (fun env S v S' e => inK_bl e) h)
  | true => exact (pt_cmpR op_notIn_seq ha hb hm).imp fun σ H Q h => inK_read hp (tst_bool (fun env S v S' e => inK_bl e) h)

/-! ## slices -/
theorem cut_rel {vs : List Val} {xs : List V} {lo hi : Option Int} (r : RVs μ H vs xs) : RVs μ H (cut vs lo hi) (cutV xs lo hi) := by
  unfold cut cutV
  rw [r.length]
  exact (r.drop _).take _
theorem sOk_cut {z : Str} {lo hi : Option Int} (h : sOk z = true) : sOk (cutS z lo hi) = true := by
  unfold sOk at h ⊢
  rw [Array.all_eq_true_iff_forall_mem] at h ⊢
  intro x hx
  unfold cutS at hx
  simp only [List.mem_toArray] at hx
  exact h x (by simpa using List.mem_of_mem_drop (List.mem_of_mem_take hx))
def liftO (G : Cfg) (W : WX) (m : Env → Store → Res (Option Int)) : TO := fun σ H Q => ∃ μ env S, Sim G μ S H ∧ REnv μ H env σ ∧ After G W σ μ H (m env S) fun o _ _ H' => Q o H'
theorem do_none : PO X none (liftO G W fun env S => if false then (ev G' ft pa env S).bind optI else .ok none S) :=
  ⟨fun pins s σ H Q I ⟨μ, env, S, sm, e, h⟩ => po_none.run pins s σ H Q I (h.here sm)⟩
theorem do_some (ha : PE X a (lift G W (ev G' ft pa))) : PO X (some a) (liftO G W fun env S => if true then (ev G' ft pa env S).bind optI else .ok none S) := by
  refine ⟨fun pins s σ H Q I h => (po_some ha).run pins s σ H Q I ?_⟩
  obtain ⟨μ, env, S, sm, e, h⟩ := h
  dsimp only at h
  rw [if_pos rfl] at h
  refine ⟨μ, env, S, sm, e, h.bind.imp fun v μ1 S1 H1 u k s1 h1 x r => ?_⟩
  cases v with
  | int i => cases r; exact ⟨i, rfl, h1.here s1⟩
  | _ => exact h1.elim
theorem de_sl {lo hi : Option Expr} {hl hh : Bool} {p2 : Pos} (hK : G.K = X.K) (ha : PE X a (lift G W (ev G' ft pa))) (hlo : PO X lo (liftO G W fun env S => if hl then (ev G' ft pb env S).bind optI else .ok none S))
    (hhi : PO X hi (liftO G W fun env S => if hh then (ev G' ft pc env S).bind optI else .ok none S)) : PE X (.Subscript a (.Slice lo hi none p2) pos) (lift G W (ev G' ft (.sl pa hl pb hh pc))) := by
  refine (pe_slice (SlR.or (SlR.or sl_list sl_tupA) sl_str) ha hlo hhi).imp fun σ H Q h => ?_
  obtain ⟨μ, env, S, s, e, h⟩ := h
  simp only [ev] at h
  refine ⟨μ, env, S, s, e, h.bind.imp fun v μ1 S1 H1 u1 k1 s1 h1 x rx => ⟨μ1, env, S1, s1, e.mono u1 k1, h1.bind.imp fun l μ2 S2 H2 u2 k2 s2 h2 => ⟨μ2, env, S2, s2, (e.mono u1 k1).mono u2 k2, h2.bind.imp fun th μ3 S3 H3 u3 k3 s3 h3 => ?_⟩⟩⟩
  have rx' := (rx.mono u2 k2 _ _).mono u3 k3 _ _
  unfold slV at h3
  split at h3
  · cases rx' with
    | str hs =>
    split at h3
    · rename_i hz
      exact .inr ⟨_, rfl, by rw [← line_eq]; exact hz, h3.val s3 (.str (sOk_cut hs))⟩
    · exact h3.elim
  · cases rx' with
    | tup hs t =>
    refine .inl (.inr ⟨_, _, rfl, SqT.of hs, fun hw => ?_, fun _ p hp => h3.tup s3 (cut_rel t) hp⟩)
    refine h3.val s3 (.tup hs ?_)
    have z : ∀ (xs : List Val) (ys : List V), RVs μ3 H3 xs ys → HT.sIx ys.length 0 l = 0 ∧ HT.sIx ys.length ys.length th = ys.length → cut xs l th = xs := fun xs ys t hw => by
      unfold cut
      rw [t.length, hw.1, hw.2]
      simp [← t.length]
    rw [z _ _ t hw]; exact t
  · cases rx' with
    | obj hs =>
    split at h3
    · rename_i eo
      obtain ⟨p, ys, g1, g2, g3⟩ := s3.lstR eo
      rw [hs] at g1; cases g1
      exact .inl (.inl ⟨_, _, rfl, by rw [← hK]; exact g2, fun p hp => h3.lst s3 (cut_rel g3) hp⟩)
    · exact h3.elim
  · exact h3.elim

/-! ## fields -/
/-- what the tables say is true of the text -/
structure ClsOk (G : Cfg) (G' : Tab) : Prop where
  cls : ∀ c f, G'.isF c f = true → Cls G.K (G.ca c)
  fld : ∀ c f, G'.isF c f = true → NoAttr G.K (G.ca c) (G.nm f) ∧ f < G.NM.length
theorem de_fld {f : Nat} {x : Str} (C : ClsOk G G') (hK : G.K = X.K) (hx : G.nm f = x) (ha : PE X a (lift G W (ev G' ft pa))) (hb : attributeBase a x X.env (eval a X.env) = eval a X.env) : PE X (.Attribute a x pos) (lift G W (ev G' ft (.fld pa f))) := by
  refine (pe_fld ha hb).imp fun σ H Q h => ?_
  have h2 := one (f := fun x _ S1 => fldV G' f x S1) (by simp only [lift, ev] at h; exact h)
  refine lift_mono h2 fun y H1 ⟨μ, env, v, S, s, e, r, q⟩ => ?_
  unfold fldV at q
  split at q
  · cases r with
    | obj hs =>
    split at q
    · rename_i c fs eo
      split at q
      · rename_i hF
        obtain ⟨w, ew, q⟩ := q.ofO
        obtain ⟨p, dx, ys, g1, g2, g3⟩ := s.ins eo
        rw [hs] at g1; cases g1
        obtain ⟨n1, n2⟩ := C.fld c f hF
        obtain ⟨z, e1, r1⟩ := (g3.get n2).1 w ew
        rw [← hK, ← hx]
        exact ⟨_, _, dx, ys, z, rfl, g2, C.cls c f hF, n1, e1, q.val s r1⟩
      · exact q.elim
    · exact q.elim
  · exact q.elim

/-! ## a dict's display -/
/-- the pairs of a display, from the left -/
theorem pairs_nil {σ : St} {H : Hp} {d : Nat} {acc : List (Key × Val)} {xs : List (Key × V)} {p : Addr} {μ : List Addr} {env : Env} {S : Store} (s : Sim G μ S H) (r : RKv μ H acc xs) (ok : ∀ q ∈ acc, kOk q.1 = true) (hd : μ[d]? = some p)
    (h : After G W σ μ H (evP G' ft .nil env d acc S) (Kv Q)) : H p = some (.dK []) ∧ xs.length ≤ 15 ∧ Q (.ref p) (upd H p (.dK (mergeK [] xs))) := by
  simp only [evP] at h
  unfold dispV at h
  split at h
  · rename_i eo
    obtain ⟨q, ys, g1, g2, g3, _⟩ := s.dK eo
    rw [hd] at g1; cases g1
    split at h
    · rename_i hl
      have e0 : ys = [] := by cases ys with | nil => rfl | cons _ _ => exact g3.elim
      subst e0
      refine ⟨g2, by rw [← r.length]; exact hl, h.put s eo rfl rfl hd ⟨_, upd_same, ?_, ?_⟩ (.obj hd)⟩
      · have kp : Keep H (upd H p (.dK (mergeK [] xs))) := Keep.upd g2 ⟨(fun _ z => by cases z), (fun _ _ z => by cases z)⟩
        exact (RKv.merge r (a := []) (b := []) trivial).mono (Up.refl _) kp
      · intro z hz
        have : ∀ (m kv : List (Key × Val)), (∀ q ∈ m, kOk q.1 = true) → (∀ q ∈ kv, kOk q.1 = true) → ∀ z ∈ merge kv m, kOk z.1 = true := by
          intro m
          induction m with
          | nil => intro kv _ h2 z hz; exact h2 z hz
          | cons q m ih =>
            intro kv h1 h2 z hz
            refine ih (put kv q.1 q.2) (fun w hw => h1 w (by simp [hw])) (fun w hw => ?_) z hz
            unfold put at hw
            split at hw
            · obtain ⟨y, hy, ey⟩ := List.mem_map.mp hw
              split at ey
              · subst ey; exact h2 y hy
              · subst ey; exact h2 y hy
            · rcases List.mem_append.mp hw with hw | hw
              · exact h2 w hw
              · simp at hw; subst hw; exact h1 q (by simp)
        exact this acc [] ok (by simp) z hz
    · exact h.elim
  · exact h.elim
/-- the display's readings: pairs of trees -/
inductive DispL (G : Cfg) (W : WX) (X : Cx) (G' : Tab) (ft : Fns) : List (Option Expr) → List Expr → PyE → Prop
  | nil : DispL G W X G' ft [] [] .nil
  | cons {k v : Expr} {ks : List (Option Expr)} {vs : List Expr} {pk pv pr : PyE} (hk : PE X k (lift G W (ev G' ft pk))) (hv : PE X v (lift G W (ev G' ft pv))) (t : DispL G W X G' ft ks vs pr) : DispL G W X G' ft (some k :: ks) (v :: vs) (.cons pk (.cons pv pr))
theorem disp_read {ks : List (Option Expr)} {vs : List Expr} {pr : PyE} (h : DispL G W X G' ft ks vs pr) : ∃ trs, PPs X pos ks vs trs ∧ ∀ (σ : St) (H : Hp) (d : Nat) (acc : List (Key × Val)) (xs : List (Key × V)) (p : Addr) (μ : List Addr) (env : Env) (S : Store) (Q : VK) (R : List (V × V) → Hp → Prop),
    Sim G μ S H → REnv μ H env σ → RKv μ H acc xs → (∀ q ∈ acc, kOk q.1 = true) → μ[d]? = some p → After G W σ μ H (evP G' ft pr env d acc S) (Kv Q) →
    (∀ kvs H2, H2 p = some (.dK []) → xs.length + kvs.length ≤ 15 → Q (.ref p) (upd H2 p (.dK (mergeK [] (xs ++ kvs)))) → R (kvs.map (fun kv => (kV kv.1, kv.2))) H2) → tPairs trs σ H R := by
  induction h with
  | nil =>
    refine ⟨[], pps_nil, fun σ H d acc xs p μ env S Q R s e r ok hd q hR => ?_⟩
    obtain ⟨h1, h2, h3⟩ := pairs_nil s r ok hd q
    exact hR [] H h1 (by simpa using h2) (by simpa using h3)
  | cons hk hv t ih =>
    obtain ⟨trs, pp, ih⟩ := ih
    refine ⟨_ :: trs, pps_cons hk hv pp, fun σ H d acc xs p μ env S Q R s e r ok hd q hR => ?_⟩
    simp only [evP] at q
    refine ⟨μ, env, S, s, e, q.bind.imp fun kv μ1 S1 H1 u1 k1 s1 h1 x rx => ?_⟩
    cases ek : keyOf kv with
    | none => rw [ek] at h1; exact h1.elim
    | some k =>
      rw [ek] at h1
      simp only [evQ] at h1
      obtain ⟨ex, _, okk⟩ := key_rel rx ek
      refine ⟨μ1, env, S1, s1, e.mono u1 k1, h1.bind.imp fun v μ2 S2 H2 u2 k2 s2 h2 y ry => ?_⟩
      have r2 := (r.mono u1 k1).mono u2 k2
      refine ih σ H2 d (acc ++ [(k, v)]) (xs ++ [(k, y)]) p μ2 env S2 Q _ s2 ((e.mono u1 k1).mono u2 k2) (r2.app ⟨rfl, ry, trivial⟩) (fun q hq => ?_) (u2 _ _ (u1 _ _ hd)) h2 fun kvs H3 g1 g2 g3 => ?_
      · rcases List.mem_append.mp hq with hq | hq
        · exact ok q hq
        · simp at hq; subst hq; exact okk
      · have := hR ((k, y) :: kvs) H3 g1 (by simp only [List.length_append, List.length_cons, List.length_nil] at g2 ⊢; omega) (by simpa using g3)
        rw [ex]; exact this
theorem de_disp {ks : List (Option Expr)} {vs : List Expr} {pr : PyE} (h : DispL G W X G' ft ks vs pr) (h0 : ks ≠ []) (h15 : ks.length ≤ 15) : PE X (.Dict ks vs pos) (lift G W (ev G' ft (.disp pr))) := by
  have hall : ks.all (·.isSome) = true ∧ ks.length = vs.length := by
    clear h0 h15
    induction h with
    | nil => exact ⟨rfl, rfl⟩
    | cons _ _ _ ih => exact ⟨by simpa using ih.1, by simp [ih.2]⟩
  obtain ⟨trs, pp, hr⟩ := disp_read (pos := pos) h
  refine (pe_disp pp hall.1 hall.2 h0 h15).imp fun σ H Q ⟨μ, env, S, s, e, q⟩ p hp => ?_
  simp only [ev] at q
  have s' : Sim G (μ ++ [p]) (S ++ [.dK false []]) (upd H p (.dK [])) := s.alloc hp rfl ⟨[], upd_same, trivial, by simp⟩
  refine hr σ _ S.length [] [] p _ env _ Q _ s' (e.mono (Up.app _ _) (Keep.new hp)) trivial (by simp) (by rw [← s.len]; simp) (After.later q (Up.app _ _) (Keep.new hp)) fun kvs H2 g1 g2 g3 => ⟨g1, kvs, rfl, by simpa using g2, by simpa using g3⟩
end
end Nw

set_option Elab.async false
set_option linter.all false
set_option maxRecDepth 100000
set_option maxHeartbeats 1000000
namespace Nw
open PySem L2

section
variable {α β : Type} {G : Cfg} {W : WX} {X : Cx} {σ : St} {μ : List Addr} {H : Hp} {S : Store} {Q : VK} {G' : Tab} {ft : Fns}

/-- a built-in's call by values -/
def StA (X : Cx) (f : Store → List Val → Res Val) : List V → Hp → VK → Prop := fun xs H Q => ∃ (G : Cfg) (W : WX) (σ : St) (μ : List Addr) (vs : List Val) (S : Store), G.K = X.K ∧ Sim G μ S H ∧ RVs μ H vs xs ∧ After G W σ μ H (f S vs) (Kv Q)
theorem de_bi {e : Expr} {pa : PyE} {b : Bi} (hK : G.K = X.K) (h : PE X e (tCB (StA X (biV b)) (liftA G W (evA G' ft pa)))) : PE X e (lift G W (ev G' ft (.bi b pa))) := by
  refine h.imp fun σ H Q h => ?_
  have h2 := oneA (f := fun vs _ S1 => biV b S1 vs) (by simp only [lift, ev] at h; exact h)
  obtain ⟨μ, env, S, s, e, h2⟩ := h2
  refine ⟨μ, env, S, s, e, h2.imp fun vs μ1 S1 H1 u1 k1 s1 h1 xs rxs => ?_⟩
  obtain ⟨μ2, env2, vs2, S2, s2, e2, r2, q⟩ := h1 xs rxs
  exact ⟨G, W, σ, μ2, vs2, S2, hK, s2, r2, q⟩
theorem RVs.one_inv {v : Val} {xs : List V} (r : RVs μ H [v] xs) : ∃ x, xs = [x] ∧ RV μ H v x := by
  cases r with | cons h t => cases t; exact ⟨_, rfl, h⟩
theorem RVs.two_inv {v w : Val} {xs : List V} (r : RVs μ H [v, w] xs) : ∃ x y, xs = [x, y] ∧ RV μ H v x ∧ RV μ H w y := by
  cases r with | cons h t => obtain ⟨y, e, h2⟩ := t.one_inv; subst e; exact ⟨_, y, rfl, h, h2⟩
theorem bi_len : CallR X (.builtin "len") (StA X lenV) := by
  intro pins s σ H xs us Q I r h
  obtain ⟨G, W, σ', μ, vs, S, hK, sm, rs, h⟩ := h
  unfold lenV at h
  split at h
  · obtain ⟨x, rfl, rv⟩ := rs.one_inv
    cases rv with
    | str hs =>
    split at h
    · rename_i hl
      exact call_len pins s σ H _ us Q I r ⟨_, _, rfl, ⟨by rw [← line_eq]; exact hl, rfl⟩, h.val sm (.int _)⟩
    · exact h.elim
  · obtain ⟨x, rfl, rv⟩ := rs.one_inv
    cases rv with
    | tup hs t =>
    exact call_len pins s σ H _ us Q I r ⟨_, _, rfl, .inr ⟨_, SqT.of hs, rfl⟩, by rw [← t.length]; exact h.val sm (.int _)⟩
  · obtain ⟨x, rfl, rv⟩ := rs.one_inv
    cases rv with
    | obj hs =>
    split at h
    · rename_i eo
      obtain ⟨p, ys, g1, g2, g3⟩ := sm.lstR eo
      rw [hs] at g1; cases g1
      exact call_len pins s σ H _ us Q I r ⟨_, _, rfl, .inl ⟨_, by rw [← hK]; exact g2, rfl⟩, by rw [← g3.length]; exact h.val sm (.int _)⟩
    · rename_i eo
      obtain ⟨p, ys, g1, g2, g3, _⟩ := sm.dK eo
      rw [hs] at g1; cases g1
      exact call_lenD pins s σ H _ us Q I r ⟨_, _, rfl, g2, by rw [← g3.length]; exact h.val sm (.int _)⟩
    · rename_i eo
      obtain ⟨p, ys, g1, g2, g3, _⟩ := sm.dT eo
      rw [hs] at g1; cases g1
      exact call_len_dT pins s σ H _ us Q I r ⟨_, _, rfl, g2, by rw [← g3.length]; exact h.val sm (.int _)⟩
    · exact h.elim
  · exact h.elim
theorem bi_int : CallR X (.type "int") (StA X intV) := by
  intro pins s σ H xs us Q I r h
  obtain ⟨G, W, σ', μ, vs, S, hK, sm, rs, h⟩ := h
  unfold intV at h
  split at h
  · obtain ⟨x, rfl, rv⟩ := rs.one_inv
    cases rv
    exact call_int1 pins s σ H _ us Q I r (.inl ⟨_, rfl, h.val sm (.int _)⟩)
  · obtain ⟨x, rfl, rv⟩ := rs.one_inv
    cases rv
    exact call_int1 pins s σ H _ us Q I r (.inr ⟨_, rfl, h.val sm (.int _)⟩)
  · obtain ⟨x, rfl, rv⟩ := rs.one_inv
    cases rv with
    | str hs =>
    split at h
    · rename_i n e
      split at h
      · rename_i hl
        exact call_int_str pins s σ H _ us Q I r ⟨_, n, rfl, e, hl, h.val sm (.int _)⟩
      · exact h.elim
    · exact h.elim
  · exact h.elim
theorem sOk_ofString (z : String) : sOk (Str.ofString z) = true := by
  rw [Str.ofString_eq_toList]
  unfold sOk
  rw [Array.all_eq_true_iff_forall_mem]
  intro x hx
  simp only [List.mem_toArray, List.mem_map] at hx
  obtain ⟨c, _, e⟩ := hx
  subst e
  have h := c.valid
  simp only [UInt32.isValidChar, Nat.isValidChar] at h
  have e : c.toNat = c.val.toNat := rfl
  simp only [decide_eq_true_eq]
  omega
theorem bi_str : CallR X (.type "str") (StA X strV) := by
  intro pins s σ H xs us Q I r h
  obtain ⟨G, W, σ', μ, vs, S, hK, sm, rs, h⟩ := h
  unfold strV at h
  split at h
  · obtain ⟨x, rfl, rv⟩ := rs.one_inv
    cases rv
    split at h
    · rename_i hl
      exact call_str_int pins s σ H _ us Q I r ⟨_, rfl, hl, h.val sm (.str (sOk_ofString _))⟩
    · exact h.elim
  · obtain ⟨x, rfl, rv⟩ := rs.one_inv
    cases rv with
    | str hs =>
    exact SkE.call_str_str pins s σ H _ us Q I r ⟨_, rfl, h.val sm (.str hs)⟩
  · exact h.elim
theorem bi_tuple : CallR X (.type "tuple") (StA X tupV) := by
  intro pins s σ H xs us Q I r h
  obtain ⟨G, W, σ', μ, vs, S, hK, sm, rs, h⟩ := h
  unfold tupV at h
  split at h
  · obtain ⟨x, rfl, rv⟩ := rs.one_inv
    cases rv with
    | tup hs t =>
    exact call_tuple_of pins s σ H _ us Q I r ⟨_, _, rfl, .inr ⟨SqT.of hs, h.val sm (.tup hs t)⟩⟩
  · obtain ⟨x, rfl, rv⟩ := rs.one_inv
    cases rv with
    | obj hs =>
    split at h
    · rename_i eo
      obtain ⟨p, ys, g1, g2, g3⟩ := sm.lstR eo
      rw [hs] at g1; cases g1
      exact call_tuple_of pins s σ H _ us Q I r ⟨_, _, rfl, .inl ⟨by rw [← hK]; exact g2, fun l hl => h.tup sm g3 hl⟩⟩
    · exact h.elim
  · exact h.elim
theorem keys_rv : ∀ {kvs : List (Key × Val)} {ys : List (Key × V)}, RKv μ H kvs ys → (∀ p ∈ kvs, kOk p.1 = true) → RVs μ H (kvs.map fun kv => keyV kv.1) (ys.map fun kv => kV kv.1)
  | [], [], _, _ => .nil
  | (k, v) :: r, (k', x) :: r', ⟨h1, h2, h3⟩, ok => by
    subst h1
    exact .cons (RV.key (ok (k, v) (by simp))) (keys_rv h3 fun p hp => ok p (by simp [hp]))
  | [], _ :: _, h, _ => h.elim
  | _ :: _, [], h, _ => h.elim
theorem keyVs : ∀ {ks : List Key}, (∀ k ∈ ks, kOk k = true) → RVs μ H (ks.map keyV) (ks.map kV)
  | [], _ => .nil
  | k :: r, h => .cons (RV.key (h k (by simp))) (keyVs fun z hz => h z (by simp [hz]))
theorem keysT_rv : ∀ {kvs : List (List Key × Val)} {ys : List (List Key × V)} {bs : List Addr}, RKv μ H kvs ys → (∀ p ∈ kvs, ∀ k ∈ p.1, kOk k = true) → IsKeys H ys bs → RVs μ H (kvs.map fun kv => Val.tup (kv.1.map keyV)) (bs.map V.ref)
  | [], [], _, _, _, h => by cases h; exact .nil
  | (k, v) :: r, (k', x) :: r', _, ⟨h1, h2, h3⟩, ok, h => by
    subst h1
    cases h with
    | cons a t => exact .cons (.tup a (keyVs (ok (k, v) (by simp)))) (keysT_rv h3 (fun p hp => ok p (by simp [hp])) t)
  | [], _ :: _, _, h, _, _ => h.elim
  | _ :: _, [], _, h, _, _ => h.elim
theorem bi_list (hc : X.calm = true) : CallR X (.type "list") (StA X lstV) := by
  intro pins s σ H xs us Q I r h
  obtain ⟨G, W, σ', μ, vs, S, hK, sm, rs, h⟩ := h
  unfold lstV at h
  split at h
  · obtain ⟨x, rfl, rv⟩ := rs.one_inv
    cases rv with
    | tup hs t =>
    exact call_list_of pins s σ H _ us Q I r ⟨_, _, rfl, .inr (SqT.of hs), fun l hl => h.lst sm t hl⟩
  · obtain ⟨x, rfl, rv⟩ := rs.one_inv
    cases rv with
    | obj hs =>
    split at h
    · rename_i eo
      obtain ⟨p, ys, g1, g2, g3⟩ := sm.lstR eo
      rw [hs] at g1; cases g1
      exact call_list_of pins s σ H _ us Q I r ⟨_, _, rfl, .inl (by rw [← hK]; exact g2), fun l hl => h.lst sm g3 hl⟩
    · rename_i eo
      obtain ⟨p, ys, g1, g2, g3, g4⟩ := sm.dKR eo
      rw [hs] at g1; cases g1
      exact call_listD hc pins s σ H _ us Q I r ⟨_, _, rfl, g2, fun l hl => h.lst sm (keys_rv g3 g4) hl⟩
    · rename_i eo
      obtain ⟨p, ys, g1, g2, g3, g4⟩ := sm.dTR eo
      rw [hs] at g1; cases g1
      exact call_list_dT hc pins s σ H _ us Q I r ⟨_, _, rfl, g2, fun l bs hl hb => h.lst sm (keysT_rv g3 g4 hb) hl⟩
    · exact h.elim
  · exact h.elim
theorem ins_perm (i : Int) : ∀ l : List Int, (insI i l).Perm (i :: l)
  | [] => .refl _
  | j :: r => by
    unfold insI
    split
    · exact .refl _
    · exact ((ins_perm i r).cons j).trans (.swap i j r)
theorem sort_perm : ∀ l : List Int, (sortI l).Perm l
  | [] => .refl _
  | j :: r => (ins_perm j (sortI r)).trans ((sort_perm r).cons j)
theorem ins_sorted (i : Int) : ∀ {l : List Int}, l.Pairwise (· ≤ ·) → (insI i l).Pairwise (· ≤ ·)
  | [], _ => by simp [insI]
  | j :: r, h => by
    have h2 := List.pairwise_cons.mp h
    unfold insI
    split
    · rename_i hl
      refine List.pairwise_cons.mpr ⟨fun a ha => ?_, h⟩
      rcases List.mem_cons.mp ha with e | ha
      · subst e; exact hl
      · exact Int.le_trans hl (h2.1 a ha)
    · rename_i hl
      refine List.pairwise_cons.mpr ⟨fun a ha => ?_, ins_sorted i h2.2⟩
      rcases List.mem_cons.mp ((ins_perm i r).mem_iff.mp ha) with e | ha
      · subst e; omega
      · exact h2.1 a ha
theorem sort_sorted : ∀ l : List Int, (sortI l).Pairwise (· ≤ ·)
  | [] => List.Pairwise.nil
  | j :: r => ins_sorted j (sort_sorted r)
theorem insS_perm (i : Str) : ∀ l : List Str, (insS i l).Perm (i :: l)
  | [] => .refl _
  | j :: r => by
    unfold insS
    split
    · exact .refl _
    · exact ((insS_perm i r).cons j).trans (.swap i j r)
theorem sortS_perm : ∀ l : List Str, (sortS l).Perm l
  | [] => .refl _
  | j :: r => (insS_perm j (sortS r)).trans ((sortS_perm r).cons j)
theorem leS_iff {a b : Str} : leS a b = true ↔ a.cps.toList ≤ b.cps.toList := by
  unfold leS
  simp [List.not_lt]
theorem leS_trans {a b c : Str} (h1 : leS a b = true) (h2 : leS b c = true) : leS a c = true := leS_iff.mpr (List.le_trans (leS_iff.mp h1) (leS_iff.mp h2))
theorem leS_total {a b : Str} (h : leS a b ≠ true) : leS b a = true := by
  rw [Ne, leS_iff] at h
  exact leS_iff.mpr ((List.le_total a.cps.toList b.cps.toList).resolve_left h)
theorem leS_anti {a b : Str} (h1 : leS a b = true) (h2 : leS b a = true) : a = b := by
  have := List.le_antisymm (leS_iff.mp h1) (leS_iff.mp h2)
  cases a; cases b
  simp at this
  rw [this]
theorem insS_sorted (i : Str) : ∀ {l : List Str}, l.Pairwise (fun a b => leS a b = true) → (insS i l).Pairwise (fun a b => leS a b = true)
  | [], _ => by simp [insS]
  | j :: r, h => by
    have h2 := List.pairwise_cons.mp h
    unfold insS
    split
    · rename_i hl
      refine List.pairwise_cons.mpr ⟨fun a ha => ?_, h⟩
      rcases List.mem_cons.mp ha with e | ha
      · subst e; exact hl
      · exact leS_trans hl (h2.1 a ha)
    · rename_i hl
      refine List.pairwise_cons.mpr ⟨fun a ha => ?_, insS_sorted i h2.2⟩
      rcases List.mem_cons.mp ((insS_perm i r).mem_iff.mp ha) with e | ha
      · subst e; exact leS_total hl
      · exact h2.1 a ha
theorem sortS_sorted : ∀ l : List Str, (sortS l).Pairwise (fun a b => leS a b = true)
  | [] => List.Pairwise.nil
  | j :: r => insS_sorted j (sortS_sorted r)
theorem risingS_pw : ∀ {l : List Str} {p : Str}, PyProof.Rows.risingS p l = true → (∀ x ∈ l, leS p x = true) ∧ l.Pairwise (fun a b => leS a b = true)
  | [], p, _ => ⟨by simp, .nil⟩
  | x :: r, p, h => by
    simp only [PyProof.Rows.risingS, Bool.and_eq_true] at h
    obtain ⟨h1, h2⟩ := h
    have hx : leS p x = true := by
      unfold leS
      rw [PyProof.Rows.ltCps_eq] at h1
      exact h1
    obtain ⟨i1, i2⟩ := risingS_pw h2
    refine ⟨fun y hy => ?_, List.pairwise_cons.mpr ⟨i1, i2⟩⟩
    rcases List.mem_cons.mp hy with e | hy
    · subst e; exact hx
    · exact leS_trans hx (i1 y hy)
theorem sortedS_pw : ∀ {l : List Str}, PyProof.Rows.sortedS l = true → l.Pairwise (fun a b => leS a b = true)
  | [], _ => .nil
  | x :: r, h => List.pairwise_cons.mpr (risingS_pw h)
theorem bi_sorted : CallR X (.builtin "sorted") (StA X sortV) := by
  intro pins s σ H xs us Q I r h
  obtain ⟨G, W, σ', μ, vs, S, hK, sm, rs, h⟩ := h
  unfold sortV at h
  split at h
  · obtain ⟨x, rfl, rv⟩ := rs.one_inv
    cases rv with
    | obj hs =>
    split at h
    · rename_i eo
      obtain ⟨p, ys, g1, g2, g3⟩ := sm.lstR eo
      rw [hs] at g1; cases g1
      split at h
      · rename_i ns en
        obtain ⟨e1, e2⟩ := g3.ints en
        subst e1
        refine cr_sortedI pins s σ H _ us Q I r ⟨_, ns, rfl, by rw [← hK]; exact g2, fun ns' l pm pw hl => ?_⟩
        have e3 : ns' = sortI ns := PySem.W.ksm_same (pm.trans (sort_perm ns).symm) pw (sort_sorted ns)
        subst e3
        exact h.lst sm (RVs.of_ints _) hl
      · split at h
        · rename_i ss es
          obtain ⟨e1, e2, e3⟩ := g3.strs es
          subst e1
          split at h
          · rename_i hz
            refine cr_sortedS pins s σ H _ us Q I r ⟨_, ss, rfl, by rw [← hK]; exact g2, hz, fun ss' l pm pw hl => ?_⟩
            have e4 : ss' = sortS ss := List.Perm.eq_of_pairwise (fun a b _ _ h1 h2 => leS_anti h1 h2) (sortedS_pw pw) (sortS_sorted ss) (pm.trans (sortS_perm ss).symm)
            subst e4
            exact h.lst sm (RVs.of_strs _ fun z hz => e3 z ((sortS_perm ss).mem_iff.mp hz)) hl
          · exact h.elim
        · exact h.elim
    · exact h.elim
  · exact h.elim
theorem bi_sum (hc : X.calm = true) : CallR X (.builtin "sum") (StA X sumV) := by
  intro pins s σ H xs us Q I r h
  obtain ⟨G, W, σ', μ, vs, S, hK, sm, rs, h⟩ := h
  unfold sumV at h
  split at h
  · obtain ⟨x, rfl, rv⟩ := rs.one_inv
    cases rv with
    | obj hs =>
    split at h
    · rename_i eo
      obtain ⟨p, ys, g1, g2, g3⟩ := sm.lstR eo
      rw [hs] at g1; cases g1
      split at h
      · rename_i ns en
        obtain ⟨e1, e2⟩ := g3.ints en
        subst e1
        exact cr_sum hc pins s σ H _ us Q I r ⟨_, ns, rfl, by rw [← hK]; exact g2, h.val sm (.int _)⟩
      · exact h.elim
    · exact h.elim
  · exact h.elim
theorem bi_all (hc : X.calm = true) : CallR X (.builtin "all") (StA X allV) := by
  intro pins s σ H xs us Q I r h
  obtain ⟨G, W, σ', μ, vs, S, hK, sm, rs, h⟩ := h
  unfold allV at h
  split at h
  · obtain ⟨x, rfl, rv⟩ := rs.one_inv
    cases rv with
    | obj hs =>
    split at h
    · rename_i eo
      obtain ⟨p, ys, g1, g2, g3⟩ := sm.lstR eo
      rw [hs] at g1; cases g1
      split at h
      · rename_i ns en
        have e1 := g3.bools en
        subst e1
        exact cr_all hc pins s σ H _ us Q I r ⟨_, ns, rfl, by rw [← hK]; exact g2, h.val sm (.bl _)⟩
      · exact h.elim
    · exact h.elim
  · exact h.elim
theorem min_fold : ∀ (r : List Int) (i : Int), r.foldl min i ∈ i :: r ∧ ∀ y ∈ i :: r, r.foldl min i ≤ y
  | [], i => by simp
  | j :: r, i => by
    obtain ⟨h1, h2⟩ := min_fold r (min i j)
    simp only [List.foldl_cons]
    refine ⟨?_, fun y hy => ?_⟩
    · rcases List.mem_cons.mp h1 with e | h
      · rw [e]
        by_cases hij : i ≤ j
        · rw [Int.min_eq_left hij]; simp
        · rw [Int.min_eq_right (by omega)]; simp
      · simp [h]
    · have hm := h2 (min i j) (by simp)
      rcases List.mem_cons.mp hy with e | hy
      · subst e; exact Int.le_trans hm (Int.min_le_left _ _)
      · rcases List.mem_cons.mp hy with e | hy
        · subst e; exact Int.le_trans hm (Int.min_le_right _ _)
        · exact h2 y (by simp [hy])
theorem bi_min1 (hc : X.calm = true) : CallR X (.builtin "min") (StA X min1V) := by
  intro pins s σ H xs us Q I r h
  obtain ⟨G, W, σ', μ, vs, S, hK, sm, rs, h⟩ := h
  unfold min1V at h
  split at h
  · obtain ⟨x, rfl, rv⟩ := rs.one_inv
    cases rv with
    | obj hs =>
    split at h
    · rename_i eo
      obtain ⟨p, ys, g1, g2, g3⟩ := sm.lstR eo
      rw [hs] at g1; cases g1
      split at h
      · rename_i m en
        obtain ⟨ns, en, em⟩ := Option.bind_eq_some_iff.mp en
        obtain ⟨e1, e2⟩ := g3.ints en
        subst e1
        cases ns with
        | nil => cases em
        | cons i r' =>
          cases em
          obtain ⟨m1, m2⟩ := min_fold r' i
          refine cr_min hc pins s σ H _ us Q I r ⟨_, _, rfl, by rw [← hK]; exact g2, by simp, fun m hm hle => ?_⟩
          have : m = r'.foldl min i := Int.le_antisymm (hle _ m1) (m2 m hm)
          subst this
          exact h.val sm (.int _)
      · exact h.elim
    · exact h.elim
  · exact h.elim
theorem bi_min2 (hc : X.calm = true) : CallR X (.builtin "min") (StA X min2V) := by
  intro pins s σ H xs us Q I r h
  obtain ⟨G, W, σ', μ, vs, S, hK, sm, rs, h⟩ := h
  unfold min2V at h
  split at h
  · obtain ⟨x, y, rfl, r1, r2⟩ := rs.two_inv
    cases r1; cases r2
    exact call_min2 hc pins s σ H _ us Q I r ⟨_, _, rfl, h.val sm (.int _)⟩
  · exact h.elim
theorem bi_max2 (hc : X.calm = true) : CallR X (.builtin "max") (StA X max2V) := by
  intro pins s σ H xs us Q I r h
  obtain ⟨G, W, σ', μ, vs, S, hK, sm, rs, h⟩ := h
  unfold max2V at h
  split at h
  · obtain ⟨x, y, rfl, r1, r2⟩ := rs.two_inv
    cases r1; cases r2
    exact call_max2 hc pins s σ H _ us Q I r ⟨_, _, rfl, h.val sm (.int _)⟩
  · exact h.elim

/-! ## isinstance -/
def tyN : Ty → String
  | .int => "int" | .bool => "bool" | .str => "str" | .tuple => "tuple" | .list => "list" | .dict => "dict"
theorem kit_all (n : String) (t : Ty) (b : Bool) (K : PySem.W.Frag) (h : kitB n (tyN t) = some b) : PySem.W.kitOne K (.type n) (.type (tyN t)) = some b := kit_ty h
theorem isi_rel (sm : Sim G μ S H) {v : Val} {x : V} {t : Ty} {b : Bool} (r : RV μ H v x) (e : isiV t S v = some b) : ∃ n, TyX G.K H x (.type n) ∧ kitB n (tyN t) = some b := by
  cases v with
  | non => cases r; simp [isiV] at e; subst e; exact ⟨"NoneType", .base .non, by cases t <;> decide +kernel⟩
  | bl z => cases r; simp [isiV] at e; subst e; exact ⟨"bool", .base (.bl _), by cases t <;> decide +kernel⟩
  | int z => cases r; simp [isiV] at e; subst e; exact ⟨"int", .base (.int _), by cases t <;> decide +kernel⟩
  | str z => cases r with | str hs => simp [isiV] at e; subst e; exact ⟨"str", .base (.str _), by cases t <;> decide +kernel⟩
  | tup z => cases r with | tup hs tt => simp [isiV] at e; subst e; exact ⟨"tuple", .base (.tup hs), by cases t <;> decide +kernel⟩
  | obj i =>
    cases r with
    | obj hs =>
    simp only [isiV] at e
    split at e
    · rename_i l xs eo
      cases e
      obtain ⟨p, g1, g2⟩ := sm.ob i _ eo
      rw [hs] at g1; cases g1
      refine ⟨"list", ?_, by cases t <;> decide +kernel⟩
      cases l with
      | false => obtain ⟨ys, g2, _⟩ := g2; exact .base (.lst g2)
      | true =>
        obtain ⟨ys, g2, _⟩ := g2
        rcases g2 with ⟨o, g2⟩ | ⟨o, its, n, g2, g3, _⟩
        · exact .base (.frz g2)
        · exact .kList g2 g3
    · rename_i eo
      cases e
      obtain ⟨p, ys, g1, g2, _⟩ := sm.dK eo
      rw [hs] at g1; cases g1
      exact ⟨"dict", .base (.dK g2), by cases t <;> decide +kernel⟩
    · rename_i eo
      cases e
      obtain ⟨p, ys, g1, g2, _⟩ := sm.dT eo
      rw [hs] at g1; cases g1
      exact ⟨"dict", .base (.dT g2), by cases t <;> decide +kernel⟩
    · cases e
  | fn _ _ => cases r
theorem de_isi {e : Expr} {pa : PyE} {t : Ty} {a b : Expr} {te : TE} (hK : G.K = X.K) (ha : PE X a (lift G W (ev G' ft pa)))
    (h : PE X e (tCB (rIsi X.K) (tCons (lift G W (ev G' ft pa)) (tCons (tC (.ty (tyN t))) tNil)))) : PE X e (lift G W (ev G' ft (.bi (.isi t) (.cons pa .nil)))) := by
  refine h.imp fun σ H Q h => ?_
  have h2 := one (f := fun v _ S1 => Res.ofO ((isiV t S1 v).map Val.bl) S1) (k := Kv Q) (by
    obtain ⟨μ, env, S, s, e, h⟩ := h
    refine ⟨μ, env, S, s, e, ?_⟩
    simp only [ev, evA] at h
    have e2 : (((ev G' ft pa env S).bind fun x S1 => (Res.ok [] S1).bind fun xs S2 => Res.ok (x :: xs) S2).bind fun vs S1 => biV (Bi.isi t) S1 vs) = ((ev G' ft pa env S).bind fun x S1 => Res.ofO (Option.map Val.bl (isiV t S1 x)) S1) := by
      cases ev G' ft pa env S <;> rfl
    rw [e2] at h
    exact h)
  refine lift_mono h2 fun x H1 ⟨μ, env, v, S, s, e, r, q⟩ => ?_
  obtain ⟨b, eb, q⟩ := q.bool s
  obtain ⟨n, t1, t2⟩ := isi_rel s r eb
  rw [hK] at t1
  exact ⟨x, _, _, _, b, rfl, .ty _, t1, kit_all n t b _ t2, q⟩
/-- what isinstance asks of the class of an instance -/
structure InsI (K : PySem.W.Frag) (C : Addr) : Prop where
  cl : Cls K C
  ha : PySem.W.findIn K (.ref C) "__class__" = some (some (.builtin "object.__class__"))
  hn : PySem.W.specialIn K (.builtin "object.__class__") "__get__" = some (some (.builtin "getset_descriptor.__get__"))
  htk : PySem.W.takesIn K (.builtin "object.__class__") = some true
  hm : PySem.W.mroIn K C (.type "object") = some true
theorem de_isC {e : Expr} {pa : PyE} {j : Nat} (hK : G.K = X.K) (hi : ∀ c b, G'.isI j c = some b → InsI X.K (G.ca c) ∧ PySem.W.kitOne X.K (.ref (G.ca c)) (.ref (G.ca j)) = some b)
    (h : PE X e (tCB (rIsi X.K) (tCons (lift G W (ev G' ft pa)) (tCons (tC (.ref (G.ca j))) tNil)))) : PE X e (lift G W (ev G' ft (.isC j pa))) := by
  refine h.imp fun σ H Q h => ?_
  have h2 := one (f := fun v _ S1 => Res.ofO ((isCV G' j S1 v).map Val.bl) S1) (k := Kv Q) (by simp only [lift, ev] at h; exact h)
  refine lift_mono h2 fun x H1 ⟨μ, env, v, S, s, e, r, q⟩ => ?_
  obtain ⟨b, eb, q2⟩ := q.bool s
  unfold isCV at eb
  split at eb
  · split at eb
    · rename_i i c fs eo
      cases r with
      | obj hs =>
      obtain ⟨p, g1, dx, ys, g2, g3⟩ := s.ob _ _ eo
      rw [hs] at g1; cases g1
      obtain ⟨k1, k2⟩ := hi _ _ eb
      exact ⟨_, _, _, _, b, rfl, .own _, .base (.ins g2 k1.cl k1.ha k1.hn k1.htk k1.hm), k2, q2⟩
    · cases eb
  · cases eb
end
end Nw

set_option Elab.async false
set_option linter.all false
set_option maxRecDepth 100000
set_option maxHeartbeats 1000000
namespace Nw
open PySem L2

section
variable {α β : Type} {G : Cfg} {W : WX} {X : Cx} {σ : St} {μ : List Addr} {H : Hp} {S : Store} {Q : VK} {G' : Tab} {ft : Fns}

/-- a method's call by values -/
def StM (X : Cx) (f : Store → Val → List Val → Res Val) : V → List V → Hp → VK → Prop := fun x xs H Q => ∃ (G : Cfg) (W : WX) (σ : St) (μ : List Addr) (v : Val) (vs : List Val) (S : Store), G.K = X.K ∧ Sim G μ S H ∧ RV μ H v x ∧ RVs μ H vs xs ∧ After G W σ μ H (f S v vs) (Kv Q)
theorem bmGo_of {m : Bm} {v : Val} {k : Kd} (h : bmGo m S v = some k) : kdOf S v = some k ∧ bmK m k = true := by
  unfold bmGo at h
  cases e : kdOf S v with
  | none => rw [e] at h; cases h
  | some k' =>
    rw [e] at h
    simp only [Option.bind_some] at h
    split at h
    · rename_i e2; cases h; exact ⟨rfl, e2⟩
    · cases h
theorem bm_read {m : Bm} {pa ps : PyE} {T : Val → V → List Addr → Store → Hp → Prop} {R : V → List V → Hp → VK → Prop}
    (hT : ∀ μ S H v x k, Sim G μ S H → RV μ H v x → kdOf S v = some k → bmK m k = true → T v x μ S H)
    (hR : ∀ μ S H v x vs xs k (Q : VK), Sim G μ S H → RV μ H v x → RVs μ H vs xs → kdOf S v = some k → bmK m k = true → After G W σ μ H (bmV0 m S v vs) (Kv Q) → R x xs H Q)
    (h : lift G W (ev G' ft (.bm m pa ps)) σ H Q) : lift G W (ev G' ft pa) σ H fun x H1 => (∃ v μ S, T v x μ S H1) ∧ liftA G W (evA G' ft ps) σ H1 fun xs H2 => R x xs H2 Q := by
  have h2 := one (f := fun x env S1 => match bmGo m S1 x with
    | some k => (evA G' ft ps env S1).bind fun vs S2 => bmV m k S2 x vs
    | none => .no) (by simp only [lift, ev] at h; exact h)
  refine lift_mono h2 fun x H1 ⟨μ, env, v, S, s, e, r, q⟩ => ?_
  cases eg : bmGo m S v with
  | none => rw [eg] at q; exact q.elim
  | some k =>
    rw [eg] at q
    obtain ⟨k1, k2⟩ := bmGo_of eg
    refine ⟨⟨v, μ, S, hT μ S H1 v x k s r k1 k2⟩, μ, env, S, s, e, q.bind.imp fun vs μ1 S1 H2 u1 kp s1 h1 xs rxs => ?_⟩
    unfold bmV at h1
    split at h1
    · rename_i k3
      exact hR μ1 S1 H2 v x vs xs k Q s1 (r.mono u1 kp _ _) rxs k3 k2 h1
    · exact h1.elim
theorem ty_list (s : Sim G μ S H) {v : Val} {x : V} (r : RV μ H v x) (k : kdOf S v = some .list) : tyV G.K "list" x H := by
  unfold kdOf at k
  split at k
  · cases k
  · cases r with
    | obj hs =>
    split at k
    · rename_i eo
      obtain ⟨p, ys, g1, g2, _⟩ := s.lstR eo
      rw [hs] at g1; cases g1
      exact .inl ⟨rfl, ys, g2⟩
    · cases k
    · cases k
    · cases k
  · cases k
theorem ty_str (s : Sim G μ S H) {v : Val} {x : V} (r : RV μ H v x) (k : kdOf S v = some .str) : tyV G.K "str" x H := by
  unfold kdOf at k
  split at k
  · cases r; rfl
  · split at k <;> cases k
  · cases k
theorem ty_dict (s : Sim G μ S H) {v : Val} {x : V} (r : RV μ H v x) (k : kdOf S v = some .dict) : ∃ a, x = .ref a ∧ IsD H a := by
  unfold kdOf at k
  split at k
  · cases k
  · cases r with
    | obj hs =>
    split at k
    · cases k
    · rename_i eo
      obtain ⟨p, ys, g1, g2, _⟩ := s.dKR eo
      rw [hs] at g1; cases g1
      exact ⟨_, rfl, .inl ⟨ys, g2⟩⟩
    · rename_i eo
      obtain ⟨p, ys, g1, g2, _⟩ := s.dTR eo
      rw [hs] at g1; cases g1
      exact ⟨_, rfl, .inr ⟨ys, g2⟩⟩
    · cases k
  · cases k
/-- a method of a list or of a text, with arguments and without -/
theorem de_bmT {m : Bm} {e : Expr} {pa ps : PyE} {T : String} {k : Kd} (hK : G.K = X.K) (hk : ∀ k', bmK m k' = true → k' = k) (hT : ∀ {μ S H} {v : Val} {x : V}, Sim G μ S H → RV μ H v x → kdOf S v = some k → tyV G.K T x H)
    (h : PE X e (tBM X.K T (StM X (bmV0 m)) (lift G W (ev G' ft pa)) (liftA G W (evA G' ft ps)))) : PE X e (lift G W (ev G' ft (.bm m pa ps))) := by
  refine h.imp fun σ H Q h => ?_
  have h2 := bm_read (T := fun v x μ S H => tyV G.K T x H) (R := StM X (bmV0 m)) (fun μ S H v x k' s r h1 h2 => hT s r (hk k' h2 ▸ h1)) (fun μ S H v x vs xs k' Q s r rs _ _ q => ⟨G, W, σ, μ, v, vs, S, hK, s, r, rs, q⟩) h
  exact lift_mono h2 fun x H1 ⟨⟨_, _, _, ty⟩, q⟩ => ⟨by rw [← hK]; exact ty, q⟩
theorem de_bmT0 {m : Bm} {e : Expr} {pa : PyE} {T : String} {k : Kd} (hK : G.K = X.K) (hk : ∀ k', bmK m k' = true → k' = k) (hT : ∀ {μ S H} {v : Val} {x : V}, Sim G μ S H → RV μ H v x → kdOf S v = some k → tyV G.K T x H)
    (h : PE X e (tBM0 X.K T (StM X (bmV0 m)) (lift G W (ev G' ft pa)))) : PE X e (lift G W (ev G' ft (.bm m pa .nil))) := by
  refine h.imp fun σ H Q h => ?_
  have h2 := bm_read (T := fun v x μ S H => tyV G.K T x H) (R := StM X (bmV0 m)) (fun μ S H v x k' s r h1 h2 => hT s r (hk k' h2 ▸ h1)) (fun μ S H v x vs xs k' Q s r rs _ _ q => ⟨G, W, σ, μ, v, vs, S, hK, s, r, rs, q⟩) h
  refine lift_mono h2 fun x H1 ⟨⟨_, _, _, ty⟩, q⟩ => ⟨by rw [← hK]; exact ty, ?_⟩
  obtain ⟨μ, env, S, s, e, q⟩ := q
  simp only [evA] at q
  exact q.here s [] .nil

theorem Keep.lst {H : Hp} {p : Addr} {ys : List V} {o : HO} (g : H p = some (.lst ys)) : Keep H (L2.upd H p o) := Keep.upd g ⟨(by intro _ z; cases z), (by intro _ _ z; cases z)⟩
theorem Keep.dK {H : Hp} {p : Addr} {ys : List (Key × V)} {o : HO} (g : H p = some (.dK ys)) : Keep H (L2.upd H p o) := Keep.upd g ⟨(by intro _ z; cases z), (by intro _ _ z; cases z)⟩
theorem Keep.dT {H : Hp} {p : Addr} {ys : List (List Key × V)} {o : HO} (g : H p = some (.dT ys)) : Keep H (L2.upd H p o) := Keep.upd g ⟨(by intro _ z; cases z), (by intro _ _ z; cases z)⟩
theorem Keep.ins {H : Hp} {p C dx : Addr} {ys : List (Str × V)} {o : HO} (g : H p = some (.ins C dx ys)) : Keep H (L2.upd H p o) := Keep.upd g ⟨(by intro _ z; cases z), (by intro _ _ z; cases z)⟩
theorem mt_app : MtR X "list.append" (StM X appV) := by
  intro pins s σ H x xs u us Q I rx r h
  obtain ⟨G, W, σ', μ, v, vs, S, hK, sm, rv, rs, h⟩ := h
  unfold appV at h
  split at h
  · cases rv with
    | obj hs =>
    obtain ⟨y, rfl, ry⟩ := rs.one_inv
    split at h
    · rename_i xs' eo
      split at h
      · rename_i hl
        obtain ⟨p, ys, g1, g2, g3⟩ := sm.lst eo
        rw [hs] at g1; cases g1
        refine mt_append pins s σ H _ _ u us Q I rx r ⟨_, ys, y, rfl, rfl, g2, by rw [← line_eq, ← g3.length]; exact hl, ?_⟩
        exact h.put sm eo rfl rfl hs ⟨_, upd_same, (g3.app (.one ry)).mono (Up.refl _) (Keep.lst g2)⟩ .non
      · exact h.elim
    · exact h.elim
  · exact h.elim
theorem mt_ext : MtR X "list.extend" (StM X extV) := by
  intro pins s σ H x xs u us Q I rx r h
  obtain ⟨G, W, σ', μ, v, vs, S, hK, sm, rv, rs, h⟩ := h
  unfold extV at h
  split at h
  · cases rv with
    | obj hs =>
    obtain ⟨y, rfl, ry⟩ := rs.one_inv
    cases ry with
    | obj hs2 =>
    split at h
    · rename_i xs' ys' eo eo2
      split at h
      · rename_i hl
        obtain ⟨p, ys, g1, g2, g3⟩ := sm.lst eo
        rw [hs] at g1; cases g1
        obtain ⟨p2, zs, f1, f2, f3⟩ := sm.lst eo2
        rw [hs2] at f1; cases f1
        refine mt_extend pins s σ H _ _ u us Q I rx r ⟨_, _, ys, zs, rfl, rfl, g2, f2, by rw [← line_eq, ← g3.length, ← f3.length]; exact hl, ?_⟩
        exact h.put sm eo rfl rfl hs ⟨_, upd_same, (g3.app f3).mono (Up.refl _) (Keep.lst g2)⟩ .non
      · exact h.elim
    · exact h.elim
  · exact h.elim
theorem mt_pop0 : MtR X "list.pop" (StM X pop0V) := by
  intro pins s σ H x xs u us Q I rx r h
  obtain ⟨G, W, σ', μ, v, vs, S, hK, sm, rv, rs, h⟩ := h
  unfold pop0V at h
  split at h
  · cases rv with
    | obj hs =>
    cases rs
    split at h
    · rename_i xs' eo
      split at h
      · rename_i y ey
        obtain ⟨p, ys, g1, g2, g3⟩ := sm.lst eo
        rw [hs] at g1; cases g1
        obtain ⟨z, ez, rz⟩ := g3.get ey
        refine mt_pop pins s σ H _ _ u us Q I rx r ⟨_, ys, z, rfl, rfl, g2, by rw [← g3.length]; exact ez, ?_⟩
        exact h.put sm eo rfl rfl hs ⟨_, upd_same, g3.dropLast.mono (Up.refl _) (Keep.lst g2)⟩ rz
      · exact h.elim
    · exact h.elim
  · exact h.elim
theorem mt_popL : MtR X "list.pop" (StM X popLV) := by
  intro pins s σ H x xs u us Q I rx r h
  obtain ⟨G, W, σ', μ, v, vs, S, hK, sm, rv, rs, h⟩ := h
  unfold popLV at h
  split at h
  · cases rv with
    | obj hs =>
    obtain ⟨y, rfl, ry⟩ := rs.one_inv
    cases ry
    split at h
    · rename_i xs' eo
      split at h
      · rename_i hk
        split at h
        · rename_i y ey
          obtain ⟨p, ys, g1, g2, g3⟩ := sm.lst eo
          rw [hs] at g1; cases g1
          obtain ⟨z, ez, rz⟩ := g3.get ey
          have hlt := (List.getElem?_eq_some_iff.mp ez).1
          refine mt_popAt pins s σ H _ _ u us Q I rx r ⟨_, ys, _, _, z, rfl, rfl, g2, by omega, by omega, seqIndex_of hk.1 (by omega), ez, ?_⟩
          exact h.put sm eo rfl rfl hs ⟨_, upd_same, (g3.erase _).mono (Up.refl _) (Keep.lst g2)⟩ rz
        · exact h.elim
      · exact h.elim
    · exact h.elim
  · exact h.elim
theorem mt_clr : MtR X "list.clear" (StM X clearV) := by
  intro pins s σ H x xs u us Q I rx r h
  obtain ⟨G, W, σ', μ, v, vs, S, hK, sm, rv, rs, h⟩ := h
  unfold clearV at h
  split at h
  · cases rv with
    | obj hs =>
    cases rs
    split at h
    · rename_i xs' eo
      obtain ⟨p, ys, g1, g2, g3⟩ := sm.lst eo
      rw [hs] at g1; cases g1
      refine mt_clear pins s σ H _ _ u us Q I rx r ⟨_, ys, rfl, rfl, g2, ?_⟩
      exact h.put sm eo rfl rfl hs ⟨_, upd_same, .nil⟩ .non
    · exact h.elim
  · exact h.elim
theorem mt_rev : MtR X "list.reverse" (StM X revV) := by
  intro pins s σ H x xs u us Q I rx r h
  obtain ⟨G, W, σ', μ, v, vs, S, hK, sm, rv, rs, h⟩ := h
  unfold revV at h
  split at h
  · cases rv with
    | obj hs =>
    cases rs
    split at h
    · rename_i xs' eo
      obtain ⟨p, ys, g1, g2, g3⟩ := sm.lst eo
      rw [hs] at g1; cases g1
      refine mt_reverse pins s σ H _ _ u us Q I rx r ⟨_, ys, rfl, rfl, g2, ?_⟩
      exact h.put sm eo rfl rfl hs ⟨_, upd_same, g3.rev.mono (Up.refl _) (Keep.lst g2)⟩ .non
    · exact h.elim
  · exact h.elim
theorem mt_idx : MtR X "list.index" (StM X indexV) := by
  intro pins s σ H x xs u us Q I rx r h
  obtain ⟨G, W, σ', μ, v, vs, S, hK, sm, rv, rs, h⟩ := h
  unfold indexV at h
  split at h
  · cases rv with
    | obj hs =>
    obtain ⟨y, rfl, ry⟩ := rs.one_inv
    split at h
    · rename_i l xs' eo
      split at h
      · rename_i hf
        simp only [Bool.and_eq_true] at hf
        split at h
        · rename_i j ej
          obtain ⟨p, ys, g1, g2, g3⟩ := sm.lstR eo
          rw [hs] at g1; cases g1
          obtain ⟨hj, h1, h2⟩ := List.findIdx?_eq_some_iff_getElem.mp ej
          have e1 : xs'[j]? = some xs'[j] := List.getElem?_eq_getElem hj
          obtain ⟨z, ez, rz⟩ := g3.get e1
          have fl : ∀ (m : Nat) (hm : m < xs'.length), flat xs'[m] = true := fun m hm => List.all_eq_true.mp hf.2 _ (List.getElem_mem hm)
          refine mt_index pins s σ H _ _ u us Q I rx r ⟨_, ys, y, j, z, rfl, rfl, by rw [← hK]; exact g2, flat_rel ry hf.1, flats_rel g3 hf.2, ez, ?_, fun m z' hm em => ?_, h.val sm (.int _)⟩
          · rw [← eqF_rel rz ry (fl j hj) hf.1]; exact h1
          · have hm' : m < xs'.length := by omega
            obtain ⟨z2, e2, r2⟩ := g3.get (List.getElem?_eq_getElem hm')
            rw [em] at e2; cases e2
            rw [← eqF_rel r2 ry (fl m hm') hf.1]
            exact eq_false_of_ne_true (h2 m hm)
        · exact h.elim
      · exact h.elim
    · exact h.elim
  · exact h.elim
theorem mt_rem : MtR X "list.remove" (StM X removeV) := by
  intro pins s σ H x xs u us Q I rx r h
  obtain ⟨G, W, σ', μ, v, vs, S, hK, sm, rv, rs, h⟩ := h
  unfold removeV at h
  split at h
  · cases rv with
    | obj hs =>
    obtain ⟨y, rfl, ry⟩ := rs.one_inv
    cases ry
    split at h
    · rename_i xs' eo
      split at h
      · rename_i ns en
        split at h
        · rename_i j ej
          obtain ⟨p, ys, g1, g2, g3⟩ := sm.lst eo
          rw [hs] at g1; cases g1
          obtain ⟨e1, e2⟩ := g3.ints en
          subst e1
          obtain ⟨hj, h1, h2⟩ := List.findIdx?_eq_some_iff_getElem.mp ej
          refine mt_remove pins s σ H _ _ u us Q I rx r ⟨_, ns, _, j, rfl, rfl, g2, ?_, fun m hm em => ?_, ?_⟩
          · rw [List.getElem?_eq_getElem hj, beq_iff_eq.mp h1]
          · have hm' : m < ns.length := by omega
            rw [List.getElem?_eq_getElem hm'] at em
            exact h2 m hm (by simpa using em)
          · exact h.put sm eo rfl rfl hs ⟨_, upd_same, RVs.of_ints _⟩ .non
        · exact h.elim
      · exact h.elim
    · exact h.elim
  · exact h.elim
theorem mt_cnt : MtR X "list.count" (StM X countV) := by
  intro pins s σ H x xs u us Q I rx r h
  obtain ⟨G, W, σ', μ, v, vs, S, hK, sm, rv, rs, h⟩ := h
  unfold countV at h
  split at h
  · cases rv with
    | obj hs =>
    obtain ⟨y, rfl, ry⟩ := rs.one_inv
    cases ry
    split at h
    · rename_i xs' eo
      split at h
      · rename_i ns en
        obtain ⟨p, ys, g1, g2, g3⟩ := sm.lstR eo
        rw [hs] at g1; cases g1
        obtain ⟨e1, e2⟩ := g3.ints en
        subst e1
        exact mt_lcount pins s σ H _ _ u us Q I rx r ⟨_, ns, _, rfl, rfl, by rw [← hK]; exact g2, h.val sm (.int _)⟩
      · exact h.elim
    · exact h.elim
  · exact h.elim
theorem mt_sw : MtR X "str.startswith" (StM X startsV) := by
  intro pins s σ H x xs u us Q I rx r h
  obtain ⟨G, W, σ', μ, v, vs, S, hK, sm, rv, rs, h⟩ := h
  unfold startsV at h
  split at h
  · cases rv
    obtain ⟨y, rfl, ry⟩ := rs.one_inv
    cases ry
    exact mt_startswith pins s σ H _ _ u us Q I rx r ⟨_, _, rfl, rfl, h.val sm (.bl _)⟩
  · exact h.elim
theorem mt_alpha : MtR X "str.isalpha" (StM X isalphaV) := by
  intro pins s σ H x xs u us Q I rx r h
  obtain ⟨G, W, σ', μ, v, vs, S, hK, sm, rv, rs, h⟩ := h
  unfold isalphaV at h
  split at h
  · cases rv
    cases rs
    exact mt_isalpha pins s σ H _ _ u us Q I rx r ⟨_, rfl, rfl, trivial, h.val sm (.bl _)⟩
  · exact h.elim
end
end Nw

set_option Elab.async false
set_option linter.all false
set_option maxRecDepth 100000
set_option maxHeartbeats 1000000
namespace Nw
open PySem L2
section
open PySem.Spec PyProof.Rows
/-! d.pop(None, x) -/
theorem pairs_none {P : Program} {w : World} {es : List DictEntry} {vs : List (Key × Value)} (p : Pairs (mixKind P w) es vs) : Pairs (noneKind P w) es (vs.map fun kv => (some kv.1, kv.2)) := by
  induction p with
  | nil => exact .nil
  | cons h1 h2 _ ih => exact .cons h1 h2 ih
theorem dict_none {P : Program} {w : World} {h : Heap} {a : Addr} {vs : List (Key × Value)} (d : h.DictOf (mixKind P w) a vs) : h.DictOf (noneKind P w) a (vs.map fun kv => (some kv.1, kv.2)) := by
  obtain ⟨o, es, ep, ho, hx, hdt, hk, hp, hn⟩ := d
  refine ⟨o, es, ep, ho, hx, hdt, fun e he => ?_, pairs_none hp, ?_⟩
  · obtain ⟨k, h1, h2⟩ := hk e he
    exact ⟨some k, h1, h2⟩
  · have : ((vs.map fun kv => ((some kv.1 : Option Key), kv.2)).map (·.1)) = (vs.map (·.1)).map some := by rw [List.map_map, List.map_map]; rfl
    rw [this]
    exact List.Pairwise.map _ (fun a b h e => h (Option.some.inj e)) hn
theorem none_at : ∀ (vs : List (Key × Value)), valueAt (vs.map fun kv => ((some kv.1 : Option Key), kv.2)) none = none
  | [] => rfl
  | (k, v) :: vs => by
    have ih := none_at vs
    unfold valueAt at ih ⊢
    rw [List.map_cons, List.find?_cons]
    simpa using ih
section
variable {X : Cx} {pins : List (Addr × PySem.Obj)} {σ : L2.St} {H : Hp} {s : Shared} {a : Addr} {kvs : List (Key × V)} {A : Around} {E : Value → Shared → Prop}
theorem d_popN {r : Value} {Q : Value → Shared → Prop} (I : L2.Inv X pins σ H s) (e : H a = some (.dK kvs)) (h : ∀ s', L2.Inv X pins σ H s' → Q r s') :
    wpAny (model X.prog X.w) A (call (.builtin "dict.pop") [.ref a, .none, r]) Q E s := by
  obtain ⟨z, hd, vs, rel, dd⟩ := dk_of I.hok e
  have dn := dict_none dd
  exact call_meetsIn PySem.F.slot_dict_pop dd.typeIs PySem.F.entry_dict_pop (PySem.F.args_dict_pop_3 _ _ _) (meets_dict_pop_default (noneKind X.prog X.w) (k := none) a (show (noneKind X.prog X.w).is none Value.none = true from rfl) hd rfl r) ⟨_, dn, none_at vs, h _ (I.tok _)⟩
end
def tDPop3 (td ty tx : TE) : TE := fun σ H Q => td σ H fun x H1 => ∃ a, x = .ref a ∧ IsD H1 a ∧ ty σ H1 fun y H2 => tx σ H2 fun z H3 => ∃ kvs, H3 a = some (.dK kvs) ∧ ((∃ k, y = kV k ∧
  (∀ v, valV kvs k = some v → Q v (upd H3 a (.dK (dropK kvs k)))) ∧ (valV kvs k = none → Q z H3)) ∨ (y = .non ∧ Q z H3))
section
variable {X : Cx} {o e f : Expr} {apos cpos : Pos} {td ty tx : TE}
theorem pe_dpop3 (ho : PE X o td) (he : PE X e ty) (hf : PE X f tx) (m : M2 X o "pop" apos e f cpos) : PE X (.Call (.Attribute o "pop" apos) [e, f] [] cpos) (tDPop3 td ty tx) := by
  refine ⟨fun pins s σ H Q I h => ?_⟩
  refine wpAny_Call_method m.base m.few m.line PySem.F.plainAttrs_dict PySem.F.slot_dict_pop PySem.F.type_dict_pop (thn (ho.run pins s σ H _ I h) fun u s1 ⟨x, H1, I1, rx, a, ex, d, q1⟩ => ?_)
  subst ex
  obtain rfl : u = Value.ref a := rx
  obtain ⟨t1, t2, _⟩ := isD_at I1 d
  refine ⟨t1, t2, ?_⟩
  rw [m.trees]
  refine Calls.callWith_builtin rfl (Calls.evalArgs_plain (Calls.spliced_cons (thn (he.run pins s1 σ H1 _ I1 q1) fun iv s2 ⟨y, H2, I2, ry, q2⟩ =>
    Calls.spliced_cons (thn (hf.run pins s2 σ H2 _ I2 q2) fun fv s3 ⟨z, H3, I3, rz, kvs, ea, q3⟩ => Calls.spliced_nil ?_))))
  rcases q3 with ⟨k, ey, q3, q4⟩ | ⟨ey, q3⟩
  · subst ey
    cases l : valV kvs k with
    | some v => exact d_pop I3 ea ry l (.inr ⟨fv, rfl⟩) fun w' s4 I4 rw' => ⟨v, _, I4, rw', q3 v l⟩
    | none => exact d_popD I3 ea ry l fun s4 I4 => ⟨z, H3, I4, rz, q4 l⟩
  · subst ey
    obtain rfl : iv = Value.none := ry
    exact d_popN I3 ea fun s4 I4 => ⟨z, H3, I4, rz, q3⟩
end
end

section
variable {α β : Type} {G : Cfg} {W : WX} {X : Cx} {σ : St} {μ : List Addr} {H : Hp} {S : Store} {Q : VK} {G' : Tab} {ft : Fns}
variable {o e f : Expr} {pa pb pc : PyE} {apos cpos : Pos}

theorem liftA_one {F : List V → Hp → Prop} (h : liftA G W (evA G' ft (.cons pa .nil)) σ H F) : lift G W (ev G' ft pa) σ H fun y H2 => F [y] H2 := by
  have h2 := one (f := fun x env S1 => (evA G' ft .nil env S1).bind fun xs S2 => .ok (x :: xs) S2) (by simp only [liftA, evA] at h; exact h)
  refine lift_mono h2 fun x H1 ⟨μ, env, v, S, s, e, r, q⟩ => ?_
  simp only [evA, Res.bind_ok] at q
  exact q.here s _ (.cons r .nil)
theorem liftA_two {F : List V → Hp → Prop} (h : liftA G W (evA G' ft (.cons pa (.cons pb .nil))) σ H F) : lift G W (ev G' ft pa) σ H fun y H2 => lift G W (ev G' ft pb) σ H2 fun z H3 => F [y, z] H3 := by
  have h2 := two (f := fun x y env S1 => .ok [x, y] S1) (ma := ev G' ft pa) (mb := ev G' ft pb) (α := List Val) (G := G) (W := W) (σ := σ) (H := H) (k := fun vs μ' _ H' => ∀ xs, RVs μ' H' vs xs → F xs H') (by
    obtain ⟨μ, env, S, s, e, h⟩ := h
    refine ⟨μ, env, S, s, e, ?_⟩
    simp only [evA, Res.bind_ok] at h
    have eq : ∀ (r : Res Val) (f : Val → Store → Res (List Val)) (x : Val), (r.bind f).bind (fun xs S2 => .ok (x :: xs) S2) = r.bind fun a S => (f a S).bind fun xs S2 => .ok (x :: xs) S2 := by
      intro r f x
      cases r <;> rfl
    simp only [eq, Res.bind_ok] at h
    exact h)
  refine lift_mono h2 fun x H1 h3 => lift_mono h3 fun y H2 ⟨μ, env, v, w, S, s, e, r1, r2, q⟩ => ?_
  exact q.here s _ (.cons r1 (.cons r2 .nil))

abbrev TDict : Val → V → List Addr → Store → Hp → Prop := fun _ x _ _ H => ∃ a, x = .ref a ∧ IsD H a
def RGet1 : V → List V → Hp → VK → Prop := fun x xs H Q => ∃ y a o, xs = [y] ∧ x = .ref a ∧ DGet H a y o ∧ Q (o.getD .non) H
def RGet2 : V → List V → Hp → VK → Prop := fun x xs H Q => ∃ y z a o, xs = [y, z] ∧ x = .ref a ∧ DGet H a y o ∧ Q (o.getD z) H
theorem getV_rel {v w d : Val} {x y z : V} (h : After G W σ μ H (getV S v w d) (Kv Q)) (sm : Sim G μ S H) (rv : RV μ H v x) (ry : RV μ H w y) (rz : RV μ H d z) : ∃ a o, x = .ref a ∧ DGet H a y o ∧ Q (o.getD z) H := by
  unfold getV at h
  split at h
  · cases rv with
    | obj hs =>
    split at h
    · rename_i eo
      obtain ⟨u, e1, e2⟩ := h.ofO
      cases ek : keyOf w with
      | none => rw [ek] at e1; cases e1
      | some k =>
      rw [ek] at e1
      simp only [Option.map_some] at e1
      cases e1
      obtain ⟨ys, _, g1, g2⟩ := dget_k sm eo hs ry ek
      refine ⟨_, _, rfl, g2, ?_⟩
      obtain ⟨l1, l2⟩ := g1.look k
      cases el : look _ k with
      | none => rw [el] at e2; rw [l2 el]; exact e2.val sm rz
      | some u =>
        obtain ⟨x, l3, l4⟩ := l1 u el
        rw [el] at e2; rw [l3]; exact e2.val sm l4
    · rename_i eo
      obtain ⟨u, e1, e2⟩ := h.ofO
      cases ek : keysOf w with
      | none => rw [ek] at e1; cases e1
      | some k =>
      rw [ek] at e1
      simp only [Option.map_some] at e1
      cases e1
      obtain ⟨ys, _, g1, g2⟩ := dget_t sm eo hs ry ek
      refine ⟨_, _, rfl, g2, ?_⟩
      obtain ⟨l1, l2⟩ := g1.look k
      cases el : look _ k with
      | none => rw [el] at e2; rw [l2 el]; exact e2.val sm rz
      | some u =>
        obtain ⟨x, l3, l4⟩ := l1 u el
        rw [el] at e2; rw [l3]; exact e2.val sm l4
    · exact h.elim
  · exact h.elim
theorem bmK_dict {m : Bm} (h : bmK m .dict = true) {k : Kd} (hm : ∀ k', bmK m k' = true → k' = .dict) (h2 : bmK m k = true) : k = .dict := hm k h2
theorem de_get1 (hu : X.A.units + 1 < cLine) (ho : PE X o (lift G W (ev G' ft pa))) (he : PE X e (lift G W (ev G' ft pb))) (m : M1 X o "get" apos e cpos) : PE X (.Call (.Attribute o "get" apos) [e] [] cpos) (lift G W (ev G' ft (.bm .get1 pa (.cons pb .nil)))) := by
  refine (pe_dget1 hu ho he m).imp fun σ H Q h => ?_
  have h2 := bm_read (T := TDict) (R := RGet1) (fun μ S H v x k s r h1 h2 => ty_dict s r (by rw [h1]; cases k <;> first | rfl | cases h2)) (fun μ S H v x vs xs k Q sm rv rs _ _ q => by
    unfold bmV0 get1V at q
    simp only at q
    split at q
    · obtain ⟨y, rfl, ry⟩ := rs.one_inv
      obtain ⟨a, o, h1, h2, h3⟩ := getV_rel q sm rv ry .non
      exact ⟨y, a, o, rfl, h1, h2, h3⟩
    · exact q.elim) h
  refine lift_mono h2 fun x H1 ⟨⟨_, _, _, a, e1, e2⟩, q⟩ => ⟨a, e1, e2, lift_mono (liftA_one q) fun y H2 ⟨y', a', o, h1, h3, h4, h5⟩ => ?_⟩
  cases h1
  rw [e1] at h3; cases h3
  exact ⟨o, h4, h5⟩
theorem de_get2 (hu : X.A.units + 1 < cLine) (ho : PE X o (lift G W (ev G' ft pa))) (he : PE X e (lift G W (ev G' ft pb))) (hf : PE X f (lift G W (ev G' ft pc))) (m : M2 X o "get" apos e f cpos) : PE X (.Call (.Attribute o "get" apos) [e, f] [] cpos) (lift G W (ev G' ft (.bm .get2 pa (.cons pb (.cons pc .nil))))) := by
  refine (pe_dget2 hu ho he hf m).imp fun σ H Q h => ?_
  have h2 := bm_read (T := TDict) (R := RGet2) (fun μ S H v x k s r h1 h2 => ty_dict s r (by rw [h1]; cases k <;> first | rfl | cases h2)) (fun μ S H v x vs xs k Q sm rv rs _ _ q => by
    unfold bmV0 get2V at q
    simp only at q
    split at q
    · obtain ⟨y, z, rfl, ry, rz⟩ := rs.two_inv
      obtain ⟨a, o, h1, h2, h3⟩ := getV_rel q sm rv ry rz
      exact ⟨y, z, a, o, rfl, h1, h2, h3⟩
    · exact q.elim) h
  refine lift_mono h2 fun x H1 ⟨⟨_, _, _, a, e1, e2⟩, q⟩ => ⟨a, e1, e2, lift_mono (liftA_two q) fun y H2 q2 => lift_mono q2 fun z H3 ⟨y', z', a', o, h1, h3, h4, h5⟩ => ?_⟩
  cases h1
  rw [e1] at h3; cases h3
  exact ⟨o, h4, h5⟩
theorem drop_ok {kvs : List (Key × Val)} {k : Key} (h : ∀ p ∈ kvs, kOk p.1 = true) : ∀ p ∈ drop kvs k, kOk p.1 = true := fun p hp => h p (List.mem_filter.mp hp).1
theorem put_ok {kvs : List (Key × Val)} {k : Key} {v : Val} (h : ∀ p ∈ kvs, kOk p.1 = true) (hk : kOk k = true) : ∀ p ∈ put kvs k v, kOk p.1 = true := by
  intro p hp
  unfold put at hp
  split at hp
  · obtain ⟨q, h1, h2⟩ := List.mem_map.mp hp
    split at h2
    · rw [← h2]; exact h q h1
    · rw [← h2]; exact h q h1
  · rcases List.mem_append.mp hp with h1 | h1
    · exact h p h1
    · rw [List.mem_singleton.mp h1]; exact hk
theorem putT_ok {kvs : List (List Key × Val)} {k : List Key} {v : Val} (h : ∀ p ∈ kvs, ∀ k ∈ p.1, kOk k = true) (hk : ∀ i ∈ k, kOk i = true) : ∀ p ∈ put kvs k v, ∀ k ∈ p.1, kOk k = true := by
  intro p hp
  unfold put at hp
  split at hp
  · obtain ⟨q, h1, h2⟩ := List.mem_map.mp hp
    split at h2
    · rw [← h2]; exact h q h1
    · rw [← h2]; exact h q h1
  · rcases List.mem_append.mp hp with h1 | h1
    · exact h p h1
    · rw [List.mem_singleton.mp h1]; exact hk
def RPop1 : V → List V → Hp → VK → Prop := fun x xs H Q => ∃ y a, xs = [y] ∧ x = .ref a ∧ ∃ kvs k v, H a = some (.dK kvs) ∧ y = kV k ∧ valV kvs k = some v ∧ Q v (L2.upd H a (.dK (dropK kvs k)))
theorem de_pop1 (ho : PE X o (lift G W (ev G' ft pa))) (he : PE X e (lift G W (ev G' ft pb))) (m : M1 X o "pop" apos e cpos) : PE X (.Call (.Attribute o "pop" apos) [e] [] cpos) (lift G W (ev G' ft (.bm .popD pa (.cons pb .nil)))) := by
  refine (pe_dpop1 ho he m).imp fun σ H Q h => ?_
  have h2 := bm_read (T := TDict) (R := RPop1) (fun μ S H v x k s r h1 h2 => ty_dict s r (by rw [h1]; cases k <;> first | rfl | cases h2)) (fun μ S H v x vs xs k Q sm rv rs _ _ q => by
    unfold bmV0 popDV at q
    simp only at q
    split at q
    · obtain ⟨y, rfl, ry⟩ := rs.one_inv
      cases rv with
      | obj hs =>
      split at q
      · rename_i eo
        split at q
        · rename_i ek
          split at q
          · rename_i el
            obtain ⟨p, ys, g1, g2, g3, g4⟩ := sm.dK eo
            rw [hs] at g1; cases g1
            obtain ⟨k1, _, k3⟩ := key_rel ry ek
            obtain ⟨u, l1, l2⟩ := (g3.look _).1 _ el
            refine ⟨y, _, rfl, rfl, ys, _, u, g2, k1, l1, ?_⟩
            exact q.put sm eo rfl rfl hs ⟨_, upd_same, g3.drop.mono (Up.refl _) (Keep.dK g2), drop_ok g4⟩ l2
          · exact q.elim
        · exact q.elim
      · exact q.elim
    · exact q.elim) h
  refine lift_mono h2 fun x H1 ⟨⟨_, _, _, a, e1, e2⟩, q⟩ => ⟨a, e1, e2, lift_mono (liftA_one q) fun y H2 ⟨y', a', h1, h3, h4⟩ => ?_⟩
  cases h1
  rw [e1] at h3; cases h3
  exact h4
def RPop2 : V → List V → Hp → VK → Prop := fun x xs H Q => ∃ y z a, xs = [y, z] ∧ x = .ref a ∧ ∃ kvs, H a = some (.dK kvs) ∧ ((∃ k, y = kV k ∧
  (∀ v, valV kvs k = some v → Q v (L2.upd H a (.dK (dropK kvs k)))) ∧ (valV kvs k = none → Q z H)) ∨ (y = .non ∧ Q z H))
theorem de_pop2 (ho : PE X o (lift G W (ev G' ft pa))) (he : PE X e (lift G W (ev G' ft pb))) (hf : PE X f (lift G W (ev G' ft pc))) (m : M2 X o "pop" apos e f cpos) : PE X (.Call (.Attribute o "pop" apos) [e, f] [] cpos) (lift G W (ev G' ft (.bm .pop2 pa (.cons pb (.cons pc .nil))))) := by
  refine (pe_dpop3 ho he hf m).imp fun σ H Q h => ?_
  have h2 := bm_read (T := TDict) (R := RPop2) (fun μ S H v x k s r h1 h2 => ty_dict s r (by rw [h1]; cases k <;> first | rfl | cases h2)) (fun μ S H v x vs xs k Q sm rv rs _ _ q => by
    unfold bmV0 pop2V at q
    simp only at q
    split at q
    · obtain ⟨y, z, rfl, ry, rz⟩ := rs.two_inv
      cases rv with
      | obj hs =>
      split at q
      · rename_i eo
        obtain ⟨p, ys, g1, g2, g3, g4⟩ := sm.dK eo
        rw [hs] at g1; cases g1
        split at q
        · cases ry
          exact ⟨_, z, _, rfl, rfl, ys, g2, .inr ⟨rfl, q.val sm rz⟩⟩
        · split at q
          · rename_i ek
            obtain ⟨k1, _, k3⟩ := key_rel ry ek
            obtain ⟨l1, l2⟩ := g3.look _
            refine ⟨y, z, _, rfl, rfl, ys, g2, .inl ⟨_, k1, fun v hv => ?_, fun hn => ?_⟩⟩
            · split at q
              · rename_i el
                obtain ⟨u, l3, l4⟩ := l1 _ el
                rw [hv] at l3; cases l3
                exact q.put sm eo rfl rfl hs ⟨_, upd_same, g3.drop.mono (Up.refl _) (Keep.dK g2), drop_ok g4⟩ l4
              · rename_i el
                rw [l2 el] at hv; cases hv
            · split at q
              · rename_i el
                obtain ⟨u, l3, l4⟩ := l1 _ el
                rw [hn] at l3; cases l3
              · exact q.val sm rz
          · exact q.elim
      · exact q.elim
    · exact q.elim) h
  refine lift_mono h2 fun x H1 ⟨⟨_, _, _, a, e1, e2⟩, q⟩ => ⟨a, e1, e2, lift_mono (liftA_two q) fun y H2 q2 => lift_mono q2 fun z H3 ⟨y', z', a', h1, h3, h4⟩ => ?_⟩
  cases h1
  rw [e1] at h3; cases h3
  exact h4
def RSetd : V → List V → Hp → VK → Prop := fun x xs H Q => ∃ y z a, xs = [y, z] ∧ x = .ref a ∧ ∃ (kvs : List (Key × V)) (k : Key), H a = some (.dK kvs) ∧ y = kV k ∧ kvs.length < sizeLine ∧
  (∀ v, valV kvs k = some v → Q v H) ∧ (valV kvs k = none → Q z (L2.upd H a (.dK (putK kvs k z))))
theorem de_sdef (ho : PE X o (lift G W (ev G' ft pa))) (he : PE X e (lift G W (ev G' ft pb))) (hf : PE X f (lift G W (ev G' ft pc))) (m : M2 X o "setdefault" apos e f cpos) : PE X (.Call (.Attribute o "setdefault" apos) [e, f] [] cpos) (lift G W (ev G' ft (.bm .setdefault pa (.cons pb (.cons pc .nil))))) := by
  refine (pe_dsetd ho he hf m).imp fun σ H Q h => ?_
  have h2 := bm_read (T := TDict) (R := RSetd) (fun μ S H v x k s r h1 h2 => ty_dict s r (by rw [h1]; cases k <;> first | rfl | cases h2)) (fun μ S H v x vs xs k Q sm rv rs _ _ q => by
    unfold bmV0 sdefV at q
    simp only at q
    split at q
    · obtain ⟨y, z, rfl, ry, rz⟩ := rs.two_inv
      cases rv with
      | obj hs =>
      split at q
      · rename_i eo
        split at q
        · rename_i ek
          split at q
          · rename_i hl
            obtain ⟨p, ys, g1, g2, g3, g4⟩ := sm.dK eo
            rw [hs] at g1; cases g1
            obtain ⟨k1, _, k3⟩ := key_rel ry ek
            obtain ⟨l1, l2⟩ := g3.look _
            refine ⟨y, z, _, rfl, rfl, ys, _, g2, k1, by rw [← line_eq, ← g3.length]; exact hl, fun v hv => ?_, fun hn => ?_⟩
            · split at q
              · rename_i el
                obtain ⟨u, l3, l4⟩ := l1 _ el
                rw [hv] at l3; cases l3
                exact q.val sm l4
              · rename_i el
                rw [l2 el] at hv; cases hv
            · split at q
              · rename_i el
                obtain ⟨u, l3, l4⟩ := l1 _ el
                rw [hn] at l3; cases l3
              · exact q.put sm eo rfl rfl hs ⟨_, upd_same, (g3.put rz).mono (Up.refl _) (Keep.dK g2), put_ok g4 k3⟩ rz
          · exact q.elim
        · exact q.elim
      · exact q.elim
    · exact q.elim) h
  refine lift_mono h2 fun x H1 ⟨⟨_, _, _, a, e1, e2⟩, q⟩ => ⟨a, e1, e2, lift_mono (liftA_two q) fun y H2 q2 => lift_mono q2 fun z H3 ⟨y', z', a', h1, h3, h4⟩ => ?_⟩
  cases h1
  rw [e1] at h3; cases h3
  exact h4

/-! join, split, lower -/
theorem mt_jn : MtR X "str.join" (StM X joinV) := by
  intro pins s σ H x xs u us Q I rx r h
  obtain ⟨G, W, σ', μ, v, vs, S, hK, sm, rv, rs, h⟩ := h
  unfold joinV at h
  split at h
  · rename_i a w
    cases rv
    obtain ⟨y, rfl, ry⟩ := rs.one_inv
    split at h
    · rename_i ws ew
      split at h
      · rename_i hz
        cases eq : seq? S w with
        | none => rw [eq] at ew; cases ew
        | some xs =>
        rw [eq] at ew
        simp only [Option.bind_some] at ew
        have go : ∃ p, y = .ref p ∧ (SqL X.K H p (ws.map V.str) ∨ SqT X.K H p (ws.map V.str)) := by
          unfold seq? at eq
          split at eq
          · cases eq
            cases ry with
            | tup h1 h2 =>
              obtain ⟨e1, _, _⟩ := h2.strs ew
              subst e1
              exact ⟨_, rfl, .inr (SqT.of h1)⟩
          · cases ry with
            | obj hs =>
            split at eq
            · rename_i eo
              cases eq
              obtain ⟨p, ys, g1, g2, g3⟩ := sm.lstR eo
              rw [hs] at g1; cases g1
              obtain ⟨e1, _, _⟩ := g3.strs ew
              subst e1
              exact ⟨_, rfl, .inl (by rw [← hK]; exact g2)⟩
            · cases eq
          · cases eq
        obtain ⟨p, rfl, go⟩ := go
        exact mt_join pins s σ H _ _ u us Q I rx r ⟨_, p, ws, rfl, rfl, go, hz.1, h.val sm (.str hz.2)⟩
      · exact h.elim
    · exact h.elim
  · exact h.elim
theorem mt_spl : MtR X "str.split" (StM X splitV) := by
  intro pins s σ H x xs u us Q I rx r h
  obtain ⟨G, W, σ', μ, v, vs, S, hK, sm, rv, rs, h⟩ := h
  unfold splitV at h
  split at h
  · cases rv
    obtain ⟨y, rfl, ry⟩ := rs.one_inv
    cases ry
    split at h
    · rename_i hz
      refine mt_split pins s σ H _ _ u us Q I rx r ⟨_, _, rfl, rfl, hz.1, hz.2.1, fun p hp => ?_⟩
      exact h.lst sm (RVs.of_strs _ fun s hs => List.all_eq_true.mp hz.2.2 s hs) hp
    · exact h.elim
  · exact h.elim
theorem mt_lwr : MtR X "str.lower" (StM X lowerV) := by
  intro pins s σ H x xs u us Q I rx r h
  obtain ⟨G, W, σ', μ, v, vs, S, hK, sm, rv, rs, h⟩ := h
  unfold lowerV at h
  split at h
  · cases rv
    cases rs
    split at h
    · rename_i hz
      exact mt_lower pins s σ H _ _ u us Q I rx r ⟨_, rfl, rfl, hz.1, h.val sm (.str hz.2)⟩
    · exact h.elim
  · exact h.elim
end
end Nw

set_option Elab.async false
set_option linter.all false
set_option maxRecDepth 100000
set_option maxHeartbeats 1000000
namespace Nw
open PySem L2

section
variable {α β : Type} {G : Cfg} {W : WX} {X : Cx} {σ : St} {μ : List Addr} {H : Hp} {S : Store} {Q : VK} {G' : Tab} {ft : Fns}
variable {o e f : Expr} {pa pb pc : PyE} {p q : PyS} {apos cpos pos pos' tpos : Pos} {D : Ends} {env : Env} {st : Stmt} {sts : List Stmt}

theorem outA {r : Res α} {f : α → Store → Out} (h : AfterO G W μ H (r.out env f) D) (e : REnv μ H env σ) : After G W σ μ H r fun a μ' S' H' => AfterO G W μ' H' (f a S') D := by
  cases r with
  | ok a S => exact fun μ' H' u k s => AfterO.later (o := f a S) h u k
  | ex x S => exact fun μ' H' d u k s => h μ' H' σ d u k s (e.mono u k)
  | no => exact h
theorem oneS {m : Env → Store → Res Val} {f : Val → Env → Store → Out}
    (h : ∃ μ env S, Sim G μ S H ∧ REnv μ H env σ ∧ AfterO G W μ H ((m env S).out env fun x S1 => f x env S1) D) :
    lift G W m σ H fun x' H1 => ∃ μ env x S, Sim G μ S H1 ∧ REnv μ H1 env σ ∧ RV μ H1 x x' ∧ AfterO G W μ H1 (f x env S) D := by
  obtain ⟨μ, env, S, s, e, h⟩ := h
  exact ⟨μ, env, S, s, e, (outA h e).imp fun x μ1 S1 H1 u1 k1 s1 h1 x' rx => ⟨μ1, env, x, S1, s1, e.mono u1 k1, rx, h1⟩⟩
theorem oneSA {m : Env → Store → Res (List Val)} {f : List Val → Env → Store → Out}
    (h : ∃ μ env S, Sim G μ S H ∧ REnv μ H env σ ∧ AfterO G W μ H ((m env S).out env fun x S1 => f x env S1) D) :
    liftA G W m σ H fun xs H1 => ∃ μ env vs S, Sim G μ S H1 ∧ REnv μ H1 env σ ∧ RVs μ H1 vs xs ∧ AfterO G W μ H1 (f vs env S) D := by
  obtain ⟨μ, env, S, s, e, h⟩ := h
  exact ⟨μ, env, S, s, e, (outA h e).imp fun x μ1 S1 H1 u1 k1 s1 h1 x' rx => ⟨μ1, env, x, S1, s1, e.mono u1 k1, rx, h1⟩⟩

theorem dss_nil : PSs X [] (liftS G W (ex G' ft .skip)) := pss_nil.imp fun D σ H ⟨μ, env, S, s, e, h⟩ => h μ H σ (Up.refl _) (Keep.refl _) s e
theorem ds_skip (h : PS X st tNext) : PS X st (liftS G W (ex G' ft .skip)) := h.imp fun D σ H ⟨μ, env, S, s, e, h⟩ => h μ H σ (Up.refl _) (Keep.refl _) s e
theorem dss_cons (h1 : PS X st (liftS G W (ex G' ft p))) (h2 : PSs X sts (liftS G W (ex G' ft q))) : PSs X (st :: sts) (liftS G W (ex G' ft (.seq p q))) := by
  refine (pss_cons h1 h2).imp fun D σ H ⟨μ, env, S, s, e, h⟩ => ⟨μ, env, S, s, e, ?_⟩
  simp only [ex] at h
  cases eo : ex G' ft p env S with
  | nx e' S' =>
    rw [eo] at h
    exact fun μ' H' σ' u k s' e'' => ⟨μ', e', S', s', e'', h.later u k⟩
  | rt v S' => rw [eo] at h; exact h
  | bk v S' => rw [eo] at h; exact h
  | ct v S' => rw [eo] at h; exact h
  | ex x v S' => rw [eo] at h; exact h
  | no => rw [eo] at h; exact h
theorem dss_one (h1 : PS X st (liftS G W (ex G' ft p))) : PSs X [st] (liftS G W (ex G' ft p)) := pss_one h1
theorem ds_brk : PS X (.Break pos) (liftS G W (ex G' ft .brk)) := ps_break.imp fun D σ H ⟨μ, env, S, s, e, h⟩ => h μ H σ (Up.refl _) (Keep.refl _) s e
theorem ds_cnt : PS X (.Continue pos) (liftS G W (ex G' ft .cnt)) := ps_continue.imp fun D σ H ⟨μ, env, S, s, e, h⟩ => h μ H σ (Up.refl _) (Keep.refl _) s e
theorem ds_pass : PS X (.Pass pos) (liftS G W (ex G' ft .skip)) := ds_skip ps_pass
theorem ds_doc {x j} : PS X (.Expr (.Constant (.str x) j pos) pos') (liftS G W (ex G' ft .skip)) := ds_skip ps_doc
theorem ds_expr (he : PE X e (lift G W (ev G' ft pa))) (hs : swapsWith e none pos.line X.env = pure false) : PS X (.Expr e pos) (liftS G W (ex G' ft (.expr pa))) := by
  refine (ps_expr he hs).imp fun D σ H h => ?_
  have h2 := oneS (f := fun x env S1 => .nx env S1) (by simp only [liftS, ex] at h; exact h)
  exact lift_mono h2 fun x H1 ⟨μ, env, v, S, s, e, r, q⟩ => q μ H1 σ (Up.refl _) (Keep.refl _) s e
theorem ds_ret (he : PE X e (lift G W (ev G' ft pa))) : PS X (.Return (some e) pos) (liftS G W (ex G' ft (.ret pa))) := by
  refine (ps_ret he).imp fun D σ H h => ?_
  have h2 := oneS (f := fun x env S1 => .rt x S1) (by simp only [liftS, ex] at h; exact h)
  exact lift_mono h2 fun x H1 ⟨μ, env, v, S, s, e, r, q⟩ => q μ H1 x (Up.refl _) (Keep.refl _) s r
theorem ds_retN : PS X (.Return none pos) (liftS G W (ex G' ft (.ret (.c .non)))) := by
  refine ps_retN.imp fun D σ H ⟨μ, env, S, s, e, h⟩ => ?_
  simp only [ex, ev, Res.out_ok] at h
  exact h μ H .non (Up.refl _) (Keep.refl _) s .non
theorem ds_if {c : Expr} {a b : List Stmt} (hc : PT X c (liftT G W (tst (ev G' ft pa)))) (ha : PSs X a (liftS G W (ex G' ft p))) (hb : PSs X b (liftS G W (ex G' ft q))) : PS X (.If c a b pos) (liftS G W (ex G' ft (.ite pa p q))) := by
  refine (ps_if hc ha hb).imp fun D σ H ⟨μ, env, S, s, e, h⟩ => ?_
  simp only [ex] at h
  have h1 := outA h e
  refine ⟨μ, env, S, s, e, ?_⟩
  unfold tst
  cases er : ev G' ft pa env S with
  | no => rw [er] at h1; exact h1.elim
  | ex x S1 => rw [er] at h1; exact h1
  | ok v S1 =>
    rw [er] at h1
    simp only [Res.bind_ok]
    cases et : tru S1 v with
    | none =>
      rw [er] at h
      simp only [Res.out_ok, ifS, et] at h
      exact h.elim
    | some b =>
      simp only [Res.ofO_some]
      intro μ' H' u k s'
      have h2 := h1 μ' H' u k s'
      simp only [ifS, et] at h2
      cases b with
      | true => exact ⟨μ', env, S1, s', e.mono u k, h2⟩
      | false => exact ⟨μ', env, S1, s', e.mono u k, h2⟩
theorem ds_asg {i : Nat} {x : Str} (hN : X.N.Nodup) (hi : X.N[i]? = some x) (hx : Loc X.env.scope x) (he : PE X e (lift G W (ev G' ft pa))) (hs : swapsWith e (some (.Name x pos')) pos.line X.env = pure false) (hf : X.fn x = true ∨ X.env.scope.names.lookup x = some .local) :
    PS X (.Assign [.Name x pos'] e pos) (liftS G W (ex G' ft (.asg i pa))) := by
  refine (ps_set hN hi hx he hs hf).imp fun D σ H h => ?_
  have h2 := oneS (f := fun x env S1 => .nx (env.set i (some x)) S1) (by simp only [liftS, ex] at h; exact h)
  exact lift_mono h2 fun x H1 ⟨μ, env, v, S, s, e, r, q⟩ => q μ H1 _ (Up.refl _) (Keep.refl _) s (e.set r)

/-! several names -/
def gNs : List Nat → TGs
  | [] => gNil
  | i :: r => gCons (gName i) (gNs r)
theorem gNs_of : ∀ {is : List Nat} {xs : List V} {σ : St} {H : Hp} {Q : St → Hp → Prop}, xs.length = is.length → Q ((is.zip xs).foldl (fun σ p => σ.set p.1 (some p.2)) σ) H → gNs is xs σ H Q
  | [], [], _, _, _, _, q => ⟨rfl, q⟩
  | i :: r, x :: xs, σ, H, Q, hl, q => ⟨x, xs, rfl, gNs_of (is := r) (by simpa using hl) q⟩
  | [], _ :: _, _, _, _, hl, _ => by simp at hl
  | _ :: _, [], _, _, _, hl, _ => by simp at hl
theorem REnv.sets : ∀ {is : List Nat} {vs : List Val} {xs : List V} {env : Env} {σ : St}, RVs μ H vs xs → REnv μ H env σ → REnv μ H ((is.zip vs).foldl (fun e p => e.set p.1 (some p.2)) env) ((is.zip xs).foldl (fun σ p => σ.set p.1 (some p.2)) σ)
  | [], _, _, _, _, _, e => by simpa using e
  | i :: r, [], _, _, _, h, e => by cases h; simpa using e
  | i :: r, v :: vs, _, _, _, h, e => by
    cases h with
    | cons h t => simp only [List.zip_cons_cons, List.foldl_cons]; exact REnv.sets t (e.set h)
/-- a target: one name, or a tuple of names -/
def gT (K : PySem.W.Frag) (tp : Bool) (is : List Nat) : TG := fun v σ H Q => if tp then gTup K is.length (gNs is) v σ H Q else ∃ i, is = [i] ∧ gName i v σ H Q
theorem tgt_rel {tp : Bool} {is : List Nat} {v : Val} {x : V} {env env' : Env} {Q : St → Hp → Prop} (hK : G.K = X.K) (h : tgt tp is v env = some env') (r : RV μ H v x) (e : REnv μ H env σ) (q : ∀ σ', REnv μ H env' σ' → Q σ' H) : gT X.K tp is x σ H Q := by
  unfold tgt at h
  unfold gT
  cases tp with
  | true =>
    rw [if_pos rfl] at h ⊢
    split at h
    · cases r with
      | tup h1 h2 =>
      split at h
      · rename_i hl
        cases h
        exact ⟨_, _, rfl, SqT.of h1, by rw [← h2.length]; exact hl, gNs_of (by rw [← h2.length]; exact hl) (q _ (REnv.sets h2 e))⟩
      · cases h
    · cases h
  | false =>
    rw [if_neg Bool.false_ne_true] at h ⊢
    split at h
    · cases h
      exact ⟨_, rfl, q _ (e.set r)⟩
    · cases h
theorem ds_asgT {tg : Expr} {is : List Nat} (hK : G.K = X.K) (he : PE X e (lift G W (ev G' ft pa))) (hg : PG X tg (gT X.K true is)) (hs : swapsWithSole [tg] e pos.line X.env = pure false) (hw : swappedStores [tg] e X.env = pure none)
    (h1 : (assignEach [tg] X.env).map (·.2) = [assign tg X.env]) : PS X (.Assign [tg] e pos) (liftS G W (ex G' ft (.asgT is pa))) := by
  refine (ps_asg he hg hs hw h1).imp fun D σ H h => ?_
  have h2 := oneS (f := fun v env S1 => ofNx ((tgt true is v env).map fun e' => (e', S1))) (by simp only [liftS, ex] at h; exact h)
  refine lift_mono h2 fun x H1 ⟨μ, env, v, S, s, e, r, q⟩ => ?_
  cases et : tgt true is v env with
  | none => rw [et] at q; exact q.elim
  | some e' =>
    rw [et] at q
    exact tgt_rel hK et r e fun σ' e2 => q μ H1 σ' (Up.refl _) (Keep.refl _) s e2
/-- names from a list -/
def gTL (K : PySem.W.Frag) (is : List Nat) : TG := fun v σ H Q => gLst K is.length (gNs is) v σ H Q
theorem tgtL_rel {is : List Nat} {v : Val} {x : V} {env env' : Env} {Q : St → Hp → Prop} (hK : G.K = X.K) (s : Sim G μ S H) (h : ((lst? S v).bind fun xs => tgt true is (.tup xs) env) = some env') (r : RV μ H v x) (e : REnv μ H env σ) (q : ∀ σ', REnv μ H env' σ' → Q σ' H) : gTL X.K is x σ H Q := by
  unfold lst? at h
  split at h
  · rename_i i
    cases r with
    | obj hs =>
    split at h
    · rename_i l xs eo
      obtain ⟨p, ys, g1, g2, g3⟩ := s.lstR eo
      rw [hs] at g1; cases g1
      simp only [Option.bind_some, tgt, if_true] at h
      split at h
      · rename_i hl
        cases h
        exact ⟨_, _, rfl, by rw [← hK]; exact g2, by rw [← g3.length]; exact hl, gNs_of (by rw [← g3.length]; exact hl) (q _ (REnv.sets g3 e))⟩
      · cases h
    · cases h
  · cases h
theorem ds_asgL {tg : Expr} {is : List Nat} (hK : G.K = X.K) (he : PE X e (lift G W (ev G' ft pa))) (hg : PG X tg (gTL X.K is)) (hs : swapsWithSole [tg] e pos.line X.env = pure false) (hw : swappedStores [tg] e X.env = pure none)
    (h1 : (assignEach [tg] X.env).map (·.2) = [assign tg X.env]) : PS X (.Assign [tg] e pos) (liftS G W (ex G' ft (.asgL is pa))) := by
  refine (ps_asg he hg hs hw h1).imp fun D σ H h => ?_
  have h2 := oneS (f := fun v env S1 => ofNx (((lst? S1 v).bind fun xs => tgt true is (.tup xs) env).map fun e' => (e', S1))) (by simp only [liftS, ex] at h; exact h)
  refine lift_mono h2 fun x H1 ⟨μ, env, v, S, s, e, r, q⟩ => ?_
  cases et : ((lst? S v).bind fun xs => tgt true is (.tup xs) env) with
  | none => rw [et] at q; exact q.elim
  | some e' =>
    rw [et] at q
    exact tgtL_rel hK s et r e fun σ' e2 => q μ H1 σ' (Up.refl _) (Keep.refl _) s e2
/-- two names at once -/
theorem ds_par {i j : Nat} {x y : Str} {a b : Expr} {px py pt : Pos} {kt k2 pt2} (hK : G.K = X.K) (hc : X.calm = true) (hN : X.N.Nodup) (hi : X.N[i]? = some x) (hj : X.N[j]? = some y) (hij : i ≠ j)
    (hx : X.env.scope.names.lookup x = some .local) (hy : X.env.scope.names.lookup y = some .local) (ha : PA X [a, b] (liftA G W (evA G' ft pa)))
    (hw : swappedStores [.Tuple [.Name x px, .Name y py] kt pt] (.Tuple [a, b] k2 pt2) X.env = pure (some [x, y]))
    (hs : swapsWithSole [.Tuple [.Name x px, .Name y py] kt pt] (.Tuple [a, b] k2 pt2) pos.line X.env = pure false) :
    PS X (.Assign [.Tuple [.Name x px, .Name y py] kt pt] (.Tuple [a, b] k2 pt2) pos) (liftS G W (ex G' ft (.asgT [i, j] (.tup pa)))) := by
  refine (ps_par hc hN hi hj hij hx hy ha hw hs).imp fun D σ H ⟨μ, env, S, s, e, h⟩ => ?_
  simp only [ex, ev] at h
  have h1 := (outA h e).bind
  refine ⟨μ, env, S, s, e, h1.imp fun vs μ1 S1 H1 u1 k1 s1 q xs rs => ?_⟩
  split at q
  · have q2 := q.here s1
    cases et : tgt true [i, j] (.tup vs) env with
    | none => rw [et] at q2; exact q2.elim
    | some e' =>
      rw [et] at q2
      unfold tgt at et
      rw [if_pos rfl] at et
      simp only at et
      split at et
      · rename_i hl
        cases et
        match vs, hl with
        | [v, w], _ =>
        obtain ⟨a, b, rfl, ra, rb⟩ := rs.two_inv
        exact ⟨a, b, rfl, q2 μ1 H1 _ (Up.refl _) (Keep.refl _) s1 (((e.mono u1 k1).set ra).set rb)⟩
      · cases et
  · exact q.elim

/-! stores -/
def StSet (X : Cx) : TSet := fun o i v H Q => ∃ (G : Cfg) (μ : List Addr) (S S' : Store) (vo vi vv : Val), G.K = X.K ∧ Sim G μ S H ∧ RV μ H vo o ∧ RV μ H vi i ∧ RV μ H vv v ∧ setIV S vo vi vv = some S' ∧ ∀ H', Keep H H' → Sim G μ S' H' → Q H'
theorem set_all (hu : X.A.units + 1 < cLine) : PSet X (StSet X) := by
  intro pins s σ H o i v ov iv u Q I ro ri rv h
  obtain ⟨G, μ, S, S', vo, vi, vv, hK, sm, r1, r2, r3, h, q⟩ := h
  unfold setIV at h
  split at h
  · cases r1 with
    | obj hs =>
    split at h
    · rename_i xs k eo
      cases r2
      obtain ⟨j, ej, e2⟩ := Option.map_eq_some_iff.mp h
      subst e2
      obtain ⟨p, ys, g1, g2, g3⟩ := sm.lst eo
      rw [hs] at g1; cases g1
      obtain ⟨s2, k2⟩ := sm.put (o' := .lst false (xs.set j vv)) (u := .lst (ys.set j v)) eo rfl rfl hs ⟨_, upd_same, (g3.set j r3).mono (Up.refl _) (Keep.lst g2)⟩
      exact set_list pins s σ H _ _ v ov iv u Q I ro ri rv ⟨_, ys, k, j, rfl, rfl, g2, by rw [← g3.length]; exact ej, q _ k2 s2⟩
    · rename_i ii kvs eo
      obtain ⟨k, ek, e2⟩ := Option.bind_eq_some_iff.mp h
      split at e2
      · rename_i hl
        cases e2
        obtain ⟨p, ys, g1, g2, g3, g4⟩ := sm.dK eo
        rw [hs] at g1; cases g1
        obtain ⟨k1, _, k3⟩ := key_rel r2 ek
        cases ro
        obtain ⟨s2, k2⟩ := sm.put (o' := .dK false (put kvs k vv)) (u := .dK (putK ys k v)) eo rfl rfl hs ⟨_, upd_same, (g3.put r3).mono (Up.refl _) (Keep.dK g2), put_ok g4 k3⟩
        exact d_setItem hu I (.inl ⟨ys, k, g2, k1, by rw [← line_eq, ← g3.length]; exact hl, rfl⟩) ri rv fun s' I' => ⟨_, I', q _ k2 s2⟩
      · cases e2
    · rename_i ii kvs eo
      obtain ⟨k, ek, e2⟩ := Option.bind_eq_some_iff.mp h
      split at e2
      · rename_i hl
        cases e2
        obtain ⟨p, ys, g1, g2, g3, g4⟩ := sm.dT eo
        rw [hs] at g1; cases g1
        obtain ⟨b, k1, kb, k3⟩ := keysT_rel r2 ek
        cases ro
        obtain ⟨s2, k2⟩ := sm.put (o' := .dT false (put kvs k vv)) (u := .dT (putK ys k v)) eo rfl rfl hs ⟨_, upd_same, (g3.put r3).mono (Up.refl _) (Keep.dT g2), putT_ok g4 k3⟩
        exact d_setItem hu I (.inr ⟨ys, k, b, g2, k1, kb, by rw [← line_eq, ← g3.length]; exact hl, rfl⟩) ri rv fun s' I' => ⟨_, I', q _ k2 s2⟩
      · cases e2
    · cases h
  · cases h
theorem ds_setI {i : Expr} (hu : X.A.units + 1 < cLine) (hK : G.K = X.K) (he : PE X e (lift G W (ev G' ft pc))) (ho : PE X o (lift G W (ev G' ft pa))) (hi : PE X i (lift G W (ev G' ft pb)))
    (ha : ∀ v, assign (.Subscript o i tpos) X.env v = (do
      let ov ← holding [v] (eval o X.env)
      let iv ← holding [v, ov] (eval i X.env)
      standAt tpos
      holding [v, ov, iv] (setItem ov iv v)
      release [v, ov, iv] [])) (hs : swapsWithSole [.Subscript o i tpos] e pos.line X.env = pure false) (hw : swappedStores [.Subscript o i tpos] e X.env = pure none)
    (h1 : (assignEach [.Subscript o i tpos] X.env).map (·.2) = [assign (.Subscript o i tpos) X.env]) : PS X (.Assign [.Subscript o i tpos] e pos) (liftS G W (ex G' ft (.setI pa pb pc))) := by
  refine (ps_asg he (pg_sub ho hi (set_all hu) ha) hs hw h1).imp fun D σ H h => ?_
  have h2 := oneS (f := fun v env S1 => (ev G' ft pa env S1).out env fun x S2 => (ev G' ft pb env S2).out env fun k S3 => ofNx ((setIV S3 x k v).map fun S4 => (env, S4))) (by simp only [liftS, ex] at h; exact h)
  refine lift_mono h2 fun v' H1 ⟨μ1, env1, v, S1, s1, e1, r1, q1⟩ => ?_
  -- the object, the index
  refine ⟨μ1, env1, S1, s1, e1, (outA q1 e1).imp fun x μ2 S2 H2 u2 k2 s2 q2 x' rx => ?_⟩
  refine ⟨μ2, env1, S2, s2, e1.mono u2 k2, (outA q2 (e1.mono u2 k2)).imp fun k μ3 S3 H3 u3 k3 s3 q3 k' rk => ?_⟩
  cases et : setIV S3 x k v with
  | none => rw [et] at q3; exact q3.elim
  | some S4 =>
    rw [et] at q3
    exact ⟨G, μ3, S3, S4, x, k, v, hK, s3, rx.mono u3 k3 _ _, rk, (r1.mono u2 k2 _ _).mono u3 k3 _ _, et, fun H' k4 s4 => q3 μ3 H' σ (Up.refl _) k4 s4 (((e1.mono u2 k2).mono u3 k3).mono (Up.refl _) k4)⟩

/-! attributes -/
theorem ds_setF {fd : Nat} (hK : G.K = X.K) (hf : fd < G.NM.length) (hc : ∀ c, G'.isF c fd = true → Cls G.K (G.ca c) ∧ NoAttr G.K (G.ca c) (G.nm fd)) (he : PE X e (lift G W (ev G' ft pb))) (ho : PE X o (lift G W (ev G' ft pa)))
    (hs : swapsWith e (some (.Attribute o (G.nm fd) pos')) pos.line X.env = pure false) : PS X (.Assign [.Attribute o (G.nm fd) pos'] e pos) (liftS G W (ex G' ft (.setF pa fd pb))) := by
  refine (ps_fld ho he hs).imp fun D σ H h => ?_
  have h2 := oneS (f := fun v env S1 => (ev G' ft pa env S1).out env fun x S2 => setFV G' fd env v x S2) (by simp only [liftS, ex] at h; exact h)
  refine lift_mono h2 fun v' H1 ⟨μ1, env1, v, S1, s1, e1, r1, q1⟩ => ?_
  refine ⟨μ1, env1, S1, s1, e1, (outA q1 e1).imp fun x μ2 S2 H2 u2 k2 s2 q2 x' rx => ?_⟩
  unfold setFV at q2
  split at q2
  · cases rx with
    | obj hs =>
    split at q2
    · rename_i c fs eo
      split at q2
      · rename_i hh
        simp only [Bool.and_eq_true, decide_eq_true_eq] at hh
        obtain ⟨p, dx, ys, g1, g2, g3⟩ := s2.ins eo
        rw [hs] at g1; cases g1
        obtain ⟨c1, c2⟩ := hc c hh.1
        obtain ⟨s3, k3⟩ := s2.put (o' := .ins c (fput fd v fs)) (u := .ins (G.ca c) dx (putF (G.nm fd) v' ys)) eo rfl rfl hs ⟨_, _, upd_same, (g3.put hf (r1.mono u2 k2 _ _)).mono (Up.refl _) (Keep.ins g2)⟩
        exact ⟨_, _, dx, ys, rfl, g2, hK ▸ c1, hK ▸ c2, by rw [← g3.length]; exact hh.2, q2 μ2 _ σ (Up.refl _) k3 s3 ((e1.mono u2 k2).mono (Up.refl _) k3)⟩
      · exact q2.elim
    · exact q2.elim
  · exact q2.elim

/-! op= -/
def StOp (X : Cx) (f : Store → Val → Val → Res Val) : V → V → Hp → VK → Prop := fun x y H Q => ∃ (G : Cfg) (W : WX) (σ : St) (μ : List Addr) (v w : Val) (S : Store), G.K = X.K ∧ Sim G μ S H ∧ RV μ H v x ∧ RV μ H w y ∧ After G W σ μ H (f S v w) (Kv Q)
theorem iop_addAll : PIp X .Add (StOp X iaddV) := by
  intro pins s σ H x y v u Q I rx ry h
  obtain ⟨G, W, σ', μ, a, b, S, hK, sm, r1, r2, h⟩ := h
  unfold iaddV at h
  split at h
  · cases r1; cases r2
    exact iop_add pins s σ H _ _ v u Q I rx ry ⟨_, _, rfl, rfl, h.val sm (.int _)⟩
  · cases r1 with
    | str h1 =>
    cases r2 with
    | str h2 =>
    split at h
    · rename_i hl
      exact iop_add_str pins s σ H _ _ v u Q I rx ry ⟨_, _, rfl, rfl, hl, h.val sm (.str (sOk_app h1 h2))⟩
    · exact h.elim
  · cases r1 with
    | obj hs =>
    cases r2 with
    | obj hs2 =>
    split at h
    · rename_i xs' ys' eo eo2
      split at h
      · rename_i hl
        obtain ⟨p, ys, g1, g2, g3⟩ := sm.lst eo
        rw [hs] at g1; cases g1
        obtain ⟨p2, zs, f1, f2, f3⟩ := sm.lst eo2
        rw [hs2] at f1; cases f1
        refine iop_ext pins s σ H _ _ v u Q I rx ry ⟨_, _, ys, zs, rfl, rfl, g2, f2, by rw [← line_eq, ← g3.length, ← f3.length]; exact hl, ?_⟩
        exact h.put sm eo rfl rfl hs ⟨_, upd_same, (g3.app f3).mono (Up.refl _) (Keep.lst g2)⟩ (.obj hs)
      · exact h.elim
    · exact h.elim
  · exact h.elim
theorem iop_subAll : PIp X .Sub (StOp X subV) := by
  intro pins s σ H x y v u Q I rx ry h
  obtain ⟨G, W, σ', μ, a, b, S, hK, sm, r1, r2, h⟩ := h
  unfold subV at h
  split at h
  · cases r1; cases r2
    exact iop_sub pins s σ H _ _ v u Q I rx ry ⟨_, _, rfl, rfl, h.val sm (.int _)⟩
  · exact h.elim
def augPy : BinO → Operator
  | .sub => .Sub
  | _ => .Add
def augOk : BinO → Bool
  | .add => true
  | .sub => true
  | _ => false
theorem iop_all {b : BinO} (hb : augOk b = true) : PIp X (augPy b) (StOp X (augV b)) := by
  cases b <;> first | exact iop_addAll | exact iop_subAll | cases hb
theorem ds_augV {i : Nat} {x : Str} {b : BinO} (hb : augOk b = true) (hK : G.K = X.K) (hN : X.N.Nodup) (hi : X.N[i]? = some x) (hx : Loc X.env.scope x) (he : PE X e (lift G W (ev G' ft pa))) (hf : X.fn x = true ∨ X.env.scope.names.lookup x = some .local) :
    PS X (.AugAssign (.Name x pos') (augPy b) e pos) (liftS G W (ex G' ft (.augV i b pa))) := by
  refine (ps_aug hN hi hx he (iop_all hb) hf).imp fun D σ H ⟨μ, env, S, s, e, h⟩ => ?_
  simp only [ex] at h
  cases ev' : env[i]?.getD none with
  | none => rw [ev'] at h; exact h.elim
  | some v =>
    rw [ev'] at h
    simp only [Res.ofO_some, Res.out_ok] at h
    have e1 : env[i]? = some (some v) := by
      cases e2 : env[i]? with
      | none => rw [e2] at ev'; cases ev'
      | some w => rw [e2] at ev'; cases ev'; rfl
    obtain ⟨x', h1, h2⟩ := e.at_ i v e1
    refine ⟨x', h1, μ, env, S, s, e, (outA h e).imp fun y μ1 S1 H1 u1 k1 s1 q1 y' ry => ?_⟩
    refine ⟨G, W, σ, μ1, v, y, S1, hK, s1, h2.mono u1 k1 _ _, ry, (outA q1 (e.mono u1 k1)).imp fun z μ2 S2 H2 u2 k2 s2 q2 z' rz => ?_⟩
    exact q2 μ2 H2 _ (Up.refl _) (Keep.refl _) s2 (((e.mono u1 k1).mono u2 k2).set rz)
theorem ds_augF {fd : Nat} {b : BinO} (hb : augOk b = true) (hK : G.K = X.K) (hf : fd < G.NM.length) (hc : ∀ c, G'.isF c fd = true → Cls G.K (G.ca c) ∧ NoAttr G.K (G.ca c) (G.nm fd)) (ho : PE X o (lift G W (ev G' ft pa))) (he : PE X e (lift G W (ev G' ft pb))) :
    PS X (.AugAssign (.Attribute o (G.nm fd) tpos) (augPy b) e pos) (liftS G W (ex G' ft (.augF pa fd b pb))) := by
  refine (ps_fldaug ho he (iop_all hb)).imp fun D σ H h => ?_
  have h2 := oneS (f := fun x env S1 => match augF1 G' fd x S1 with
    | some (i, c, v) => (ev G' ft pb env S1).out env fun y S2 => (augV b S2 v y).out env fun z S3 => augF2 fd env i c z S3
    | none => .no) (by simp only [liftS, ex] at h; exact h)
  refine lift_mono h2 fun x' H1 ⟨μ1, env, x, S1, s1, e1, rx, q1⟩ => ?_
  cases ea : augF1 G' fd x S1 with
  | none => rw [ea] at q1; exact q1.elim
  | some t =>
    obtain ⟨i, c, v⟩ := t
    rw [ea] at q1
    simp only at q1
    unfold augF1 at ea
    split at ea
    · split at ea
      · rename_i c' fs eo
        split at ea
        · rename_i hF
          obtain ⟨v', ev', e2⟩ := Option.map_eq_some_iff.mp ea
          cases e2
          cases rx with
          | obj hs =>
          obtain ⟨p, dx, ys, g1, g2, g3⟩ := s1.ins eo
          rw [hs] at g1; cases g1
          obtain ⟨c1, c2⟩ := hc _ hF
          obtain ⟨w, l1, l2⟩ := (g3.get hf).1 v ev'
          refine ⟨_, _, dx, ys, w, rfl, g2, hK ▸ c1, hK ▸ c2, l1, μ1, env, S1, s1, e1, (outA q1 e1).imp fun y μ2 S2 H2 u2 k2 s2 q2 y' ry => ?_⟩
          refine ⟨G, W, σ, μ2, v, y, S2, hK, s2, l2.mono u2 k2 _ _, ry, (outA q2 (e1.mono u2 k2)).imp fun z μ3 S3 H3 u3 k3 s3 q3 z' rz => ?_⟩
          unfold augF2 at q3
          split at q3
          · rename_i c3 fs3 eo3
            split at q3
            · rename_i hh
              obtain ⟨rfl, hl⟩ := hh
              obtain ⟨p3, dx3, ys3, j1, j2, j3⟩ := s3.ins eo3
              have hs3 := u3 _ _ (u2 _ _ hs)
              rw [hs3] at j1; cases j1
              obtain ⟨s4, k4⟩ := s3.put (o' := .ins c3 (fput fd z fs3)) (u := .ins (G.ca c3) dx3 (putF (G.nm fd) z' ys3)) eo3 rfl rfl hs3 ⟨_, _, upd_same, (j3.put hf rz).mono (Up.refl _) (Keep.ins j2)⟩
              exact ⟨dx3, ys3, j2, by rw [← j3.length]; exact hl, q3 μ3 _ σ (Up.refl _) k4 s4 (((e1.mono u2 k2).mono u3 k3).mono (Up.refl _) k4)⟩
            · exact q3.elim
          · exact q3.elim
        · cases ea
      · cases ea
    · cases ea
end
end Nw

set_option Elab.async false
set_option linter.all false
set_option maxRecDepth 100000
set_option maxHeartbeats 1000000
namespace Nw
open PySem L2

section
variable {α β : Type} {G : Cfg} {W : WX} {X : Cx} {σ : St} {μ : List Addr} {H : Hp} {S : Store} {Q : VK} {G' : Tab} {ft : Fns}
variable {o e f : Expr} {pa pb pc : PyE} {p q : PyS} {apos cpos pos pos' tpos : Pos} {D : Ends} {env : Env} {st : Stmt} {sts : List Stmt}

/-! while -/
theorem whl_turn {c : Env → Store → Res Val} {body : Env → Store → Out} {n : Nat} (s : Sim G μ S H) (e : REnv μ H env σ) (h : AfterO G W μ H (whlW c body (n + 1) env S) D) :
    liftT G W (tst c) σ H fun b H1 => if b = true then liftS G W body { D with nx := fun σ' H' => ∃ μ env S, Sim G μ S H' ∧ REnv μ H' env σ' ∧ AfterO G W μ H' (whlW c body n env S) D, ct := fun σ' H' => ∃ μ env S, Sim G μ S H' ∧ REnv μ H' env σ' ∧ AfterO G W μ H' (whlW c body n env S) D, bk := D.nx } σ H1 else D.nx σ H1 := by
  unfold whlW at h
  have h1 := outA h e
  refine ⟨μ, env, S, s, e, ?_⟩
  unfold tst
  cases er : c env S with
  | no => rw [er] at h1; exact h1.elim
  | ex x S1 => rw [er] at h1; exact h1
  | ok v S1 =>
    rw [er] at h1
    simp only [Res.bind_ok]
    cases et : tru S1 v with
    | none =>
      rw [er] at h
      simp only [Res.out_ok, ifS, et] at h
      exact h.elim
    | some b =>
      simp only [Res.ofO_some]
      intro μ' H' u k s'
      have h2 := h1 μ' H' u k s'
      simp only [ifS, et] at h2
      cases b with
      | false => exact h2 μ' H' σ (Up.refl _) (Keep.refl _) s' (e.mono u k)
      | true =>
        simp only [if_true]
        refine ⟨μ', env, S1, s', e.mono u k, ?_⟩
        cases eb : body env S1 with
        | nx e' S' =>
          rw [eb] at h2
          exact fun μ2 H2 σ2 u2 k2 s2 e2 => ⟨μ2, e', S', s2, e2, AfterO.later (o := whlW c body n e' S') h2 u2 k2⟩
        | ct e' S' =>
          rw [eb] at h2
          exact fun μ2 H2 σ2 u2 k2 s2 e2 => ⟨μ2, e', S', s2, e2, AfterO.later (o := whlW c body n e' S') h2 u2 k2⟩
        | bk e' S' => rw [eb] at h2; exact h2
        | rt v S' => rw [eb] at h2; exact h2
        | ex x e' S' => rw [eb] at h2; exact h2
        | no => rw [eb] at h2; exact h2.elim
theorem ds_whl {c : Expr} {body : List Stmt} (hp : PassesOwn (model X.prog X.w) X.A X.env X.xe) (hc : PT X c (liftT G W (tst (ev G' ft pa)))) (hb : PSs X body (liftS G W (ex G' ft p))) : PS X (.While c body [] pos) (liftS G W (ex G' ft (.whl pa p))) := by
  refine (ps_while hp hc hb).imp fun D σ H ⟨μ, env, S, s, e, h⟩ => ?_
  simp only [ex] at h
  refine ⟨fun m σ H => ∃ μ env S, Sim G μ S H ∧ REnv μ H env σ ∧ AfterO G W μ H (whlW (ev G' ft pa) (ex G' ft p) m env S) D, ⟨whileBound, μ, env, S, s, e, h⟩, ?_⟩
  rintro m σ' H' ⟨μ', env', S', s', e', h'⟩
  cases m with
  | zero => exact h'.elim
  | succ n =>
    obtain ⟨μ1, env1, S1, s1, e1, h1⟩ := whl_turn s' e' h'
    refine ⟨μ1, env1, S1, s1, e1, h1.imp fun b μ2 S2 H2 u2 k2 s2 h2 => ?_⟩
    cases b with
    | false => exact h2
    | true =>
      simp only [if_true] at h2 ⊢
      exact ⟨_, fun σ3 H3 h3 => ⟨n, Nat.lt_succ_self n, h3⟩, h2⟩

/-! what is walked -/
def ItOk (G : Cfg) (μ : List Addr) (H : Hp) (w : Walk) (J : It) : Prop := ∀ μ' H' S' i, Up μ μ' → Keep H H' → Sim G μ' S' H' →
  (∀ v, walkAt S' w i = some (some v) → J.go i H' ∧ ∀ x H'', J.yld i H' x H'' → Keep H' H'' ∧ Sim G μ' S' H'' ∧ RV μ' H'' v x) ∧ (walkAt S' w i = some none → J.stop i H')
def iG (G : Cfg) (W : WX) (k : ItK) (m : Env → Store → Res (List Val)) : TI := fun σ H R => ∃ μ env S, Sim G μ S H ∧ REnv μ H env σ ∧ After G W σ μ H (m env S) fun vs μ' S' H' => Sim G μ' S' H' → ∃ w n, mkWalk k S' vs = some (w, n) ∧ ∀ J, ItOk G μ' H' w J → R J H'
theorem lst?_of {v : Val} {xs : List Val} (h : lst? S v = some xs) : ∃ i l, v = .obj i ∧ S[i]? = some (.lst l xs) := by
  unfold lst? at h
  split at h
  · split at h
    · rename_i eo
      cases h
      exact ⟨_, _, rfl, eo⟩
    · cases h
  · cases h
theorem sql_one {K : PySem.W.Frag} (hK : G.K = K) (s : Sim G μ S H) {i : Nat} {xs : List Val} {a : Addr} (h : lst? S (.obj i) = some xs) (ha : μ[i]? = some a) : ∃ ys, SqL K H a ys ∧ RVs μ H xs ys := by
  obtain ⟨j, l, e1, e2⟩ := lst?_of h
  cases e1
  obtain ⟨b, ys, g1, g2, g3⟩ := s.lstR e2
  rw [ha] at g1; cases g1
  exact ⟨ys, by rw [← hK]; exact g2, g3⟩
theorem ItOk.lst {K : PySem.W.Frag} (hK : G.K = K) {i : Nat} {a : Addr} (ha : μ[i]? = some a) : ItOk G μ H (.lst i) (Itl K a) := by
  intro μ' H' S' j u k s
  refine ⟨fun v e => ?_, fun e => ?_⟩
  · simp only [walkAt] at e
    obtain ⟨xs, e1, e2⟩ := Option.map_eq_some_iff.mp e
    obtain ⟨ys, h1, h2⟩ := sql_one hK s e1 (u _ _ ha)
    obtain ⟨x, h3, h4⟩ := h2.get e2
    refine ⟨⟨ys, x, h1, h3⟩, fun x' H'' ⟨hh, hx⟩ => ?_⟩
    subst hh
    have := hx ys h1
    rw [h3] at this; cases this
    exact ⟨Keep.refl _, s, h4⟩
  · simp only [walkAt] at e
    obtain ⟨xs, e1, e2⟩ := Option.map_eq_some_iff.mp e
    obtain ⟨ys, h1, h2⟩ := sql_one hK s e1 (u _ _ ha)
    exact ⟨ys, h1, by rw [← h2.length]; exact List.getElem?_eq_none_iff.mp e2⟩
theorem ItOk.tup {K : PySem.W.Frag} {a : Addr} {xs : List Val} {ys : List V} (ha : H a = some (.tup ys)) (r : RVs μ H xs ys) : ItOk G μ H (.sq xs) (Itt K a) := by
  intro μ' H' S' j u k s
  have h1 : SqT K H' a ys := SqT.of (k.t _ _ ha)
  have r' := r.mono u k
  refine ⟨fun v e => ?_, fun e => ?_⟩
  · simp only [walkAt, Option.some.injEq] at e
    obtain ⟨x, h3, h4⟩ := r'.get e
    refine ⟨⟨ys, x, h1, h3⟩, fun x' H'' ⟨hh, hx⟩ => ?_⟩
    subst hh
    have := hx ys h1
    rw [h3] at this; cases this
    exact ⟨Keep.refl _, s, h4⟩
  · simp only [walkAt, Option.some.injEq] at e
    exact ⟨ys, h1, by rw [← r.length]; exact List.getElem?_eq_none_iff.mp e⟩
theorem ItOk.rng {lo : Int} {n : Nat} : ItOk G μ H (.sq (rangeL lo n)) (Itr lo n) := by
  intro μ' H' S' j u k s
  refine ⟨fun v e => ?_, fun e => ?_⟩
  · simp only [walkAt, Option.some.injEq, rangeL, List.getElem?_map] at e
    obtain ⟨x, h3, h4⟩ := Option.map_eq_some_iff.mp e
    have hj : j < n := by
      have := (List.getElem?_eq_some_iff.mp h3).1
      simpa using this
    have hx : x = j := by
      have := (List.getElem?_eq_some_iff.mp h3).2
      simpa using this.symm
    subst hx
    refine ⟨hj, fun x' H'' ⟨hh, hx⟩ => ?_⟩
    subst hh
    subst hx
    subst h4
    exact ⟨Keep.refl _, s, .int _⟩
  · simp only [walkAt, Option.some.injEq, rangeL, List.getElem?_map, Option.map_eq_none_iff] at e
    have := List.getElem?_eq_none_iff.mp e
    show n ≤ j
    simpa using this
theorem ItOk.rngC {n : Nat} : ItOk G μ H (.sq (rangeL 0 n).reverse) (Itc (0 + ((n : Nat) : Int) - 1) (-1) n) := by
  have hl : (rangeL 0 n).length = n := by simp [rangeL]
  intro μ' H' S' j u k s
  refine ⟨fun v e => ?_, fun e => ?_⟩
  · simp only [walkAt, Option.some.injEq] at e
    have hj : j < n := by
      have := (List.getElem?_eq_some_iff.mp e).1
      rwa [List.length_reverse, hl] at this
    rw [List.getElem?_reverse (by rw [hl]; exact hj), hl] at e
    simp only [rangeL, List.getElem?_map] at e
    obtain ⟨x, h3, h4⟩ := Option.map_eq_some_iff.mp e
    have hx : x = n - 1 - j := by
      have := (List.getElem?_eq_some_iff.mp h3).2
      simpa using this.symm
    refine ⟨hj, fun x' H'' ⟨hh, hx'⟩ => ?_⟩
    subst hh
    subst hx'
    subst h4
    have e2 : 0 + (n : Int) - 1 + (j : Int) * -1 = 0 + (x : Int) := by rw [hx]; omega
    rw [e2]
    exact ⟨Keep.refl _, s, .int _⟩
  · simp only [walkAt, Option.some.injEq] at e
    have := List.getElem?_eq_none_iff.mp e
    rw [List.length_reverse, hl] at this
    exact this
theorem ItOk.str {z : Str} (hz : sOk z = true) : ItOk G μ H (.sq (z.cps.toList.map fun c => .str ⟨#[c]⟩)) (Its z) := by
  intro μ' H' S' j u k s
  refine ⟨fun v e => ?_, fun e => ?_⟩
  · simp only [walkAt, Option.some.injEq, List.getElem?_map] at e
    obtain ⟨c, h3, h4⟩ := Option.map_eq_some_iff.mp e
    have h5 : z.cps[j]? = some c := by simpa using h3
    have hj : j < z.cps.size := (Array.getElem?_eq_some_iff.mp h5).1
    refine ⟨hj, fun x' H'' ⟨hh, c', hx, hv⟩ => ?_⟩
    subst hh
    rw [h5] at hx; cases hx
    subst hv; subst h4
    refine ⟨Keep.refl _, s, .str ?_⟩
    unfold sOk at hz ⊢
    have : c ∈ z.cps := by
      have := (Array.getElem?_eq_some_iff.mp h5)
      obtain ⟨h1, h2⟩ := this
      rw [← h2]; exact Array.getElem_mem h1
    have := Array.all_eq_true'.mp hz c this
    simpa using this
  · simp only [walkAt, Option.some.injEq, List.getElem?_map, Option.map_eq_none_iff] at e
    have := List.getElem?_eq_none_iff.mp e
    show z.cps.size ≤ j
    simpa using this
theorem ItOk.enm {K : PySem.W.Frag} (hK : G.K = K) {i : Nat} {a : Addr} (ha : μ[i]? = some a) : ItOk G μ H (.enm i) (Ite K a) := by
  intro μ' H' S' j u k s
  refine ⟨fun v e => ?_, fun e => ?_⟩
  · simp only [walkAt] at e
    obtain ⟨xs, e1, e2⟩ := Option.map_eq_some_iff.mp e
    obtain ⟨w, e3, e4⟩ := Option.map_eq_some_iff.mp e2
    subst e4
    obtain ⟨ys, h1, h2⟩ := sql_one hK s e1 (u _ _ ha)
    obtain ⟨x, h3, h4⟩ := h2.get e3
    refine ⟨⟨ys, x, h1, h3⟩, fun x' H'' ⟨T, x2, hv, hT, hh, hx⟩ => ?_⟩
    have := hx ys h1
    rw [h3] at this; cases this
    subst hh; subst hv
    have kp := Keep.new (o := .tup [.int (j : Nat), x]) hT
    exact ⟨kp, s.new hT, .tup upd_same (.cons (.int _) (.cons (h4.mono (Up.refl _) kp _ _) .nil))⟩
  · simp only [walkAt] at e
    obtain ⟨xs, e1, e2⟩ := Option.map_eq_some_iff.mp e
    obtain ⟨ys, h1, h2⟩ := sql_one hK s e1 (u _ _ ha)
    exact ⟨ys, h1, by rw [← h2.length]; exact List.getElem?_eq_none_iff.mp (Option.map_eq_none_iff.mp e2)⟩
theorem ItOk.zp {K : PySem.W.Frag} (hK : G.K = K) {i j : Nat} {a b : Addr} (ha : μ[i]? = some a) (hb : μ[j]? = some b) : ItOk G μ H (.zp i j) (Itz K a b) := by
  intro μ' H' S' n u k s
  refine ⟨fun v e => ?_, fun e => ?_⟩
  · simp only [walkAt] at e
    obtain ⟨xs, e1, e2⟩ := Option.bind_eq_some_iff.mp e
    obtain ⟨ys, e3, e4⟩ := Option.map_eq_some_iff.mp e2
    obtain ⟨x, e5, e6⟩ := Option.bind_eq_some_iff.mp e4
    obtain ⟨y, e7, e8⟩ := Option.map_eq_some_iff.mp e6
    subst e8
    obtain ⟨xs', h1, h2⟩ := sql_one hK s e1 (u _ _ ha)
    obtain ⟨ys', g1, g2⟩ := sql_one hK s e3 (u _ _ hb)
    obtain ⟨x', h3, h4⟩ := h2.get e5
    obtain ⟨y', g3, g4⟩ := g2.get e7
    refine ⟨⟨xs', ys', x', y', h1, g1, h3, g3⟩, fun v' H'' ⟨T, x2, y2, hv, hT, hh, hx, hy⟩ => ?_⟩
    have := hx xs' h1
    rw [h3] at this; cases this
    have := hy ys' g1
    rw [g3] at this; cases this
    subst hh; subst hv
    have kp := Keep.new (o := .tup [x', y']) hT
    exact ⟨kp, s.new hT, .tup upd_same (.cons (h4.mono (Up.refl _) kp _ _) (.cons (g4.mono (Up.refl _) kp _ _) .nil))⟩
  · simp only [walkAt] at e
    obtain ⟨xs, e1, e2⟩ := Option.bind_eq_some_iff.mp e
    obtain ⟨ys, e3, e4⟩ := Option.map_eq_some_iff.mp e2
    obtain ⟨xs', h1, h2⟩ := sql_one hK s e1 (u _ _ ha)
    obtain ⟨ys', g1, g2⟩ := sql_one hK s e3 (u _ _ hb)
    refine ⟨xs', ys', h1, g1, ?_⟩
    rw [← h2.length, ← g2.length]
    cases e5 : xs[n]? with
    | none => exact .inl (List.getElem?_eq_none_iff.mp e5)
    | some x =>
      rw [e5] at e4
      simp only [Option.bind_some, Option.map_eq_none_iff] at e4
      exact .inr (List.getElem?_eq_none_iff.mp e4)
theorem ItOk.rv {K : PySem.W.Frag} (hK : G.K = K) {i n : Nat} {a : Addr} (ha : μ[i]? = some a) : ItOk G μ H (.rv i n) (Itv K a n) := by
  intro μ' H' S' j u k s
  refine ⟨fun v e => ?_, fun e => ?_⟩
  · simp only [walkAt] at e
    obtain ⟨xs, e1, e2⟩ := Option.bind_eq_some_iff.mp e
    split at e2
    · rename_i hj
      obtain ⟨w, e3, e4⟩ := Option.map_eq_some_iff.mp e2
      cases e4
      obtain ⟨ys, h1, h2⟩ := sql_one hK s e1 (u _ _ ha)
      obtain ⟨x, h3, h4⟩ := h2.get e3
      refine ⟨⟨hj, ys, x, h1, h3⟩, fun x' H'' ⟨hh, hx⟩ => ?_⟩
      subst hh
      have := hx ys h1
      rw [h3] at this; cases this
      exact ⟨Keep.refl _, s, h4⟩
    · cases e2
  · simp only [walkAt] at e
    obtain ⟨xs, e1, e2⟩ := Option.bind_eq_some_iff.mp e
    show n ≤ j
    split at e2
    · obtain ⟨w, e3, e4⟩ := Option.map_eq_some_iff.mp e2
      cases e4
    · rename_i hj; omega

/-! iterables -/
/-- readings of an iterable are joined -/
theorem pi_or {tg : Expr} {wi wi' : TI} (h : PI X tg e wi) (h' : PI X tg e wi') : PI X tg e (fun σ H R => wi σ H R ∨ wi' σ H R) := ⟨fun pins s σ H R I q => q.elim (h.run pins s σ H R I) (h'.run pins s σ H R I)⟩
theorem pi_imp {tg : Expr} {wi wi' : TI} (h : PI X tg e wi) (i : ∀ σ H R, wi' σ H R → wi σ H R) : PI X tg e wi' := ⟨fun pins s σ H R I q => h.run pins s σ H R I (i σ H R q)⟩
theorem iG_one {k : ItK} {R : It → Hp → Prop} (h : iG G W k (evA G' ft (.cons pa .nil)) σ H R) : ∃ μ env S, Sim G μ S H ∧ REnv μ H env σ ∧ After G W σ μ H (ev G' ft pa env S) fun v μ' S' H' => Sim G μ' S' H' → ∃ w n, mkWalk k S' [v] = some (w, n) ∧ ∀ J, ItOk G μ' H' w J → R J H' := by
  obtain ⟨μ, env, S, s, e, h⟩ := h
  simp only [evA] at h
  refine ⟨μ, env, S, s, e, h.bind.imp fun v μ1 S1 H1 u1 k1 s1 q s1' => ?_⟩
  simp only [Res.bind_ok] at q
  exact q.here s1' s1'
theorem di_val {tg : Expr} (hK : G.K = X.K) (he : PE X e (lift G W (ev G' ft pa))) : PI X tg e (iG G W .val (evA G' ft (.cons pa .nil))) := by
  refine pi_imp (pi_or (pi_list he) (pi_or (pi_tup he) (pi_str he))) fun σ H R h => ?_
  obtain ⟨μ, env, S, s, e, h⟩ := iG_one h
  cases er : ev G' ft pa env S with
  | no => rw [er] at h; exact h.elim
  | ex x S1 => rw [er] at h; exact .inl ⟨μ, env, S, s, e, by rw [er]; exact h⟩
  | ok v S1 =>
    rw [er] at h
    cases v with
    | tup xs =>
      refine .inr (.inl ⟨μ, env, S, s, e, ?_⟩)
      rw [er]
      intro μ' H' u k s' x r
      obtain ⟨w, n, h1, h2⟩ := h μ' H' u k s' s'
      simp only [mkWalk, wkVal, Option.some.injEq, Prod.mk.injEq] at h1
      obtain ⟨rfl, rfl⟩ := h1
      cases r with
      | tup g1 g2 => exact ⟨_, rfl, ⟨_, SqT.of g1⟩, h2 _ (ItOk.tup g1 g2)⟩
    | str z =>
      refine .inr (.inr ⟨μ, env, S, s, e, ?_⟩)
      rw [er]
      intro μ' H' u k s' x r
      obtain ⟨w, n, h1, h2⟩ := h μ' H' u k s' s'
      cases r with
      | str hz =>
      simp only [mkWalk, wkVal] at h1
      split at h1
      · cases h1
        exact ⟨z, rfl, h2 _ (ItOk.str hz)⟩
      · cases h1
    | obj i =>
      refine .inl ⟨μ, env, S, s, e, ?_⟩
      rw [er]
      intro μ' H' u k s' x r
      obtain ⟨w, n, h1, h2⟩ := h μ' H' u k s' s'
      cases r with
      | obj hs =>
      simp only [mkWalk, wkVal] at h1
      obtain ⟨xs, e1, e2⟩ := Option.map_eq_some_iff.mp h1
      cases e2
      obtain ⟨ys, g1, g2⟩ := sql_one hK s' e1 hs
      exact ⟨_, rfl, ⟨ys, g1⟩, h2 _ (ItOk.lst hK hs)⟩
    | non => exact .inl ⟨μ, env, S, s, e, by rw [er]; intro μ' H' u k s' x r; obtain ⟨w, n, h1, h2⟩ := h μ' H' u k s' s'; cases h1⟩
    | bl _ => exact .inl ⟨μ, env, S, s, e, by rw [er]; intro μ' H' u k s' x r; obtain ⟨w, n, h1, h2⟩ := h μ' H' u k s' s'; cases h1⟩
    | int _ => exact .inl ⟨μ, env, S, s, e, by rw [er]; intro μ' H' u k s' x r; obtain ⟨w, n, h1, h2⟩ := h μ' H' u k s' s'; cases h1⟩
    | fn _ _ => exact .inl ⟨μ, env, S, s, e, by rw [er]; intro μ' H' u k s' x r; obtain ⟨w, n, h1, h2⟩ := h μ' H' u k s' s'; cases h1⟩
theorem iG_liftA {k : ItK} {m : Env → Store → Res (List Val)} {R : It → Hp → Prop} {F : List V → Hp → Prop} (h : iG G W k m σ H R) (i : ∀ vs μ' S' H' xs, Sim G μ' S' H' → RVs μ' H' vs xs → (∃ w n, mkWalk k S' vs = some (w, n) ∧ ∀ J, ItOk G μ' H' w J → R J H') → F xs H') : liftA G W m σ H F := by
  obtain ⟨μ, env, S, s, e, h⟩ := h
  exact ⟨μ, env, S, s, e, h.imp fun vs μ1 S1 H1 u1 k1 s1 q xs r => i vs μ1 S1 H1 xs s1 r (q s1)⟩
theorem small_of {i : Int} (h : small i = true) : -(2 ^ 62) ≤ i ∧ i < 2 ^ 62 := of_decide_eq_true h
theorem vs_one {k : ItK} {R : It → Hp → Prop} {F : List V → Hp → Prop} (h : iG G W k (evA G' ft (.cons pa .nil)) σ H R) (i : ∀ v μ' S' H' x, Sim G μ' S' H' → RV μ' H' v x → (∃ w n, mkWalk k S' [v] = some (w, n) ∧ ∀ J, ItOk G μ' H' w J → R J H') → F [x] H') : liftA G W (evA G' ft (.cons pa .nil)) σ H F := by
  obtain ⟨μ, env, S, s, e, h⟩ := iG_one h
  refine ⟨μ, env, S, s, e, ?_⟩
  simp only [evA]
  cases er : ev G' ft pa env S with
  | no => rw [er] at h; exact h.elim
  | ex x S1 => rw [er] at h; exact h
  | ok v S1 =>
    rw [er] at h
    intro μ1 H1 u1 k1 s1 xs r
    obtain ⟨x, rfl, rx⟩ := r.one_inv
    exact i v μ1 S1 H1 x s1 rx (h μ1 H1 u1 k1 s1 s1)
theorem vs_two {k : ItK} {R : It → Hp → Prop} {F : List V → Hp → Prop} (h : iG G W k (evA G' ft (.cons pa (.cons pb .nil))) σ H R) (i : ∀ v w μ' S' H' x y, Sim G μ' S' H' → RV μ' H' v x → RV μ' H' w y → (∃ wk n, mkWalk k S' [v, w] = some (wk, n) ∧ ∀ J, ItOk G μ' H' wk J → R J H') → F [x, y] H') : liftA G W (evA G' ft (.cons pa (.cons pb .nil))) σ H F := by
  obtain ⟨μ, env, S, s, e, h⟩ := h
  refine ⟨μ, env, S, s, e, ?_⟩
  simp only [evA] at h ⊢
  cases er : ev G' ft pa env S with
  | no => rw [er] at h; exact h.elim
  | ex x S1 => rw [er] at h; exact h
  | ok v S1 =>
    rw [er] at h
    simp only [Res.bind_ok] at h ⊢
    cases er2 : ev G' ft pb env S1 with
    | no => rw [er2] at h; exact h.elim
    | ex x S1 => rw [er2] at h; exact h
    | ok w S2 =>
      rw [er2] at h
      intro μ1 H1 u1 k1 s1 xs r
      obtain ⟨x, y, rfl, rx, ry⟩ := r.two_inv
      exact i v w μ1 S2 H1 x y s1 rx ry (h μ1 H1 u1 k1 s1 s1)
theorem di_range1 {tg a : Expr} {p pos : Pos} {pa : PyE} (hg : Gl X "range") (hm : X.mg "range" = none) (ha : PA X [a] (liftA G W (evA G' ft (.cons pa .nil)))) (hs : starEach [a] X.env = [(false, eval a X.env)]) : PI X tg (.Call (.Name "range" p) [a] [] pos) (iG G W .range (evA G' ft (.cons pa .nil))) := by
  refine pi_imp (pi_range1 hg hm ha hs) fun σ H R h => vs_one h fun v μ S H x s r ⟨w, n, h1, h2⟩ => ?_
  cases v with
  | int j =>
    cases r
    simp only [mkWalk, wkRange] at h1
    split at h1
    · rename_i hj
      cases h1
      obtain ⟨j1, j2⟩ := small_of hj
      exact ⟨_, rfl, j1, j2, h2 _ ItOk.rng⟩
    · cases h1
  | _ => cases h1
theorem di_range2 {tg a b : Expr} {p pos : Pos} {pa pb : PyE} (hg : Gl X "range") (hm : X.mg "range" = none) (ha : PA X [a, b] (liftA G W (evA G' ft (.cons pa (.cons pb .nil))))) (hs : starEach [a, b] X.env = [(false, eval a X.env), (false, eval b X.env)]) (hs2 : starEach [b] X.env = [(false, eval b X.env)]) : PI X tg (.Call (.Name "range" p) [a, b] [] pos) (iG G W .range (evA G' ft (.cons pa (.cons pb .nil)))) := by
  refine pi_imp (pi_range2 hg hm ha hs hs2) fun σ H R h => vs_two h fun v w μ S H x y s r r2 ⟨wk, n, h1, h2⟩ => ?_
  cases v with
  | int i =>
    cases w with
    | int j =>
      cases r; cases r2
      simp only [mkWalk, wkRange] at h1
      split at h1
      · rename_i hj
        cases h1
        simp only [Bool.and_eq_true] at hj
        obtain ⟨j1, j2⟩ := small_of hj.1
        obtain ⟨j3, j4⟩ := small_of hj.2
        exact ⟨_, _, rfl, ⟨j1, j2, j3, j4⟩, h2 _ ItOk.rng⟩
      · cases h1
    | _ => cases h1
  | _ => cases h1
theorem di_enm {a : Expr} {p pos : Pos} {pa : PyE} {elts : List Expr} {kk : Nat} (hK : G.K = X.K) (hg : Gl X "enumerate") (hm : X.mg "enumerate" = none) (ha : PA X [a] (liftA G W (evA G' ft (.cons pa .nil)))) (hs : starEach [a] X.env = [(false, eval a X.env)]) : PI X (.Tuple elts kk tpos) (.Call (.Name "enumerate" p) [a] [] pos) (iG G W .enm (evA G' ft (.cons pa .nil))) := by
  refine pi_imp (pi_enum hg hm ha hs) fun σ H R h => vs_one h fun v μ S H x s r ⟨w, n, h1, h2⟩ => ?_
  cases v with
  | obj i =>
    cases r with
    | obj hs =>
    simp only [mkWalk, wkEnm] at h1
    obtain ⟨xs, e1, e2⟩ := Option.map_eq_some_iff.mp h1
    cases e2
    obtain ⟨ys, g1, g2⟩ := sql_one hK s e1 hs
    exact ⟨_, ys, rfl, g1, h2 _ (ItOk.enm hK hs)⟩
  | _ => cases h1
theorem di_rv {tg a : Expr} {p pos : Pos} {pa : PyE} (hK : G.K = X.K) (hg : Gl X "reversed") (hm : X.mg "reversed" = none) (ha : PA X [a] (liftA G W (evA G' ft (.cons pa .nil)))) (hs : starEach [a] X.env = [(false, eval a X.env)]) : PI X tg (.Call (.Name "reversed" p) [a] [] pos) (iG G W .rv (evA G' ft (.cons pa .nil))) := by
  refine pi_imp (pi_reversed hg hm ha hs) fun σ H R h => vs_one h fun v μ S H x s r ⟨w, n, h1, h2⟩ => ?_
  cases v with
  | obj i =>
    cases r with
    | obj hs =>
    simp only [mkWalk, wkRv] at h1
    obtain ⟨xs, e1, e2⟩ := Option.map_eq_some_iff.mp h1
    cases e2
    obtain ⟨ys, g1, g2⟩ := sql_one hK s e1 hs
    exact ⟨_, ys, rfl, g1, h2 _ (by rw [← g2.length]; exact ItOk.rv hK hs)⟩
  | _ => cases h1
theorem di_rvr {tg a : Expr} {p p2 pos pos2 : Pos} {pa : PyE} (hg : Gl X "reversed") (hm : X.mg "reversed" = none) (hg2 : Gl X "range") (hm2 : X.mg "range" = none) (ha : PE X a (lift G W (ev G' ft pa))) (na : starEach [a] X.env = (false, eval a X.env) :: starEach [] X.env) : PI X tg (.Call (.Name "reversed" p) [.Call (.Name "range" p2) [a] [] pos2] [] pos) (iG G W .rvr (evA G' ft (.cons pa .nil))) := by
  refine pi_imp (pi_revR hg hm (prg_1 hg2 hm2 ha na)) fun σ H R h => ?_
  obtain ⟨μ, env, S, s, e, h⟩ := iG_one h
  refine ⟨μ, env, S, s, e, h.imp fun v μ1 S1 H1 u1 k1 s1 q x rx => ?_⟩
  obtain ⟨w, n, h1, h2⟩ := q s1
  cases v with
  | int j =>
    cases rx
    simp only [mkWalk, wkRvr] at h1
    split at h1
    · rename_i hj
      cases h1
      obtain ⟨j1, j2⟩ := small_of hj
      refine ⟨_, rfl, by omega, by omega, j1, j2, ?_⟩
      have e0 : (j - 0).toNat = j.toNat := by rw [Int.sub_zero]
      rw [e0]
      exact h2 _ ItOk.rngC
    · cases h1
  | _ => cases h1
theorem di_zp {a b : Expr} {p pos : Pos} {pa pb : PyE} {elts : List Expr} {kk : Nat} (hK : G.K = X.K) (hg : Gl X "zip") (hm : X.mg "zip" = none) (ha : PA X [a, b] (liftA G W (evA G' ft (.cons pa (.cons pb .nil))))) (hs : starEach [a, b] X.env = (false, eval a X.env) :: starEach [b] X.env) (hpl : (backTo pos (starEach [b] X.env)).any (·.1) = false) : PI X (.Tuple elts kk tpos) (.Call (.Name "zip" p) [a, b] [] pos) (iG G W .zp (evA G' ft (.cons pa (.cons pb .nil)))) := by
  refine pi_imp (pi_zip hg hm ha hs hpl) fun σ H R h => vs_two h fun v w μ S H x y s r r2 ⟨wk, n, h1, h2⟩ => ?_
  cases v with
  | obj i =>
    cases w with
    | obj j =>
      cases r with
      | obj hs =>
      cases r2 with
      | obj hs2 =>
      simp only [mkWalk, wkZp] at h1
      obtain ⟨xs, e1, e2⟩ := Option.bind_eq_some_iff.mp h1
      obtain ⟨ys, e3, e4⟩ := Option.map_eq_some_iff.mp e2
      cases e4
      obtain ⟨xs', g1, g2⟩ := sql_one hK s e1 hs
      obtain ⟨ys', g3, g4⟩ := sql_one hK s e3 hs2
      exact ⟨_, _, xs', ys', rfl, g1, g3, h2 _ (ItOk.zp hK hs hs2)⟩
    | _ => cases h1
  | _ => cases h1

/-! for -/
theorem for_turn {tp : Bool} {is : List Nat} {body : Env → Store → Out} {w : Walk} {n i : Nat} {J : It} {μ0 : List Addr} {H0 : Hp} (hK : G.K = X.K) (hJ : ItOk G μ0 H0 w J) (u0 : Up μ0 μ) (k0 : Keep H0 H) (s : Sim G μ S H) (e : REnv μ H env σ) (h : AfterO G W μ H (forW body tp is w (n + 1) i env S) D) :
    (J.stop i H ∧ D.nx σ H) ∨ (J.go i H ∧ ∀ x H', J.yld i H x H' → gT X.K tp is x σ H' fun σ2 H2 => liftS G W body { D with
        nx := fun σ' H' => ∃ μ env S, Up μ0 μ ∧ Keep H0 H' ∧ Sim G μ S H' ∧ REnv μ H' env σ' ∧ AfterO G W μ H' (forW body tp is w n (i + 1) env S) D,
        ct := fun σ' H' => ∃ μ env S, Up μ0 μ ∧ Keep H0 H' ∧ Sim G μ S H' ∧ REnv μ H' env σ' ∧ AfterO G W μ H' (forW body tp is w n (i + 1) env S) D, bk := D.nx } σ2 H2) := by
  unfold forW at h
  obtain ⟨j1, j2⟩ := hJ μ H S i u0 k0 s
  cases ew : walkAt S w i with
  | none => rw [ew] at h; exact h.elim
  | some ov =>
    rw [ew] at h
    cases ov with
    | none => exact .inl ⟨j2 ew, h μ H σ (Up.refl _) (Keep.refl _) s e⟩
    | some v =>
      obtain ⟨g1, g2⟩ := j1 v ew
      refine .inr ⟨g1, fun x H' y => ?_⟩
      obtain ⟨k1, s1, r1⟩ := g2 x H' y
      simp only at h
      cases et : tgt tp is v env with
      | none => rw [et] at h; exact h.elim
      | some e' =>
        rw [et] at h
        simp only at h
        refine tgt_rel hK et r1 (e.mono (Up.refl _) k1) fun σ' e2 => ⟨μ, e', S, s1, e2, ?_⟩
        have h3 := h.later (Up.refl _) k1
        cases eb : body e' S with
        | nx e3 S3 =>
          rw [eb] at h3
          exact fun μ2 H2 σ2 u2 k2 s2 e2 => ⟨μ2, e3, S3, u0.trans u2, (k0.trans k1).trans k2, s2, e2, AfterO.later (o := forW body tp is w n (i + 1) e3 S3) h3 u2 k2⟩
        | ct e3 S3 =>
          rw [eb] at h3
          exact fun μ2 H2 σ2 u2 k2 s2 e2 => ⟨μ2, e3, S3, u0.trans u2, (k0.trans k1).trans k2, s2, e2, AfterO.later (o := forW body tp is w n (i + 1) e3 S3) h3 u2 k2⟩
        | bk e3 S3 => rw [eb] at h3; exact h3
        | rt v S3 => rw [eb] at h3; exact h3
        | ex x e3 S3 => rw [eb] at h3; exact h3
        | no => rw [eb] at h3; exact h3.elim
theorem ds_for {tp : Bool} {is : List Nat} {k : ItK} {tg iter : Expr} {body : List Stmt} (hp : PassesOwn (model X.prog X.w) X.A X.env X.xe) (hc : X.calm = true) (hK : G.K = X.K) (hi : PI X tg iter (iG G W k (evA G' ft pa))) (hg : PG X tg (gT X.K tp is)) (hb : PSs X body (liftS G W (ex G' ft p)))
    (hs : ∀ x, foldedSetIterable iter X.env x = pure x) : PS X (.For tg iter body [] pos) (liftS G W (ex G' ft (.for_ tp is k pa p))) := by
  refine (ps_for hp hc hi hg hb hs).imp fun D σ H ⟨μ, env, S, s, e, h⟩ => ?_
  simp only [ex] at h
  refine ⟨μ, env, S, s, e, (outA h e).imp fun vs μ1 S1 H1 u1 k1 s1 h1 s1' => ?_⟩
  unfold forV at h1
  split at h1
  · exact h1.elim
  · rename_i w n ew
    refine ⟨w, n, ew, fun J hJ => ?_⟩
    refine ⟨fun i m σ' H' => ∃ μ env S, Up μ1 μ ∧ Keep H1 H' ∧ Sim G μ S H' ∧ REnv μ H' env σ' ∧ AfterO G W μ H' (forW (ex G' ft p) tp is w m i env S) D, ⟨n + 1, μ1, env, S1, Up.refl _, Keep.refl _, s1, e.mono u1 k1, h1⟩, ?_⟩
    rintro i m σ2 H2 ⟨μ2, env2, S2, u2, k2, s2, e2, h2⟩
    cases m with
    | zero => exact h2.elim
    | succ m =>
      rcases for_turn hK hJ u2 k2 s2 e2 h2 with q | ⟨q1, q2⟩
      · exact .inl q
      · exact .inr ⟨q1, _, fun σ' H' h3 => ⟨m, Nat.lt_succ_self m, h3⟩, q2⟩
end
end Nw

set_option Elab.async false
set_option linter.all false
set_option maxRecDepth 100000
set_option maxHeartbeats 1000000
namespace Nw
open PySem L2

section
variable {α β : Type} {G : Cfg} {W : WX} {X : Cx} {σ : St} {μ : List Addr} {H : Hp} {S : Store} {Q : VK} {G' : Tab} {ft : Fns}
variable {o e f : Expr} {pa pb pc : PyE} {p q : PyS} {apos cpos pos pos' tpos : Pos} {D : Ends} {env : Env} {st : Stmt} {sts : List Stmt}

/-! a comprehension -/
theorem wipe_get (σ : St) : ∀ (vs : List Nat) (j : Nat), (wipe σ vs)[j]? = if j ∈ vs then (if j < σ.length then some none else none) else σ[j]?
  | [], j => by simp [wipe]
  | v :: vs, j => by
    have ih := wipe_get σ vs j
    unfold wipe
    by_cases hv : v = j
    · subst hv
      rw [List.getElem?_set_self']
      simp only [List.mem_cons, true_or, if_true]
      rw [ih]
      by_cases hl : v < σ.length
      · by_cases hm : v ∈ vs
        · simp [hm, hl]
        · simp [hm, hl]
      · by_cases hm : v ∈ vs
        · simp [hm, hl]
        · simp [hm, hl]
    · rw [List.getElem?_set_ne hv, ih]
      have : j ∈ v :: vs ↔ j ∈ vs := by
        constructor
        · intro h
          rcases List.mem_cons.mp h with h | h
          · exact absurd h.symm hv
          · exact h
        · exact List.mem_cons_of_mem _
      by_cases hm : j ∈ vs
      · simp [this, hm]
      · simp [this, hm]
theorem wipe_wipe (σ : St) (vs : List Nat) : wipe (wipe σ vs) vs = wipe σ vs := by
  apply List.ext_getElem?
  intro j
  rw [wipe_get, wipe_get, wipe_length]
  by_cases hm : j ∈ vs <;> simp [hm]
theorem wipe_set (σ : St) {vs : List Nat} {i : Nat} {x : Option V} (hi : i ∈ vs) : wipe (σ.set i x) vs = wipe σ vs := by
  apply List.ext_getElem?
  intro j
  rw [wipe_get, wipe_get, List.length_set]
  by_cases hm : j ∈ vs
  · simp [hm]
  · have : i ≠ j := fun e => hm (e ▸ hi)
    simp only [hm, if_false]
    rw [List.getElem?_set_ne this]
theorem wipe_sets {vs : List Nat} : ∀ (ps : List (Nat × V)) (σ : St), (∀ p ∈ ps, p.1 ∈ vs) → wipe (ps.foldl (fun σ p => σ.set p.1 (some p.2)) σ) vs = wipe σ vs
  | [], σ, _ => rfl
  | p :: ps, σ, h => by
    simp only [List.foldl_cons]
    rw [wipe_sets ps _ fun q hq => h q (List.mem_cons_of_mem _ hq), wipe_set σ (h p List.mem_cons_self)]
theorem REnv.wipe (r : REnv μ H env σ) : ∀ (is : List Nat), REnv μ H (setAll env is) (L2.wipe σ is)
  | [] => r
  | i :: is => (REnv.wipe r is).clear
theorem tgt_rel2 {tp : Bool} {is : List Nat} {v : Val} {x : V} {env env' : Env} {Q : St → Hp → Prop} (hK : G.K = X.K) (h : tgt tp is v env = some env') (r : RV μ H v x) (e : REnv μ H env σ) (q : ∀ σ', REnv μ H env' σ' → L2.wipe σ' is = L2.wipe σ is → Q σ' H) : gT X.K tp is x σ H Q := by
  unfold tgt at h
  unfold gT
  cases tp with
  | true =>
    rw [if_pos rfl] at h ⊢
    split at h
    · cases r with
      | tup h1 h2 =>
      split at h
      · rename_i hl
        cases h
        exact ⟨_, _, rfl, SqT.of h1, by rw [← h2.length]; exact hl, gNs_of (by rw [← h2.length]; exact hl) (q _ (REnv.sets h2 e) (wipe_sets _ _ fun p hp => (List.of_mem_zip hp).1))⟩
      · cases h
    · cases h
  | false =>
    rw [if_neg Bool.false_ne_true] at h ⊢
    split at h
    · cases h
      exact ⟨_, rfl, q _ (e.set r) (wipe_set _ (by simp))⟩
    · cases h
abbrev W0 : WX := fun _ _ _ _ => False
theorem takes0 {X : Cx} : Takes X W0 := fun u s' ⟨a, B, sI, pins, σ, H, cls, d, e, I, nb, up, sky, na, os, ag, w⟩ => w.elim
theorem after0 {r : Res α} {v : α} {S' : Store} (h : r = .ok v S') (k : α → List Addr → Store → Hp → Prop) (q : ∀ μ' H', Up μ μ' → Keep H H' → Sim G μ' S' H' → k v μ' S' H') : After G W0 σ μ H r k := by
  rw [h]; exact q

/-- one turn of the block -/
theorem comp_turn {is : List Nat} {tp : Bool} {c el : Env → Store → Res Val} {w : Walk} {d n i : Nat} {Dl : Addr} {J : It} {μ0 : List Addr} {H0 : Hp} (hK : G.K = X.K) (hJ : ItOk G μ0 H0 w J) (hd : μ0[d]? = some Dl) (u0 : Up μ0 μ) (k0 : Keep H0 H) (s : Sim G μ S H)
    (e : REnv μ H env σ) (h : After G W σ μ H (compW (compT tp is env c el) w d (n + 1) i S) (Kv Q)) :
    (J.stop i H ∧ Q (.ref Dl) H) ∨ (J.go i H ∧ ∀ x H', J.yld i H x H' → gT X.K tp is x (L2.wipe σ is) H' fun σ2 H2 => L2.wipe σ2 is = L2.wipe σ is ∧ liftT G W0 (tst c) σ2 H2 fun b H3 =>
      if b = true then lift G W0 el σ2 H3 fun y H4 => ∃ acc, H4 Dl = some (.lst acc) ∧ acc.length < sizeLine ∧ (∃ μ env S, Up μ0 μ ∧ Keep H0 (L2.upd H4 Dl (.lst (acc ++ [y]))) ∧ Sim G μ S (L2.upd H4 Dl (.lst (acc ++ [y]))) ∧ REnv μ (L2.upd H4 Dl (.lst (acc ++ [y]))) env σ ∧
          After G W σ μ (L2.upd H4 Dl (.lst (acc ++ [y]))) (compW (compT tp is env c el) w d n (i + 1) S) (Kv Q))
      else ∃ μ env S, Up μ0 μ ∧ Keep H0 H3 ∧ Sim G μ S H3 ∧ REnv μ H3 env σ ∧ After G W σ μ H3 (compW (compT tp is env c el) w d n (i + 1) S) (Kv Q)) := by
  unfold compW at h
  obtain ⟨j1, j2⟩ := hJ μ H S i u0 k0 s
  cases ew : walkAt S w i with
  | none => rw [ew] at h; exact h.elim
  | some ov =>
    rw [ew] at h
    cases ov with
    | none => exact .inl ⟨j2 ew, h.val s (.obj (u0 _ _ hd))⟩
    | some v =>
      obtain ⟨g1, g2⟩ := j1 v ew
      refine .inr ⟨g1, fun x H' y => ?_⟩
      obtain ⟨k1, s1, r1⟩ := g2 x H' y
      simp only at h
      cases et : tgt tp is v (setAll env is) with
      | none =>
        have z : compT tp is env c el v S = .no := by unfold compT; rw [et]
        rw [z] at h; exact h.elim
      | some e' =>
        refine tgt_rel2 hK et r1 ((e.mono (Up.refl _) k1).wipe is) fun σ' e2 hw => ⟨by rw [hw, wipe_wipe], μ, e', S, s1, e2, ?_⟩
        -- the tests
        cases ec : c e' S with
        | no =>
          have z : compT tp is env c el v S = .no := by unfold compT; rw [et]; simp only [ec, Res.bind_no]
          rw [z] at h; exact h.elim
        | ex xx S1 =>
          have z : compT tp is env c el v S = .ex xx S1 := by unfold compT; rw [et]; simp only [ec, Res.bind_ex]
          rw [z] at h; exact h.elim
        | ok t S1 =>
          cases etr : tru S1 t with
          | none =>
            have z : compT tp is env c el v S = .no := by unfold compT; rw [et]; simp only [ec, Res.bind_ok, ifV, etr]
            rw [z] at h; exact h.elim
          | some b =>
            unfold tst
            rw [ec]
            simp only [Res.bind_ok, etr, Res.ofO_some]
            intro μ2 H2 u2 k2 s2
            cases b with
            | false =>
              have z : compT tp is env c el v S = .ok none S1 := by unfold compT; rw [et]; simp only [ec, Res.bind_ok, ifV, etr]
              rw [z] at h
              simp only [Bool.false_eq_true, if_false]
              exact ⟨μ2, env, S1, u0.trans u2, (k0.trans k1).trans k2, s2, (e.mono (Up.refl _) k1).mono u2 k2, After.later h u2 (k1.trans k2)⟩
            | true =>
              simp only [if_true]
              refine ⟨μ2, e', S1, s2, e2.mono u2 k2, ?_⟩
              cases ee : el e' S1 with
              | no =>
                have z : compT tp is env c el v S = .no := by unfold compT; rw [et]; simp only [ec, Res.bind_ok, ifV, etr, ee, Res.bind_no]
                rw [z] at h; exact h.elim
              | ex xx S2 =>
                have z : compT tp is env c el v S = .ex xx S2 := by unfold compT; rw [et]; simp only [ec, Res.bind_ok, ifV, etr, ee, Res.bind_ex]
                rw [z] at h; exact h.elim
              | ok yv S2 =>
                have z : compT tp is env c el v S = .ok (some yv) S2 := by unfold compT; rw [et]; simp only [ec, Res.bind_ok, ifV, etr, ee]
                rw [z] at h
                simp only at h
                intro μ3 H3 u3 k3 s3 y' ry
                cases ed : S2[d]? with
                | none => rw [ed] at h; exact h.elim
                | some ob =>
                  rw [ed] at h
                  split at h
                  · rename_i acc eo
                    cases eo
                    split at h
                    · rename_i hl
                      obtain ⟨pD, ys, q1, q2, q3⟩ := s3.lst ed
                      have hdl : μ3[d]? = some Dl := u3 _ _ (u2 _ _ (u0 _ _ hd))
                      rw [hdl] at q1; cases q1
                      obtain ⟨s4, k4⟩ := s3.put (o' := .lst false (acc ++ [yv])) (u := .lst (ys ++ [y'])) ed rfl rfl hdl ⟨_, upd_same, (q3.app (.one ry)).mono (Up.refl _) (Keep.lst q2)⟩
                      refine ⟨ys, q2, by rw [← line_eq, ← q3.length]; exact hl, μ3, env, _, (u0.trans u2).trans u3, ((k0.trans k1).trans (k2.trans k3)).trans k4, s4, (((e.mono (Up.refl _) k1).mono u2 k2).mono u3 k3).mono (Up.refl _) k4, ?_⟩
                      exact After.later h (u2.trans u3) ((k1.trans (k2.trans k3)).trans k4)
                    · exact h.elim
                  · exact h.elim
theorem lc_read {elt : PyE} {tp : Bool} {is : List Nat} {k : ItK} {as cond : PyE} {own : List (Str × Nat)} (hK : G.K = X.K) (ho : own.map (·.2) = is) (h : lift G W (ev G' ft (.comp elt tp is k as cond)) σ H Q) :
    tLc (iG G W k (evA G' ft as)) (gT X.K tp is) (liftT G W0 (tst (ev G' ft cond))) (lift G W0 (ev G' ft elt)) (own.map (·.2)) σ H Q := by
  rw [ho]
  obtain ⟨μ, env, S, s, e, h⟩ := h
  simp only [ev] at h
  refine ⟨μ, env, S, s, e, h.bind.imp fun vs μ1 S1 H1 u1 k1 s1 h1 s1' => ?_⟩
  unfold compV at h1
  split at h1
  · exact h1.elim
  · rename_i w n ew
    refine ⟨w, n, ew, fun J hJ Dl hD => ?_⟩
    have sA : Sim G (μ1 ++ [Dl]) (S1 ++ [.lst false []]) (L2.upd H1 Dl (.lst [])) := s1.alloc hD rfl ⟨[], upd_same, .nil⟩
    have uA := Up.app μ1 Dl
    have kA : Keep H1 (L2.upd H1 Dl (.lst [])) := Keep.new hD
    have hd : (μ1 ++ [Dl])[S1.length]? = some Dl := by rw [← s1.len]; simp
    have hJ' : ItOk G (μ1 ++ [Dl]) (L2.upd H1 Dl (.lst [])) w J := fun μ' H' S' i u k s => hJ μ' H' S' i (uA.trans u) (kA.trans k) s
    refine ⟨fun i m H' => ∃ μ' env' S', Up (μ1 ++ [Dl]) μ' ∧ Keep (L2.upd H1 Dl (.lst [])) H' ∧ Sim G μ' S' H' ∧ REnv μ' H' env' σ ∧ After G W σ μ' H' (compW (compT tp is env' (ev G' ft cond) (ev G' ft elt)) w S1.length m i S') (Kv Q), ⟨n + 1, μ1 ++ [Dl], env, _, Up.refl _, Keep.refl _, sA, (e.mono u1 k1).mono uA kA, After.later h1 uA kA⟩, ?_⟩
    rintro i m H2 ⟨μ2, env2, S2, u2, k2, s2, e2, h2⟩
    cases m with
    | zero => exact h2.elim
    | succ m =>
      rcases comp_turn hK hJ' hd u2 k2 s2 e2 h2 with q | ⟨q1, q2⟩
      · exact .inl q
      · exact .inr ⟨q1, _, fun H' h3 => ⟨m, Nat.lt_succ_self m, h3⟩, q2⟩
theorem pts_true {X : Cx} : PTs X [] (liftT G W0 (tst (ev G' ft (.c (.bl true))))) := ⟨fun pins s σ H Q I ⟨μ, env, S, sm, e, h⟩ => (pts_nil (X := X)).run pins s σ H Q I (by
  simp only [tst, ev, Res.bind_ok, tru, Res.ofO_some] at h
  exact h μ H (Up.refl _) (Keep.refl _) sm)⟩
theorem de_comp {elt tg iter : Expr} {ifs : List Expr} {scope : Scope} {own : List (Str × Nat)} {pelt : PyE} {tp : Bool} {is : List Nat} {k : ItK} {as cond : PyE} (hc : X.calm = true) (hN : X.N.Nodup) (hK : G.K = X.K) (hi : PI X tg iter (iG G W k (evA G' ft as))) (ok : BlkOk X.N X.env.scope scope own) (hown : own.map (·.2) = is)
    (hg : ∀ (s : Shared) (H : Hp) (C : Addr) (cl : List (Str × Addr)) (fp : List Addr), PG (X.blk s H scope (compEnvC scope cl C X.env) fp) tg (gT X.K tp is)) (ht : ∀ (s : Shared) (H : Hp) (C : Addr) (cl : List (Str × Addr)) (fp : List Addr), PTs (X.blk s H scope (compEnvC scope cl C X.env) fp) ifs (liftT G W0 (tst (ev G' ft cond))))
    (he : ∀ (s : Shared) (H : Hp) (C : Addr) (cl : List (Str × Addr)) (fp : List Addr), PE (X.blk s H scope (compEnvC scope cl C X.env) fp) elt (lift G W0 (ev G' ft pelt))) (hs : ∀ x, foldedSetIterable iter X.env x = pure x) :
    PE X (.ListComp elt [⟨tg, iter, ifs, 0⟩] scope pos) (lift G W (ev G' ft (.comp pelt tp is k as cond))) :=
  (pe_lc hc hN hi ok hg ht he hs).imp fun σ H Q h => lc_read hK hown h
theorem ds_asgLc {i : Nat} {y : Str} {py : Pos} {elt tg iter : Expr} {ifs : List Expr} {scope : Scope} {own : List (Str × Nat)} {spos : Pos} {pelt : PyE} {tp : Bool} {is : List Nat} {k : ItK} {as cond : PyE} (hc : X.calm = true) (hN : X.N.Nodup) (hy : X.N[i]? = some y) (hyl : X.env.scope.names.lookup y = some .local)
    (hsw : swapsWith (.ListComp elt [⟨tg, iter, ifs, 0⟩] scope pos) (some (.Name y py)) spos.line X.env = pure true) (hK : G.K = X.K) (hi : PI X tg iter (iG G W k (evA G' ft as))) (ok : BlkOk X.N X.env.scope scope own) (hown : own.map (·.2) = is)
    (hg : ∀ (s : Shared) (H : Hp) (C : Addr) (cl : List (Str × Addr)) (fp : List Addr), PG (X.blk s H scope (compEnvC scope cl C X.env) fp) tg (gT X.K tp is)) (ht : ∀ (s : Shared) (H : Hp) (C : Addr) (cl : List (Str × Addr)) (fp : List Addr), PTs (X.blk s H scope (compEnvC scope cl C X.env) fp) ifs (liftT G W0 (tst (ev G' ft cond))))
    (he : ∀ (s : Shared) (H : Hp) (C : Addr) (cl : List (Str × Addr)) (fp : List Addr), PE (X.blk s H scope (compEnvC scope cl C X.env) fp) elt (lift G W0 (ev G' ft pelt))) (hs : ∀ x, foldedSetIterable iter X.env x = pure x) :
    PS X (.Assign [.Name y py] (.ListComp elt [⟨tg, iter, ifs, 0⟩] scope pos) spos) (liftS G W (ex G' ft (.asg i (.comp pelt tp is k as cond)))) := by
  refine (ps_setLc hc hN hy hyl hsw hi ok hg ht he hs).imp fun D σ H h => ?_
  have h2 := oneS (f := fun x env S1 => .nx (env.set i (some x)) S1) (by simp only [liftS, ex] at h; exact h)
  exact lc_read hK hown (lift_mono h2 fun x H1 ⟨μ, env, v, S, s, e, r, q⟩ => q μ H1 _ (Up.refl _) (Keep.refl _) s (e.set r))
end
end Nw

set_option Elab.async false
set_option linter.all false
set_option maxRecDepth 100000
set_option maxHeartbeats 1000000
namespace Nw
open PySem L2

/-! calls whose exceptions are wished for at the caller's slots -/
section
variable {X : Cx} {CX : CXT} {k : Nat} {f C : Addr} {fd : FuncData} {ps : List Str} {sp : Sp} {dvs : List V} {ds : List Value} {E : St → XK} {x m : Str} {p pos apos : Pos} {e o : Expr} {es : List Expr} {ta : TE} {t : TA}
theorem pe_callSD0 (F : FnOk X.prog X.w X.K X.mg X.base CX k f fd ps sp) (hr : Room k X.A) (hg : Gl X x) (hm : X.mg x = some (.ref f)) (hk : PySem.W.keepIn X.K (.ref f) = true) (hb : Binds X.K fd ps ds) (hd : Vals dvs ds) (hx : ∀ σ, PassesAt CX X σ (E σ))
    (hdb : (x == ("__debug__" : Str)) = false) : PE X (.Call (.Name x p) [] [] pos) (tCallSD sp dvs E tNil) := by
  refine ⟨fun pins s σ H Q I h => ?_⟩
  refine wpAny_Call_Name_kw (ld_glob I hg hm ?_ hdb)
  exact PySem.W.callWith_K0 I.kIn hk (run_fnSD (us := []) F hr hb hd (hx σ) I .nil h)
def tMethSD (C : Addr) (m : Str) (sp : Sp) (dvs : List V) (E : St → XK) (ta : TE) (t : TA) : TE := fun σ H Q => ta σ H fun x H1 => ∃ a dx fs, x = .ref a ∧ H1 a = some (.ins C dx fs) ∧ fs.lookup m = none ∧
  t σ H1 fun vs H2 => sp (x :: (vs ++ dvs)) H2 Q (E σ)
theorem pe_methSD {pl : Sem Bool} (he : PE X o ta) (c : Cls X.K C) (hm : Meth X.K C m f) (F : FnOk X.prog X.w X.K X.mg X.base CX k f fd ps sp) (hr : Room k X.A) (hb : Binds X.K fd ps ds) (hd : Vals dvs ds) (hx : ∀ σ, PassesAt CX X σ (E σ)) (ha : PA X (e :: es) t)
    (hst : starEach (e :: es) X.env = (false, eval e X.env) :: starEach es X.env) (hpl : (backTo pos (starEach es X.env)).any (·.1) = false)
    (ht : eval (.Call (.Attribute o m apos) (e :: es) [] pos) X.env = (do
      let ov ← eval o X.env
      standAt apos.atName
      let (f, first) ← holding [ov] (getMethod ov m pl)
      callWith pos f first (backTo pos (starEach (e :: es) X.env)) (backToKw pos (keywordEach [] X.env)))) :
    PE X (.Call (.Attribute o m apos) (e :: es) [] pos) (tMethSD C m sp dvs E ta t) := by
  refine ⟨fun pins s σ H Q I h => ?_⟩
  refine PySem.W.methodCall_KW (pl := pl) (thn (he.run pins s σ H _ I h) fun u s1 ⟨x, H1, I1, rx, a, dx, fs, ex, ea, l, q⟩ => ?_) ht
  subst ex
  obtain rfl : u = Value.ref a := rx
  refine getmeth_ok I1 ea c hm l ?_
  refine PySem.W.callWith_K (first := [.ref a]) (h₀ := X.base) I.ok.mod.kin hm.kp (thn (ha.run pos pins s1 σ H1 _ I1 q) fun us s2 ⟨vs, H2, I2, r, q2⟩ => ⟨I2.kIn, ?_⟩) hst hpl
  exact run_fnSD (us := .ref a :: us) (vs := .ref a :: vs) F hr hb hd (hx σ) I2 (.cons rfl r) q2
theorem pe_methSD0 {pl : Sem Bool} (he : PE X o ta) (c : Cls X.K C) (hm : Meth X.K C m f) (F : FnOk X.prog X.w X.K X.mg X.base CX k f fd ps sp) (hr : Room k X.A) (hb : Binds X.K fd ps ds) (hd : Vals dvs ds) (hx : ∀ σ, PassesAt CX X σ (E σ))
    (ht : eval (.Call (.Attribute o m apos) [] [] pos) X.env = (do
      let ov ← eval o X.env
      standAt apos.atName
      let (f, first) ← holding [ov] (getMethod ov m pl)
      callWith pos f first (backTo pos (starEach [] X.env)) (backToKw pos (keywordEach [] X.env)))) :
    PE X (.Call (.Attribute o m apos) [] [] pos) (tMethSD C m sp dvs E ta tNil) := by
  refine ⟨fun pins s σ H Q I h => ?_⟩
  refine PySem.W.methodCall_KW (pl := pl) (thn (he.run pins s σ H _ I h) fun u s1 ⟨x, H1, I1, rx, a, dx, fs, ex, ea, l, q⟩ => ?_) ht
  subst ex
  obtain rfl : u = Value.ref a := rx
  refine getmeth_ok I1 ea c hm l ?_
  exact PySem.W.callWith_K0 (first := [.ref a]) I1.kIn hm.kp (run_fnSD (us := [.ref a]) (vs := [.ref a]) F hr hb hd (hx σ) I1 (.cons rfl .nil) q)
theorem run_makeS {pins : List (Addr × PySem.Obj)} {σ : St} {H : Hp} {s : Shared} {Q : VK} {us : List Value} {vs : List V} (M : Mk X.K C f) (F : FnOk X.prog X.w X.K X.mg X.base CX k f fd ps sp) (hr : Room (k + 1) X.A) (hb : Binds X.K fd ps ds) (hd : Vals dvs ds)
    (hx : PassesAt CX X σ (E σ)) (I : L2.Inv X pins σ H s) (r : Vals vs us)
    (h : ∀ x dx, H x = none → H dx = none → dx ≠ x → sp (.ref x :: (vs ++ dvs)) (upd (upd H dx (.own x)) x (.ins C dx [])) (fun v H2 => v = .non ∧ Q (.ref x) H2) (E σ)) :
    wpAny (model X.prog X.w) X.A (call (.ref C) us) (EP X pins σ Q) X.xe s := by
  have hq := h (s.heap.objs.size + 1) s.heap.objs.size (I.hok.fresh (Nat.le_succ _)) (I.hok.fresh (Nat.le_refl _)) (Nat.ne_of_lt (Nat.lt_succ_self _))
  have I2 := Inv.made (C := C) I
  have r2 : Vals (V.ref (s.heap.objs.size + 1) :: (vs ++ dvs)) (Value.ref (s.heap.objs.size + 1) :: (us ++ ds)) := .cons rfl (r.append hd)
  have hl : (Value.ref (s.heap.objs.size + 1) :: us ++ ds).length = ps.length := by
    have e := r2.length
    rw [F.len _ _ _ _ hq] at e
    exact e.symm
  refine wpAny_call (make_map (f := f) I.kIn M.makes M.init (beq_iff_eq.mp M.fn) (codeAny_mono (F.run _ X.stack _ _ ⟨Value.ref (s.heap.objs.size + 1) :: us, []⟩ (Value.ref (s.heap.objs.size + 1) :: (us ++ ds)) _ _ (E σ) (hr.make C us [])
    (I2.env0.make C us []) (hb _ (Value.ref (s.heap.objs.size + 1) :: us) I2.kIn hl) r2 hq) fun r s' hq' => ?_))
  cases r with
  | error e => exact hx pins _ _ e s' I2 hq'
  | ok fl =>
    cases fl with
    | ret u =>
      obtain ⟨v, H', I3, rv, ev, q3⟩ := I2.after hq'
      subst ev
      exact ⟨rv, ⟨V.ref (s.heap.objs.size + 1), H', I3, rfl, q3⟩⟩
    | next => exact False.elim hq'
    | brk => exact False.elim hq'
    | cont => exact False.elim hq'
def tMakeS (C : Addr) (sp : Sp) (dvs : List V) (E : St → XK) (t : TA) : TE := fun σ H Q => t σ H fun vs H1 => ∀ x dx, H1 x = none → H1 dx = none → dx ≠ x →
  sp (.ref x :: (vs ++ dvs)) (upd (upd H1 dx (.own x)) x (.ins C dx [])) (fun v H2 => v = .non ∧ Q (.ref x) H2) (E σ)
theorem pe_makeS (M : Mk X.K C f) (F : FnOk X.prog X.w X.K X.mg X.base CX k f fd ps sp) (hr : Room (k + 1) X.A) (hg : Gl X x) (hm : X.mg x = some (.ref C)) (hb : Binds X.K fd ps ds) (hd : Vals dvs ds) (hx : ∀ σ, PassesAt CX X σ (E σ))
    (ha : PA X (e :: es) t) (hdb : (x == ("__debug__" : Str)) = false) (he : starEach (e :: es) X.env = (false, eval e X.env) :: starEach es X.env) (hpl : (backTo pos (starEach es X.env)).any (·.1) = false) :
    PE X (.Call (.Name x p) (e :: es) [] pos) (tMakeS C sp dvs E t) := by
  refine ⟨fun pins s σ H Q I h => ?_⟩
  refine wpAny_Call_Name_kw (ld_glob I hg hm ?_ hdb)
  refine PySem.W.callWith_K (h₀ := X.base) I.ok.mod.kin M.kp (thn (ha.run pos pins s σ H _ I h) fun us s1 ⟨vs, H1, I1, r, q⟩ => ⟨I1.kIn, ?_⟩) he hpl
  exact run_makeS M F hr hb hd (hx σ) I1 r q
theorem pe_makeS0 (M : Mk X.K C f) (F : FnOk X.prog X.w X.K X.mg X.base CX k f fd ps sp) (hr : Room (k + 1) X.A) (hg : Gl X x) (hm : X.mg x = some (.ref C)) (hb : Binds X.K fd ps ds) (hd : Vals dvs ds) (hx : ∀ σ, PassesAt CX X σ (E σ))
    (hdb : (x == ("__debug__" : Str)) = false) : PE X (.Call (.Name x p) [] [] pos) (tMakeS C sp dvs E tNil) := by
  refine ⟨fun pins s σ H Q I h => ?_⟩
  refine wpAny_Call_Name_kw (ld_glob I hg hm ?_ hdb)
  exact PySem.W.callWith_K0 I.kIn M.kp (run_makeS (us := []) M F hr hb hd (hx σ) I .nil h)
end

section
variable {α β : Type} {G : Cfg} {W : WX} {X : Cx} {σ : St} {μ : List Addr} {H : Hp} {S : Store} {Q : VK} {G' : Tab} {ft : Fns}
variable {o e : Expr} {es : List Expr} {pa pb pc : PyE} {p q : PyS} {apos cpos pos pos' tpos : Pos} {D : Ends} {env : Env} {st : Stmt} {sts : List Stmt}
variable {k : Nat} {fa C : Addr} {fd : FuncData} {ps : List Str} {ds : List Val} {us : List Value} {x : Str} {f : Nat}

abbrev WofE (E : XK) : WX := fun cls d _ H => E cls d H
/-- what the def f promises -/
def SpF (G : Cfg) (ft : Fns) (f : Nat) : Sp := fun xs H Q E => ∃ μ vs S, Sim G μ S H ∧ RVs μ H vs xs ∧ After G (WofE E) [] μ H (ft f vs S) (Kv Q)
theorem After.wish {W W' : WX} {σ' : St} {α : Type} {r : Res α} {k : α → List Addr → Store → Hp → Prop} (h : After G W σ μ H r k) (i : ∀ c d H, W c d σ H → W' c d σ' H) : After G W' σ' μ H r k := by
  cases r with
  | ok a S => exact h
  | ex e S => exact fun μ' H' d u k s r => i _ _ _ (h μ' H' d u k s r)
  | no => exact h
theorem dVs_rel : ∀ {vs : List Val}, vs.all cOk = true → RVs μ H vs (vs.map cV)
  | [], _ => .nil
  | v :: vs, h => by
    simp only [List.all_cons, Bool.and_eq_true] at h
    exact .cons (cV_rel h.1) (dVs_rel h.2)
/-- the defaults of a call -/
structure DefsOk (K : PySem.W.Frag) (fd : FuncData) (ps : List Str) (ds : List Val) : Prop where
  ok : ds.all cOk = true
  at_ : ∃ us, Binds K fd ps us ∧ Vals (ds.map cV) us

theorem call_read {t : TA} (hd : ds.all cOk = true) (h : lift G W (ev G' ft (.call f pa ds)) σ H Q) : tCallSD (SpF G ft f) (ds.map cV) (WE W) (liftA G W (evA G' ft pa)) σ H Q := by
  have h2 := oneA (f := fun vs env S1 => ft f (vs ++ ds) S1) (by simp only [lift, ev] at h; exact h)
  obtain ⟨μ, env, S, s, e, h2⟩ := h2
  refine ⟨μ, env, S, s, e, h2.imp fun vs μ1 S1 H1 u1 k1 s1 q xs r => ?_⟩
  obtain ⟨μ2, env2, vs2, S2, s2, e2, r2, q2⟩ := q xs r
  exact ⟨μ2, vs2 ++ ds, S2, s2, r2.app (dVs_rel hd), q2.wish fun _ _ _ z => z⟩
theorem de_call (F : FnOk X.prog X.w X.K X.mg X.base (L2.CX X.prog X.w) k fa fd ps (SpF G ft f)) (tk : Takes X W) (hr : Room k X.A) (hg : Gl X x) (hm : X.mg x = some (.ref fa)) (hk : PySem.W.keepIn X.K (.ref fa) = true) (hd : DefsOk X.K fd ps ds)
    (ha : PA X (e :: es) (liftA G W (evA G' ft pa))) (hdb : (x == ("__debug__" : Str)) = false) (he : starEach (e :: es) X.env = (false, eval e X.env) :: starEach es X.env) (hpl : (backTo pos (starEach es X.env)).any (·.1) = false) :
    PE X (.Call (.Name x apos) (e :: es) [] pos) (lift G W (ev G' ft (.call f pa ds))) := by
  obtain ⟨d1, us, d2, d3⟩ := hd
  exact (pe_callSD F hr hg hm hk d2 d3 (fun σ => passAt tk σ) ha hdb he hpl).imp fun σ H Q h => call_read (t := tNil) d1 h
theorem de_call0 (F : FnOk X.prog X.w X.K X.mg X.base (L2.CX X.prog X.w) k fa fd ps (SpF G ft f)) (tk : Takes X W) (hr : Room k X.A) (hg : Gl X x) (hm : X.mg x = some (.ref fa)) (hk : PySem.W.keepIn X.K (.ref fa) = true) (hd : DefsOk X.K fd ps ds)
    (hdb : (x == ("__debug__" : Str)) = false) : PE X (.Call (.Name x apos) [] [] pos) (lift G W (ev G' ft (.call f .nil ds))) := by
  obtain ⟨d1, us, d2, d3⟩ := hd
  refine (pe_callSD0 F hr hg hm hk d2 d3 (fun σ => passAt tk σ) hdb).imp fun σ H Q h => ?_
  obtain ⟨μ, env, S, s, e, h2⟩ := call_read (t := tNil) d1 h
  exact (by simp only [evA] at h2; exact h2.here s [] .nil)

/-! new instances -/
theorem new_read {c : Nat} (hd : ds.all cOk = true) (h : lift G W (ev G' ft (.new c f pa ds)) σ H Q) : liftA G W (evA G' ft pa) σ H fun xs H1 => ∀ x dx, H1 x = none → H1 dx = none → dx ≠ x →
    SpF G ft f (.ref x :: (xs ++ ds.map cV)) (upd (upd H1 dx (.own x)) x (.ins (G.ca c) dx [])) (fun v H2 => v = .non ∧ Q (.ref x) H2) (WE W σ) := by
  have h2 := oneA (f := fun vs env S1 => (ft f (.obj S1.length :: (vs ++ ds)) (S1 ++ [.ins c []])).bind fun r S2 => newV (.obj S1.length) r S2) (by simp only [lift, ev] at h; exact h)
  obtain ⟨μ, env, S, s, e, h2⟩ := h2
  refine ⟨μ, env, S, s, e, h2.imp fun vs μ1 S1 H1 u1 k1 s1 q xs r a dx ha hdx ne => ?_⟩
  obtain ⟨μ2, env2, vs2, S2, s2, e2, r2, q2⟩ := q xs r
  have s3 : Sim G μ2 S2 (upd H1 dx (.own a)) := s2.new hdx
  have k3 : Keep H1 (upd H1 dx (.own a)) := Keep.new hdx
  have ha3 : upd H1 dx (.own a) a = none := by rw [upd_ne (Ne.symm ne)]; exact ha
  have s4 : Sim G (μ2 ++ [a]) (S2 ++ [.ins c []]) (upd (upd H1 dx (.own a)) a (.ins (G.ca c) dx [])) := s3.alloc ha3 rfl ⟨dx, [], upd_same, trivial⟩
  have k4 := k3.trans (Keep.new (o := .ins (G.ca c) dx []) ha3)
  have u4 := Up.app μ2 a
  refine ⟨μ2 ++ [a], .obj S2.length :: (vs2 ++ ds), _, s4, .cons (.obj (by rw [← s2.len]; simp)) ((r2.mono u4 k4).app (dVs_rel hd)), ?_⟩
  refine ((q2.later u4 k4).bind.imp fun v μ5 S5 H5 u5 k5 s5 q5 w rw => ?_).wish fun _ _ _ z => z
  unfold newV at q5
  split at q5
  · cases rw
    exact ⟨rfl, q5.val s5 (.obj (u5 _ _ (by rw [← s2.len]; simp)))⟩
  · exact q5.elim
theorem de_new {c : Nat} (M : Mk X.K (G.ca c) fa) (F : FnOk X.prog X.w X.K X.mg X.base (L2.CX X.prog X.w) k fa fd ps (SpF G ft f)) (tk : Takes X W) (hr : Room (k + 1) X.A) (hg : Gl X x) (hm : X.mg x = some (.ref (G.ca c))) (hd : DefsOk X.K fd ps ds)
    (ha : PA X (e :: es) (liftA G W (evA G' ft pa))) (hdb : (x == ("__debug__" : Str)) = false) (he : starEach (e :: es) X.env = (false, eval e X.env) :: starEach es X.env) (hpl : (backTo pos (starEach es X.env)).any (·.1) = false) :
    PE X (.Call (.Name x apos) (e :: es) [] pos) (lift G W (ev G' ft (.new c f pa ds))) := by
  obtain ⟨d1, us, d2, d3⟩ := hd
  exact (pe_makeS M F hr hg hm d2 d3 (fun σ => passAt tk σ) ha hdb he hpl).imp fun σ H Q h => new_read d1 h
theorem de_new0 {c : Nat} (M : Mk X.K (G.ca c) fa) (F : FnOk X.prog X.w X.K X.mg X.base (L2.CX X.prog X.w) k fa fd ps (SpF G ft f)) (tk : Takes X W) (hr : Room (k + 1) X.A) (hg : Gl X x) (hm : X.mg x = some (.ref (G.ca c))) (hd : DefsOk X.K fd ps ds)
    (hdb : (x == ("__debug__" : Str)) = false) : PE X (.Call (.Name x apos) [] [] pos) (lift G W (ev G' ft (.new c f .nil ds))) := by
  obtain ⟨d1, us, d2, d3⟩ := hd
  refine (pe_makeS0 M F hr hg hm d2 d3 (fun σ => passAt tk σ) hdb).imp fun σ H Q h => ?_
  obtain ⟨μ, env, S, s, e, h2⟩ := new_read d1 h
  exact (by simp only [evA] at h2; exact h2.here s [] .nil)

/-! methods -/
/-- the method's def for the instances of one class -/
structure MethOk (X : Cx) (G : Cfg) (G' : Tab) (ft : Fns) (k m n c : Nat) (fds : Nat × List Val) : Prop where
  ok : ∃ fa fd ps, Cls X.K (G.ca c) ∧ Meth X.K (G.ca c) (G.nm m) fa ∧ FnOk X.prog X.w X.K X.mg X.base (L2.CX X.prog X.w) k fa fd ps (SpF G ft fds.1) ∧ DefsOk X.K fd ps (fds.2.drop n)
/-- the reading of o.m(..), the class known -/
def tMc (G : Cfg) (W : WX) (G' : Tab) (ft : Fns) (pa ps : PyE) (m n c : Nat) : TE := fun σ H Q => ∃ fds, G'.mt c m = some fds ∧ ∃ μ env S, Sim G μ S H ∧ REnv μ H env σ ∧ After G W σ μ H (ev G' ft pa env S) fun x μ' S' H' =>
  Sim G μ' S' H' → ∃ i fs, x = .obj i ∧ S'[i]? = some (.ins c fs) ∧ fget m fs = none ∧ liftA G W (evA G' ft ps) σ H' fun xs H2 => ∀ x', RV μ' H' x x' → SpF G ft fds.1 (x' :: (xs ++ (fds.2.drop n).map cV)) H2 Q (WE W σ)
theorem meth_read {m n c0 : Nat} {fds0 : Nat × List Val} (h0 : G'.mt c0 m = some fds0) (hd : ∀ c fds, G'.mt c m = some fds → (fds.2.drop n).all cOk = true) (h : lift G W (ev G' ft (.meth pa m n pb)) σ H Q) : ∃ c, tMc G W G' ft pa pb m n c σ H Q := by
  obtain ⟨μ, env, S, s, e, h⟩ := h
  simp only [ev] at h
  have h1 := h.bind
  cases er : ev G' ft pa env S with
  | no => rw [er] at h1; exact h1.elim
  | ex xx S1 =>
    rw [er] at h1
    exact ⟨c0, fds0, h0, μ, env, S, s, e, by rw [er]; exact h1⟩
  | ok v S1 =>
    rw [er] at h1
    cases em : methV G' m v S1 with
    | none =>
      refine ⟨c0, fds0, h0, μ, env, S, s, e, ?_⟩
      rw [er]
      intro μ' H' u k s' _
      have := h1 μ' H' u k s'
      simp only [em] at this
      exact this.elim
    | some fds =>
      have em' := em
      unfold methV at em
      split at em
      · rename_i i
        split at em
        · rename_i c fs eo
          split at em
          · rename_i ef
            refine ⟨c, fds, em, μ, env, S, s, e, ?_⟩
            rw [er]
            intro μ' H' u k s' _
            have h2 := h1 μ' H' u k s'
            simp only [em'] at h2
            refine ⟨i, fs, rfl, eo, ef, μ', env, S1, s', e.mono u k, h2.bind.imp fun vs μ2 S2 H2 u2 k2 s2 q xs r x' rx => ?_⟩
            exact ⟨μ2, _, S2, s2, .cons (rx.mono u2 k2 _ _) (r.app (dVs_rel (hd c fds em))), q.wish fun _ _ _ z => z⟩
          · cases em
        · cases em
      · cases em
theorem mc_read {m n c : Nat} {fds : Nat × List Val} (hm : m < G.NM.length) (he : G'.mt c m = some fds) (h : tMc G W G' ft pa pb m n c σ H Q) :
    tMethSD (G.ca c) (G.nm m) (SpF G ft fds.1) ((fds.2.drop n).map cV) (WE W) (lift G W (ev G' ft pa)) (liftA G W (evA G' ft pb)) σ H Q := by
  obtain ⟨fds', he', μ, env, S, s, e, h⟩ := h
  rw [he] at he'; cases he'
  refine ⟨μ, env, S, s, e, h.imp fun x μ1 S1 H1 u1 k1 s1 q x' rx => ?_⟩
  obtain ⟨i, fs, rfl, eo, ef, q⟩ := q s1
  have rx' := rx
  cases rx with
  | obj hs =>
  obtain ⟨a, dx, ys, g1, g2, g3⟩ := s1.ins eo
  rw [hs] at g1; cases g1
  refine ⟨_, dx, ys, rfl, g2, (g3.get hm).2 ef, ?_⟩
  obtain ⟨μ2, env2, S2, s2, e2, q⟩ := q
  exact ⟨μ2, env2, S2, s2, e2, q.imp fun vs μ3 S3 H3 u3 k3 s3 q3 xs r => q3 xs r _ rx'⟩
theorem never {t : TE} {e : Expr} {X : Cx} (h : ∀ σ H Q, ¬ t σ H Q) : PE X e t := ⟨fun _ _ σ H Q _ q => (h σ H Q q).elim⟩
theorem de_meth {pl : Sem Bool} {m n c0 : Nat} {fds0 : Nat × List Val} (h0 : G'.mt c0 m = some fds0) (hd : ∀ c fds, G'.mt c m = some fds → MethOk X G G' ft k m n c fds) (hm : m < G.NM.length) (tk : Takes X W) (hr : Room k X.A)
    (ho : PE X o (lift G W (ev G' ft pa))) (ha : PA X (e :: es) (liftA G W (evA G' ft pb)))
    (hst : starEach (e :: es) X.env = (false, eval e X.env) :: starEach es X.env) (hpl : (backTo pos (starEach es X.env)).any (·.1) = false)
    (ht : eval (.Call (.Attribute o (G.nm m) apos) (e :: es) [] pos) X.env = (do
      let ov ← eval o X.env
      standAt apos.atName
      let (f, first) ← holding [ov] (getMethod ov (G.nm m) pl)
      callWith pos f first (backTo pos (starEach (e :: es) X.env)) (backToKw pos (keywordEach [] X.env)))) :
    PE X (.Call (.Attribute o (G.nm m) apos) (e :: es) [] pos) (lift G W (ev G' ft (.meth pa m n pb))) := by
  have hd' : ∀ c fds, G'.mt c m = some fds → (fds.2.drop n).all cOk = true := fun c fds he => by
    obtain ⟨fa, fd, ps, _, _, _, d⟩ := hd c fds he
    exact d.ok
  refine (PE.any (t := fun c => tMc G W G' ft pa pb m n c) fun c => ?_).imp fun σ H Q h => meth_read h0 hd' h
  cases he : G'.mt c m with
  | none => exact never fun σ H Q ⟨fds, z, _⟩ => by rw [he] at z; cases z
  | some fds =>
    obtain ⟨fa, fd, ps, c1, c2, F, d1, us, d2, d3⟩ := hd c fds he
    exact (pe_methSD ho c1 c2 F hr d2 d3 (fun σ => passAt tk σ) ha hst hpl ht).imp fun σ H Q h => mc_read hm he h
theorem de_meth0 {pl : Sem Bool} {m n c0 : Nat} {fds0 : Nat × List Val} (h0 : G'.mt c0 m = some fds0) (hd : ∀ c fds, G'.mt c m = some fds → MethOk X G G' ft k m n c fds) (hm : m < G.NM.length) (tk : Takes X W) (hr : Room k X.A)
    (ho : PE X o (lift G W (ev G' ft pa)))
    (ht : eval (.Call (.Attribute o (G.nm m) apos) [] [] pos) X.env = (do
      let ov ← eval o X.env
      standAt apos.atName
      let (f, first) ← holding [ov] (getMethod ov (G.nm m) pl)
      callWith pos f first (backTo pos (starEach [] X.env)) (backToKw pos (keywordEach [] X.env)))) :
    PE X (.Call (.Attribute o (G.nm m) apos) [] [] pos) (lift G W (ev G' ft (.meth pa m n .nil))) := by
  have hd' : ∀ c fds, G'.mt c m = some fds → (fds.2.drop n).all cOk = true := fun c fds he => by
    obtain ⟨fa, fd, ps, _, _, _, d⟩ := hd c fds he
    exact d.ok
  refine (PE.any (t := fun c => tMc G W G' ft pa .nil m n c) fun c => ?_).imp fun σ H Q h => meth_read h0 hd' h
  cases he : G'.mt c m with
  | none => exact never fun σ H Q ⟨fds, z, _⟩ => by rw [he] at z; cases z
  | some fds =>
    obtain ⟨fa, fd, ps, c1, c2, F, d1, us, d2, d3⟩ := hd c fds he
    refine (pe_methSD0 ho c1 c2 F hr d2 d3 (fun σ => passAt tk σ) ht).imp fun σ H Q h => ?_
    refine lift_mono (mc_read hm he h) fun x H1 ⟨a, dx, fs, q1, q2, q3, q4⟩ => ⟨a, dx, fs, q1, q2, q3, ?_⟩
    obtain ⟨μ, env, S, s, e, h2⟩ := q4
    simp only [evA] at h2
    exact h2.here s [] .nil
end
end Nw

set_option Elab.async false
set_option linter.all false
set_option maxRecDepth 100000
set_option maxHeartbeats 1000000
namespace Nw
open PySem L2

/-! C.m(e, ..): a def read off a class -/
section
variable {X : Cx} {CX : CXT} {k : Nat} {f C g : Addr} {fd : FuncData} {ps : List Str} {sp : Sp} {dvs : List V} {ds : List Value} {E : St → XK} {x m : Str} {p pos apos : Pos} {e o : Expr} {es : List Expr} {ta : TE} {t : TA} {mc : Value}
theorem getmethcv_ok {pl : Sem Bool} {pins : List (Addr × PySem.Obj)} {σ : St} {H : Hp} {s : Shared} {A : Around} {E : Value → Shared → Prop} {v : V} {u : Value} {Q : Value × List Value → Shared → Prop} (I : L2.Inv X pins σ H s) (r : ClX.CRead X.K C mc) (c : ClX.CVal X.K C mc m v u) (h : ∀ s', L2.Inv X pins σ H s' → Q (u, []) s') :
    wpAny (model X.prog X.w) A (getMethod (.ref C) m pl) Q E s := PySem.W.method_cls I.kIn r.ga (ClX.getcval_ok I r c h)
theorem pe_clsSD {pl : Sem Bool} (r : ClX.CRead X.K C mc) (c : ClX.CVal X.K C mc m (.ref g) (.ref g)) (F : FnOk X.prog X.w X.K X.mg X.base CX k g fd ps sp) (hr : Room k X.A) (hg : Gl X x) (hm : X.mg x = some (.ref C)) (hk : PySem.W.keepIn X.K (.ref g) = true) (hb : Binds X.K fd ps ds) (hd : Vals dvs ds) (hx : ∀ σ, PassesAt CX X σ (E σ))
    (ha : PA X (e :: es) t) (hdb : (x == ("__debug__" : Str)) = false) (hst : starEach (e :: es) X.env = (false, eval e X.env) :: starEach es X.env) (hpl : (backTo pos (starEach es X.env)).any (·.1) = false)
    (ht : eval (.Call (.Attribute (.Name x p) m apos) (e :: es) [] pos) X.env = (do
      let ov ← eval (.Name x p) X.env
      standAt apos.atName
      let (f, first) ← holding [ov] (getMethod ov m pl)
      callWith pos f first (backTo pos (starEach (e :: es) X.env)) (backToKw pos (keywordEach [] X.env)))) :
    PE X (.Call (.Attribute (.Name x p) m apos) (e :: es) [] pos) (tCallSD sp dvs E t) := by
  have he : PE X (.Name x p) (tC (.ref C)) := pe_glob hg hm rfl hdb
  refine ⟨fun pins s σ H Q I h => ?_⟩
  refine PySem.W.methodCall_KW (pl := pl) (thn (he.run pins s σ H (fun v H1 => v = .ref C ∧ H1 = H) I ⟨rfl, rfl⟩) fun u s1 ⟨v, H1, I1, rv, ev, eh⟩ => ?_) ht
  subst ev eh
  obtain rfl : u = Value.ref C := rv
  refine getmethcv_ok I1 r c fun s2 I2 => ?_
  refine PySem.W.callWith_K (first := []) (h₀ := X.base) I2.ok.mod.kin hk (thn (ha.run pos pins s2 σ _ _ I2 h) fun us s3 ⟨vs, H2, I3, r3, q2⟩ => ⟨I3.kIn, ?_⟩) hst hpl
  exact run_fnSD F hr hb hd (hx σ) I3 r3 q2
end
section
variable {α β : Type} {G : Cfg} {W : WX} {X : Cx} {σ : St} {μ : List Addr} {H : Hp} {S : Store} {Q : VK} {G' : Tab} {ft : Fns}
variable {f k : Nat} {fa C : Addr} {fd : FuncData} {ps : List Str} {ds : List Val} {x m : Str} {p apos pos : Pos} {e : Expr} {es : List Expr} {pa : PyE} {mc : Value}
theorem de_cls {pl : Sem Bool} (r : ClX.CRead X.K C mc) (c : ClX.CVal X.K C mc m (.ref fa) (.ref fa)) (F : FnOk X.prog X.w X.K X.mg X.base (L2.CX X.prog X.w) k fa fd ps (SpF G ft f)) (tk : Takes X W) (hr : Room k X.A) (hg : Gl X x) (hm : X.mg x = some (.ref C)) (hk : PySem.W.keepIn X.K (.ref fa) = true) (hd : DefsOk X.K fd ps ds)
    (ha : PA X (e :: es) (liftA G W (evA G' ft pa))) (hdb : (x == ("__debug__" : Str)) = false) (he : starEach (e :: es) X.env = (false, eval e X.env) :: starEach es X.env) (hpl : (backTo pos (starEach es X.env)).any (·.1) = false)
    (ht : eval (.Call (.Attribute (.Name x p) m apos) (e :: es) [] pos) X.env = (do
      let ov ← eval (.Name x p) X.env
      standAt apos.atName
      let (f, first) ← holding [ov] (getMethod ov m pl)
      callWith pos f first (backTo pos (starEach (e :: es) X.env)) (backToKw pos (keywordEach [] X.env)))) :
    PE X (.Call (.Attribute (.Name x p) m apos) (e :: es) [] pos) (lift G W (ev G' ft (.call f pa ds))) := by
  obtain ⟨d1, us, d2, d3⟩ := hd
  exact (pe_clsSD r c F hr hg hm hk d2 d3 (fun σ => passAt tk σ) ha hdb he hpl ht).imp fun σ H Q h => call_read (t := tNil) d1 h
end
end Nw

set_option Elab.async false
set_option linter.all false
set_option maxRecDepth 100000
set_option maxHeartbeats 1000000
namespace Nw
open PySem L2

/-! ## dicts that are walked: locked -/
section
variable {α β : Type} {G : Cfg} {W : WX} {X : Cx} {σ : St} {μ : List Addr} {H : Hp} {S : Store} {Q : VK} {G' : Tab} {ft : Fns}
variable {e o : Expr} {pa : PyE} {apos cpos tpos : Pos}
theorem RKv.get {κ : Type} : ∀ {a : List (κ × Val)} {b : List (κ × V)} {j : Nat} {k : κ} {v : Val}, RKv μ H a b → a[j]? = some (k, v) → ∃ x, b[j]? = some (k, x) ∧ RV μ H v x
  | [], [], _, _, _, _, e => by simp at e
  | (q, w) :: r, (q', y) :: r', 0, k, v, ⟨h1, h2, h3⟩, e => by
    simp at e
    obtain ⟨rfl, rfl⟩ := e
    subst h1
    exact ⟨y, rfl, h2⟩
  | (q, w) :: r, (q', y) :: r', j + 1, k, v, ⟨h1, h2, h3⟩, e => by
    obtain ⟨x, e1, e2⟩ := RKv.get (j := j) h3 (by simpa using e)
    exact ⟨x, by simpa using e1, e2⟩
  | [], _ :: _, _, _, _, h, _ => h.elim
  | _ :: _, [], _, _, _, h, _ => h.elim
theorem locked_one (s : Sim G μ S H) {i : Nat} {kvs : List (Key × Val)} {a : Addr} {od : PySem.Obj} {ys : List (Key × V)} (e : S[i]? = some (.dK true kvs)) (ha : μ[i]? = some a) (hH : H a = some (.frz od (.dK ys))) : RKv μ H kvs ys ∧ ∀ p ∈ kvs, kOk p.1 = true := by
  obtain ⟨b, g1, od', ys', g2, g3, g4⟩ := s.ob i _ e
  rw [ha] at g1; cases g1
  rw [hH] at g2; cases g2
  exact ⟨g3, g4⟩
theorem ItOk.its {i : Nat} {a : Addr} {od : PySem.Obj} {ys : List (Key × V)} (ha : μ[i]? = some a) (hH : H a = some (.frz od (.dK ys))) : ItOk G μ H (.its i) (Iti a od ys) := by
  intro μ' H' S' j u k s
  have hH' := k.z _ _ _ hH
  refine ⟨fun v e => ?_, fun e => ?_⟩
  · simp only [walkAt] at e
    split at e
    · rename_i kvs eo
      obtain ⟨r1, r2⟩ := locked_one s eo (u _ _ ha) hH'
      obtain ⟨kv, e1, e2⟩ := Option.map_eq_some_iff.mp (Option.some.inj e)
      obtain ⟨kk, vv⟩ := kv
      subst e2
      obtain ⟨x, e3, e4⟩ := r1.get e1
      refine ⟨⟨hH', (List.getElem?_eq_some_iff.mp e3).1⟩, fun x' H'' ⟨T, k2, v2, hv, hx, hT, hh⟩ => ?_⟩
      rw [e3] at hv; cases hv
      subst hh; subst hx
      have kp := Keep.new (o := .tup [kV kk, x]) hT
      exact ⟨kp, s.new hT, .tup upd_same (.cons (RV.key (r2 _ (List.mem_of_getElem? e1))) (.cons (e4.mono (Up.refl _) kp _ _) .nil))⟩
    · cases e
  · simp only [walkAt] at e
    split at e
    · rename_i kvs eo
      obtain ⟨r1, r2⟩ := locked_one s eo (u _ _ ha) hH'
      exact ⟨hH', by rw [← r1.length]; exact List.getElem?_eq_none_iff.mp (Option.map_eq_none_iff.mp (Option.some.inj e))⟩
    · cases e
theorem ItOk.ks {i : Nat} {a : Addr} {od : PySem.Obj} {ys : List (Key × V)} (ha : μ[i]? = some a) (hH : H a = some (.frz od (.dK ys))) : ItOk G μ H (.ks i) (Itk a od ys) := by
  intro μ' H' S' j u k s
  have hH' := k.z _ _ _ hH
  refine ⟨fun v e => ?_, fun e => ?_⟩
  · simp only [walkAt] at e
    split at e
    · rename_i kvs eo
      obtain ⟨r1, r2⟩ := locked_one s eo (u _ _ ha) hH'
      obtain ⟨kv, e1, e2⟩ := Option.map_eq_some_iff.mp (Option.some.inj e)
      obtain ⟨kk, vv⟩ := kv
      subst e2
      obtain ⟨x, e3, e4⟩ := r1.get e1
      refine ⟨⟨hH', (List.getElem?_eq_some_iff.mp e3).1⟩, fun x' H'' ⟨hh, k2, v2, hv, hx⟩ => ?_⟩
      rw [e3] at hv; cases hv
      subst hh; subst hx
      exact ⟨Keep.refl _, s, RV.key (r2 _ (List.mem_of_getElem? e1))⟩
    · cases e
  · simp only [walkAt] at e
    split at e
    · rename_i kvs eo
      obtain ⟨r1, r2⟩ := locked_one s eo (u _ _ ha) hH'
      exact ⟨hH', by rw [← r1.length]; exact List.getElem?_eq_none_iff.mp (Option.map_eq_none_iff.mp (Option.some.inj e))⟩
    · cases e
theorem di_items {elts : List Expr} {kk : Nat} (he : PE X o (lift G W (ev G' ft pa))) (hb : attributeBase o "items" X.env (eval o X.env) = eval o X.env) (hl : (apos.endLine == cpos.line) = true) :
    PI X (.Tuple elts kk tpos) (.Call (.Attribute o "items" apos) [] [] cpos) (iG G W .items (evA G' ft (.cons pa .nil))) := by
  refine pi_imp (pi_items he hb hl) fun σ H R h => ?_
  obtain ⟨μ, env, S, s, e, h⟩ := iG_one h
  refine ⟨μ, env, S, s, e, h.imp fun v μ1 S1 H1 u1 k1 s1 h1 => ?_⟩
  intro x rx
  obtain ⟨w, n, h2, h3⟩ := h1 s1
  simp only [mkWalk] at h2
  unfold wkIts at h2
  split at h2
  · rename_i vs j hj
    cases hj
    split at h2
    · rename_i i kvs eo
      cases h2
      cases rx with
      | obj ha =>
      obtain ⟨b, g1, od, ys, g2, g3, g4⟩ := s1.ob _ _ eo
      rw [ha] at g1; cases g1
      exact ⟨_, od, ys, rfl, g2, h3 _ (ItOk.its ha g2)⟩
    · cases h2
  · cases h2
theorem di_keys {tg : Expr} (he : PE X o (lift G W (ev G' ft pa))) : PI X tg o (iG G W .keys (evA G' ft (.cons pa .nil))) := by
  refine pi_imp (pi_keys he) fun σ H R h => ?_
  obtain ⟨μ, env, S, s, e, h⟩ := iG_one h
  refine ⟨μ, env, S, s, e, h.imp fun v μ1 S1 H1 u1 k1 s1 h1 => ?_⟩
  intro x rx
  obtain ⟨w, n, h2, h3⟩ := h1 s1
  simp only [mkWalk] at h2
  unfold wkKs at h2
  split at h2
  · rename_i vs j hj
    cases hj
    split at h2
    · rename_i i kvs eo
      cases h2
      cases rx with
      | obj ha =>
      obtain ⟨b, g1, od, ys, g2, g3, g4⟩ := s1.ob _ _ eo
      rw [ha] at g1; cases g1
      exact ⟨_, od, rfl, .inl ⟨ys, g2, h3 _ (ItOk.ks ha g2)⟩⟩
    · cases h2
  · cases h2

/-! ## a lock -/
theorem lkOf_some {T : Tab} {env : Env} {i : Nat} {fs : List Nat} {d : Nat} {kvs : List (Key × Val)} (h : lkOf T env S i fs = some (d, kvs)) : S[d]? = some (.dK false kvs) := by
  unfold lkOf at h
  obtain ⟨d', _, h2⟩ := Option.bind_eq_some_iff.mp h
  split at h2
  · rename_i eo; cases h2; exact eo
  · cases h2
/-- locked -/
theorem Sim.locks (s : Sim G μ S H) {d : Nat} {kvs : List (Key × Val)} (e : S[d]? = some (.dK false kvs)) : ∃ a ys, μ[d]? = some a ∧ H a = some (.dK ys) ∧ ∀ od, Sim G μ (S.set d (.dK true kvs)) (L2.upd H a (.frz od (.dK ys))) ∧ Keep H (L2.upd H a (.frz od (.dK ys))) := by
  obtain ⟨a, h1, ys, h2, h3, h4⟩ := s.ob d _ e
  refine ⟨a, ys, h1, h2, fun od => ?_⟩
  exact s.put (o' := .dK true kvs) e rfl rfl h1 ⟨od, ys, upd_same, h3.mono (Up.refl _) (Keep.dK h2), h4⟩
/-- unlocked -/
theorem Sim.unlocks (s : Sim G μ S H) {d : Nat} {S' : Store} {a : Addr} {od : PySem.Obj} {ys : List (Key × V)} (e : unlk d S = some S') (ha : μ[d]? = some a) (hH : H a = some (.frz od (.dK ys))) : Sim G μ S' (L2.upd H a (.dK ys)) ∧ KeepT H (L2.upd H a (.dK ys)) := by
  unfold unlk at e
  split at e
  · rename_i kvs eo
    cases e
    obtain ⟨r1, r2⟩ := locked_one s eo ha hH
    have kt : KeepT H (L2.upd H a (.dK ys)) := fun b xs h => by
      rw [upd_ne (fun z => by rw [z, hH] at h; cases h)]; exact h
    exact s.putT (o' := .dK false kvs) eo rfl rfl ha ⟨ys, upd_same, r1.monoT (Up.refl _) kt, r2⟩
  · cases e
theorem keep_round {H1 H2 : Hp} {a : Addr} {od : PySem.Obj} {ys : List (Key × V)} (h : H a = some (.dK ys)) (k : Keep (L2.upd H a (.frz od (.dK ys))) H2) : Keep H (L2.upd H2 a (.dK ys)) := by
  refine ⟨fun b xs e => ?_, fun b o u e => ?_⟩
  · have hb : b ≠ a := fun z => by rw [z, h] at e; cases e
    rw [upd_ne hb]
    exact k.t b xs (by rw [upd_ne hb]; exact e)
  · have hb : b ≠ a := fun z => by rw [z, h] at e; cases e
    rw [upd_ne hb]
    exact k.z b o u (by rw [upd_ne hb]; exact e)
theorem lock_read {i : Nat} {fs : List Nat} (h : lift G W (ev G' ft (.lock i fs pa)) σ H Q) : tLockE (lift G W (ev G' ft pa)) σ H Q := by
  obtain ⟨μ, env, S, s, e, h⟩ := h
  simp only [ev] at h
  split at h
  · rename_i d kvs el
    have eo := lkOf_some el
    obtain ⟨a, ys, h1, h2, h3⟩ := s.locks eo
    refine ⟨a, .dK ys, h2, trivial, fun od => ?_⟩
    obtain ⟨s1, k1⟩ := h3 od
    refine ⟨μ, env, _, s1, e.mono (Up.refl _) k1, ?_⟩
    cases er : ev G' ft pa env (S.set d (.dK true kvs)) with
    | no => rw [er] at h; exact h.elim
    | ex x S1 => rw [er] at h; exact h.elim
    | ok v S1 =>
      rw [er] at h
      simp only [lockV] at h
      split at h
      · rename_i S2 eu
        intro μ' H' u k s' x rx
        have hz := k.z _ _ _ (show (L2.upd H a (.frz od (.dK ys))) a = _ from upd_same)
        obtain ⟨s2, kt⟩ := s'.unlocks eu (u _ _ h1) hz
        exact ⟨hz, h μ' _ u (keep_round (H1 := H) h2 k) s2 x (rx.monoT (Up.refl _) kt)⟩
      · exact h.elim
  · exact h.elim
theorem de_lock {i : Nat} {fs : List Nat} (he : PE X e (lift G W (ev G' ft pa))) : PE X e (lift G W (ev G' ft (.lock i fs pa))) := (pe_lock he).imp fun σ H Q h => lock_read h
theorem ds_lock {i : Nat} {fs : List Nat} {st : Stmt} {p : PyS} (he : PS X st (liftS G W (ex G' ft p))) : PS X st (liftS G W (ex G' ft (.lockS i fs p))) := by
  refine (ps_lock he).imp fun D σ H h => ?_
  obtain ⟨μ, env, S, s, e, h⟩ := h
  simp only [ex] at h
  split at h
  · rename_i d kvs el
    have eo := lkOf_some el
    obtain ⟨a, ys, h1, h2, h3⟩ := s.locks eo
    refine ⟨a, .dK ys, h2, trivial, fun od => ?_⟩
    obtain ⟨s1, k1⟩ := h3 od
    refine ⟨μ, env, _, s1, e.mono (Up.refl _) k1, ?_⟩
    cases er : ex G' ft p env (S.set d (.dK true kvs)) with
    | no => rw [er] at h; exact h.elim
    | ex x e' S1 => rw [er] at h; exact h.elim
    | bk e' S1 => rw [er] at h; exact h.elim
    | ct e' S1 => rw [er] at h; exact h.elim
    | nx e' S1 =>
      rw [er] at h
      simp only [lockO] at h
      split at h
      · rename_i S2 eu
        intro μ' H' σ' u k s' r'
        have hz := k.z _ _ _ (show (L2.upd H a (.frz od (.dK ys))) a = _ from upd_same)
        obtain ⟨s2, kt⟩ := s'.unlocks eu (u _ _ h1) hz
        exact ⟨hz, h μ' _ σ' u (keep_round (H1 := H) h2 k) s2 (r'.monoT (Up.refl _) kt)⟩
      · exact h.elim
    | rt v S1 =>
      rw [er] at h
      simp only [lockO] at h
      split at h
      · rename_i S2 eu
        intro μ' H' x u k s' rx
        have hz := k.z _ _ _ (show (L2.upd H a (.frz od (.dK ys))) a = _ from upd_same)
        obtain ⟨s2, kt⟩ := s'.unlocks eu (u _ _ h1) hz
        exact ⟨hz, h μ' _ x u (keep_round (H1 := H) h2 k) s2 (rx.monoT (Up.refl _) kt)⟩
      · exact h.elim
  · exact h.elim
end
end Nw

set_option Elab.async false
set_option linter.all false
set_option maxRecDepth 100000
set_option maxHeartbeats 3200000
namespace Nw
open PySem L2 PySem.Spec PyProof.Rows

/-! ## set(l) of a list of ints, so that it can be sorted -/
section
variable {P : Program} {w : World} {A : Around} {E : Value → Shared → Prop} {s : Shared}
/-- the heap with an empty set behind it -/
abbrev withSet (w : World) (h : Heap) : Heap := h.push { cls := .type "set", dict := none, data := .set #[] 0 (.fresh 0 0 (!w.params.followText "set-order")) }
theorem nw_set_init {l : Addr} {items : Array Value} (ns : List Int) (hh : A.handled = none) (hl : s.heap.IsList l items) (hit : IntsAre items.toList ns) (hb : ns.length + 1 < scanBound) :
    codeAny (model P w) A (.call (.builtin "set.__init__") ⟨[.ref s.heap.objs.size, .ref l], []⟩) (wants (fun r s₂ => r = .none ∧ ∃ h' tk c, s₂ = { s with heap := h', toks := tk } ∧ SetR w h' s.heap.objs.size (fun j => decide (j ∈ ns)) c ∧
      (∀ b o, s.heap.get? b = some o → h'.get? b = some o)) E) { s with heap := withSet w s.heap } := by
  have hisz : items.size = ns.length := by
    have q := IntsAre.length hit
    rw [Array.length_toList] at q
    exact q
  have hS : (withSet w s.heap).get? s.heap.objs.size = some { cls := .type "set", dict := none, data := .set #[] 0 (.fresh 0 0 (!w.params.followText "set-order")) } := Heap.get?_push_size _ rfl
  have hT : Shared.TypeIs { s with heap := withSet w s.heap } (.ref s.heap.objs.size) "set" := ⟨_, hS, rfl⟩
  refine codeAny_call_builtin PySem.F.called_set.init.plain PySem.F.entry_set_init (check_set_init_1 hT ?_)
  obtain ⟨ol, hol, hcl, nl, hdl⟩ := hl
  obtain ⟨ocls, odict, odata, oslots⟩ := ol
  simp only at hcl hdl
  subst hcl; subst hdl
  have hol' : (withSet w s.heap).get? l = some { cls := .type "list", dict := odict, data := .seq items nl, slots := oslots } := Heap.get?_push_of_some _ hol
  have hsls := PySem.F.sub_list_set
  have hslf := PySem.F.sub_list_frozenset
  have hne : (Value.type "list" == Value.type "dict") = false := by decide
  have hl1 : (withSet w s.heap).IsList l items := ⟨_, hol', rfl, nl, rfl⟩
  unfold Builtin.«set.__init__» noKeywords Builtin.Frozenset.updateFrom
  generalize hPI : pyIter = PI
  wp_walk
  subst hPI
  refine wpAny_pyIter_list hl1 ?_
  refine wpAny_bind (wpAny_runValue ?_)
  have hlS : l < s.heap.objs.size := Heap.lt_size hol
  have hz1 : (withSet w s.heap).objs.size = s.heap.objs.size + 1 := Heap.size_push ..
  have hh3 : A.in1.in1.handled = none := by simp [hh]
  have hneI : l ≠ (withSet w s.heap).objs.size := by rw [hz1]; exact Nat.ne_of_lt (Nat.lt_succ_of_lt hlS)
  have hSf : s.heap.objs.size ∉ [(withSet w s.heap).objs.size, l] := by
    rw [hz1]
    simp only [List.mem_cons, List.not_mem_nil, or_false, not_or]
    exact ⟨Nat.ne_of_lt (Nat.lt_succ_self _), Nat.ne_of_gt hlS⟩
  refine set_update_ints ((Walks.list hh3 _ l hneI items).toS) s.heap.objs.size hSf ns hisz hb ?hval (items.size - 0) 0 _ (by omega) (Nat.zero_le _) ⟨⟨_, Heap.get?_push_size _ rfl, rfl, rfl⟩, (hl1.push _)⟩ ?hS0 ?hR
  case hS0 =>
    have hget : ((withSet w s.heap).push { cls := .type "list_iterator", data := .fields #[.ref l, .int 0 0] }).get? s.heap.objs.size = some { cls := .type "set", dict := none, data := .set #[] 0 (.fresh 0 0 (!w.params.followText "set-order")) } := Heap.get?_push_of_some _ hS
    exact ⟨0, Nat.le_refl 0, setR_new_at hget⟩
  case hval =>
    intro i v hv
    have hi : i < ns.length := by rw [← hisz]; exact (Array.getElem?_eq_some_iff.mp hv).1
    obtain ⟨t, e⟩ := PyProof.Rows.IntsAre.int_at hit i v (by rw [Array.getElem?_toList]; exact hv)
    refine ⟨ns[i], t, List.getElem?_eq_getElem hi, ?_⟩
    rw [e, List.getD_eq_getElem?_getD, List.getElem?_eq_getElem hi] <;> rfl
  case hR =>
    intro s' c' hm _ hS'
    obtain ⟨h', g2, d', tk', os'⟩ := s'
    obtain rfl : g2 = s.gens := hm.gens
    obtain rfl : d' = s.drawn := hm.drawn
    obtain rfl : os' = s.os := hm.os
    show wpAny _ _ _ _ _ _
    refine wpAny_pure ?_
    show wpAny _ _ (ret Value.none) _ _ _
    refine wpAny_pure ⟨rfl, h', tk', c', rfl, hS', fun b o e => ?_⟩
    have hb0 : b < s.heap.objs.size := Heap.lt_size e
    refine hm.heap b o ?_ (Heap.get?_push_of_some _ (Heap.get?_push_of_some _ e))
    simp only [List.mem_cons, List.not_mem_nil, or_false, not_or]
    exact ⟨Nat.ne_of_lt hb0, by rw [hz1]; exact Nat.ne_of_lt (Nat.lt_succ_of_lt hb0)⟩
theorem nw_set_list {l : Addr} {items : Array Value} (ns : List Int) {Q : Value → Shared → Prop} (hh : A.handled = none) (hl : s.heap.IsList l items) (hit : IntsAre items.toList ns) (hb : ns.length + 1 < scanBound)
    (h : ∀ (h' : Heap) (tk c : Nat), SetR w h' s.heap.objs.size (fun j => decide (j ∈ ns)) c → (∀ b o, s.heap.get? b = some o → h'.get? b = some o) → Q (.ref s.heap.objs.size) { s with heap := h', toks := tk }) :
    wpAny (model P w) A (call (.type "set") [.ref l]) Q E s := by
  obtain ⟨c, tl, hmro⟩ := PySem.F.called_set.mro
  have hmade := PySem.F.called_set.made
  have hsub := PySem.F.called_set.sub
  refine wpAny_call (codeAny_of_tree ?_)
  show wpAny _ _ (callAny (.type "set") _) _ _ _
  refine wpAny_pure ⟨Code.quiet_builtin _ (by decide +kernel), codeAny_builtin PySem.F.entry_type_call ?_⟩
  rw [Around.under_plain (weight_type_call_type "set" [.ref l] []) rfl]
  have h1 := PySem.F.called_set.notType
  have h2 := PySem.F.called_set.canCreate
  have hct := PySem.F.typeCall_set_1 (.ref l)
  repeat (any_goals (first | assumption | wp_step))
  refine codeAny_mono (code_set_led1 (.ref l) (E := E) (Q₁ := fun obj s₁ => obj = .ref s.heap.objs.size ∧ s₁ = { s with heap := withSet w s.heap }) ⟨rfl, rfl⟩) fun r s₁ hr => ?_
  cases r with
  | error e => exact hr
  | ok fl =>
    cases fl with
    | ret obj =>
      obtain ⟨rfl, rfl⟩ := hr
      have hS : (withSet w s.heap).get? s.heap.objs.size = some { cls := .type "set", dict := none, data := .set #[] 0 (.fresh 0 0 (!w.params.followText "set-order")) } := Heap.get?_push_size _ rfl
      have hT : Shared.TypeIs { s with heap := withSet w s.heap } (.ref s.heap.objs.size) "set" := ⟨_, hS, rfl⟩
      have hli := PySem.F.called_set.init.lookup
      have hbi := PySem.F.called_set.init.bind (.ref s.heap.objs.size)
      repeat (any_goals (first | assumption | wp_step))
      refine codeAny_mono (nw_set_init (s := s) (E := E) ns (by simpa using hh) hl hit hb) fun r₂ s₂ hr₂ => ?_
      cases r₂ with
      | error e => exact hr₂
      | ok fl₂ =>
        cases fl₂ with
        | ret r =>
          obtain ⟨rfl, h', tk, c', rfl, hS', hk'⟩ := hr₂
          repeat (any_goals (first | assumption | wp_step))
          exact h _ _ _ hS' hk'
        | _ => exact hr₂.elim
    | _ => exact hr.elim
end
theorem perm_of_same {a b : List Int} (ha : a.Nodup) (hb : b.Nodup) (h : ∀ j, j ∈ a ↔ j ∈ b) : a.Perm b := (List.perm_ext_iff_of_nodup ha hb).mpr h
theorem setR_count {w : World} {h : Heap} {a : Addr} {ns : List Int} {c : Nat} (R : SetR w h a (fun j => decide (j ∈ ns)) c) : c = (nubI ns).length := by
  obtain ⟨o, es, ep, t, ho, h1, h2, h3, h4, h5, h6, h7, h8, h9⟩ := R
  have p := perm_of_same h4 nubI_nodup fun j => by rw [← h5 j, nubI_mem, decide_eq_true_eq]
  have q := p.length_eq
  rw [List.length_map, Array.length_toList] at q
  omega
/-- set(l) of a list of ints -/
def rSetLI (K : PySem.W.Frag) (w : World) : List V → Hp → VK → Prop := fun xs H Q => ∃ a ns, xs = [V.ref a] ∧ SqL K H a (ns.map V.int) ∧ ns.length < 4000 ∧
  ∀ p, H p = none → Q (.ref p) (upd H p (SetO w p (fun j => decide (j ∈ ns)) (nubI ns).length))
section
variable {X : Cx} {G : Cfg} {W : WX} {T : Tab} {ft : Fns}
theorem cr_setLI (hc : X.calm = true) : CallR X (.type "set") (rSetLI X.K X.w) := by
  intro pins s σ H vs us Q I r h
  obtain ⟨a, ns, rfl, hs, h64, q⟩ := h
  obtain ⟨its, rv, hl, _⟩ := I.list hs
  rw [Vals.ref1 r]
  refine nw_set_list ns (I.ok.hd hc) hl.isList (by simpa using Vals.ints rv) (by show ns.length + 1 < 4096; omega) fun h' tk c R hk => ?_
  have e := setR_count R
  subst e
  exact ⟨.ref _, upd H s.heap.objs.size (SetO X.w s.heap.objs.size (fun j => decide (j ∈ ns)) (nubI ns).length), I.laid (t' := tk) hk (Nat.le_refl _) (setO_new R), rfl, q _ (I.hok.fresh (Nat.le_refl _))⟩
theorem de_sset {e : Expr} {pa : PyE} (hK : G.K = X.K)
    (h : PE X e (tCB (rSortedSet X.w) (tCons (tCB (rSetLI X.K X.w) (tCons (lift G W (ev T ft pa)) tNil)) tNil))) : PE X e (lift G W (ev T ft (.bi .sset (.cons pa .nil)))) := by
  refine h.imp fun σ H Q h => ?_
  have h2 := one (f := fun v _ S1 => ssetV S1 [v]) (k := Kv Q) (by
    obtain ⟨μ, env, S, s, e, h⟩ := h
    refine ⟨μ, env, S, s, e, ?_⟩
    simp only [ev, evA] at h
    have e2 : (((ev T ft pa env S).bind fun x S1 => (Res.ok [] S1).bind fun xs S2 => Res.ok (x :: xs) S2).bind fun vs S1 => biV .sset S1 vs) = ((ev T ft pa env S).bind fun x S1 => ssetV S1 [x]) := by
      cases ev T ft pa env S <;> rfl
    rw [e2] at h
    exact h)
  refine lift_mono h2 fun x H1 ⟨μ, env, v, S, sm, e, r, q⟩ => ?_
  unfold ssetV at q
  split at q
  · rename_i i hv
    cases hv
    cases r with
    | obj hs =>
    split at q
    · rename_i eo
      obtain ⟨p, ys, g1, g2, g3⟩ := sm.lstR eo
      rw [hs] at g1; cases g1
      split at q
      · rename_i ns en
        obtain ⟨e1, e2⟩ := g3.ints en
        subst e1
        split at q
        · rename_i hb
          refine ⟨_, ns, rfl, by rw [← hK]; exact g2, hb.1, fun p1 hp1 => ⟨p1, _, _, rfl, upd_same, hb.2, fun ns' l pw hm hlen hp => ?_⟩⟩
          have pm : ns'.Perm (nubI ns) := perm_of_same (pw.imp (fun h => Int.ne_of_lt h)) nubI_nodup fun j => by rw [hm j, nubI_mem, decide_eq_true_eq]
          have e3 : ns' = sortI (nubI ns) := PySem.W.ksm_same (pm.trans (sort_perm _).symm) (pw.imp (fun h => Int.le_of_lt h)) (sort_sorted _)
          subst e3
          exact (q.later (Up.refl _) (Keep.new hp1)).lst (sm.new hp1) (RVs.of_ints _) hp
        · exact q.elim
      · exact q.elim
    · exact q.elim
  · exact q.elim
end
end Nw

set_option Elab.async false
set_option linter.all false
set_option maxRecDepth 100000
set_option maxHeartbeats 1000000
namespace Nw
open PySem L2

/-! what is seen of the text, by cases -/
def isStar : Expr → Bool
  | .Starred _ _ => true
  | _ => false
theorem star_cons {e : Expr} {es : List Expr} {env : PySem.Env} (h : isStar e = false) : starEach (e :: es) env = (false, eval e env) :: starEach es env := by
  cases e <;> first | rfl | cases h
theorem star_plain {pos : Pos} {env : PySem.Env} : ∀ {es : List Expr}, es.all (fun e => !isStar e) = true → (backTo pos (starEach es env)).any (·.1) = false ∧ (backTo pos (starEach es env)).all (fun x => !x.1) = true
  | [], _ => ⟨rfl, rfl⟩
  | e :: es, h => by
    simp only [List.all_cons, Bool.and_eq_true, Bool.not_eq_true'] at h
    obtain ⟨h1, h2⟩ := star_plain (pos := pos) (env := env) h.2
    rw [star_cons h.1]
    exact ⟨by show (false || _) = false; exact h1, by show (true && _) = true; exact h2⟩
def superish : Expr → Bool
  | .Call (.Name _ _) [] [] _ => true
  | _ => false
theorem base_of {o : Expr} {m : Str} {env : PySem.Env} (h : superish o = false) : attributeBase o m env (eval o env) = eval o env := by
  unfold attributeBase
  split
  · cases h
  · rfl
def compish : Expr → Bool
  | .ListComp .. => true
  | .SetComp .. => true
  | .DictComp .. => true
  | _ => false
theorem sw_of {e : Expr} {t : Option Expr} {l : Nat} {env : PySem.Env} (h : compish e = false) : swapsWith e t l env = pure false := by
  cases e <;> first | rfl | cases h
theorem sws_of {e t : Expr} {l : Nat} {env : PySem.Env} (h : compish e = false) : swapsWithSole [t] e l env = pure false := sw_of h
def tuplish : Expr → Bool
  | .Tuple .. => true
  | _ => false
def seqish : Expr → Bool
  | .Tuple .. => true
  | .List .. => true
  | .Starred .. => true
  | _ => false
theorem sst_t {e t : Expr} {env : PySem.Env} (h : seqish t = false) : swappedStores [t] e env = pure none := by
  cases t <;> first | rfl | cases h
theorem sst_v {e t : Expr} {env : PySem.Env} (h : tuplish e = false) : swappedStores [t] e env = pure none := by
  cases t <;> cases e <;> first | rfl | cases h
theorem asg_one {t : Expr} {env : PySem.Env} (h : isStar t = false) : (assignEach [t] env).map (·.2) = [assign t env] := by
  cases t <;> first | rfl | cases h
theorem asg_cons {t : Expr} {es : List Expr} {env : PySem.Env} (h : isStar t = false) : assignEach (t :: es) env = (false, assign t env) :: assignEach es env := by
  cases t <;> first | rfl | cases h
theorem asg_len {env : PySem.Env} : ∀ {es : List Expr}, es.all (fun e => !isStar e) = true → (assignEach es env).length = es.length ∧ (assignEach es env).findIdx? (·.1) = none
  | [], _ => ⟨rfl, rfl⟩
  | e :: es, h => by
    simp only [List.all_cons, Bool.and_eq_true, Bool.not_eq_true'] at h
    obtain ⟨h1, h2⟩ := asg_len (env := env) h.2
    rw [asg_cons h.1]
    refine ⟨by simp [h1], ?_⟩
    rw [List.findIdx?_cons]
    simp [h2]
def setish : Expr → Bool
  | .Set .. => true
  | _ => false
theorem fold_of {e : Expr} {env : PySem.Env} (h : setish e = false) : ∀ x, foldedSetIterable e env x = pure x := by
  intro x
  cases e <;> first | rfl | cases h
def slicish : Expr → Bool
  | .Slice .. => true
  | _ => false
theorem plainIx_of {e : Expr} (h : slicish e = false) : PlainIx e := by
  intro o i
  cases e <;> first | rfl | cases h
theorem sub_of {o i : Expr} {pos : Pos} {env : PySem.Env} (h : slicish i = false) : ∀ v, assign (.Subscript o i pos) env v = (do
      let ov ← holding [v] (eval o env)
      let iv ← holding [v, ov] (eval i env)
      standAt pos
      holding [v, ov, iv] (setItem ov iv v)
      release [v, ov, iv] []) := by
  intro v
  cases i <;> first | rfl | cases h
theorem few_of {pos : Pos} {env : PySem.Env} {es : List Expr} (h : es.all (fun e => !isStar e) = true) (hl : es.length < 30) : ((backTo pos (starEach es env)).all (fun x => !x.1) && (backToKw pos (keywordEach [] env)).all (fun x => x.1.isSome)
    && decide (es.length + ([] : List Keyword).length + (if ([] : List Keyword).isEmpty then 0 else 1) < 30)) = true := by
  rw [(star_plain h).2]
  simp [keywordEach, backToKw, hl]
theorem meth_ht {o : Expr} {m : Str} {apos pos : Pos} {es : List Expr} {env : PySem.Env} (hb : superish o = false) (h : es.all (fun e => !isStar e) = true) (hl : es.length < 30) (hp : (apos.endLine == pos.line) = true) : eval (.Call (.Attribute o m apos) es [] pos) env = (do
      let ov ← eval o env
      standAt apos.atName
      let (f, first) ← holding [ov] (getMethod ov m (do return (← importBound o env).getD true))
      callWith pos f first (backTo pos (starEach es env)) (backToKw pos (keywordEach [] env))) := by
  rw [PySem.arm_eval_Call, base_of hb]
  have hform : methodCallForm (es.length + ([] : List Keyword).length) (backTo pos (starEach es env)) (backToKw pos (keywordEach [] env)) = true := by
    unfold methodCallForm
    have := few_of (pos := pos) (env := env) h hl
    rw [(star_plain h).2]
    simp [keywordEach, backToKw, hl]
  have hpos : methodCallPos true o env apos pos = pure pos := by unfold methodCallPos; simp [hp]
  unfold methodCall
  rw [hform, hpos]
  simp only [calleeOf, if_true]
  congr 1
def testish : Expr → Bool
  | .UnaryOp .Not _ _ => true
  | .BoolOp .. => true
  | .IfExp .. => true
  | .Compare .. => true
  | _ => false
theorem true_of {e : Expr} {env : PySem.Env} (h : testish e = false) : ∀ whole, isTrue e env whole = (do let v ← whole; standAt e.pos; holding [v] (truthy v)) := by
  intro whole
  cases e with
  | UnaryOp op x p => cases op <;> first | rfl | cases h
  | _ => first | rfl | cases h
theorem pe_one {X : Cx} {op : PySem.BoolOp} {b : Expr} {pos : Pos} {t : TE} (h : PE X b t) : PE X (.BoolOp op [b] pos) t := ⟨fun pins s σ H Q I q => h.run pins s σ H Q I q⟩
end Nw

set_option Elab.async false
set_option linter.all false
set_option maxRecDepth 100000
set_option maxHeartbeats 2000000
namespace Nw
open PySem L2

/-- what is known of the names: the frame's names, its scope, whose cells are its own -/
structure Kx where
  N : List Str
  sc : Scope
  fnB : Str → Bool
  hot : Bool := false
def Kx.lk (kx : Kx) (x : Str) : Option NameKind := kx.sc.names.lookup x
def Kx.vis (kx : Kx) (x : Str) : Bool := match kx.lk x with
  | some .local => true
  | some .cell => true
  | some .free => true
  | _ => false
def Kx.gl (kx : Kx) (x : Str) : Bool := match kx.lk x with
  | some .globalImplicit => !(x == ("__debug__" : Str))
  | _ => false
def Kx.loc (kx : Kx) (x : Str) : Bool := match kx.lk x with
  | some .local => true
  | some .cell => kx.fnB x
  | _ => false
def Kx.isLoc (kx : Kx) (x : Str) : Bool := match kx.lk x with
  | some .local => true
  | _ => false
def Kx.isCell (kx : Kx) (x : Str) : Bool := match kx.lk x with
  | some .cell => true
  | _ => false
def Kx.blk (kx : Kx) (scope : Scope) : Kx := { N := kx.N, sc := relS scope kx.sc, fnB := fun x => scope.names.lookup x == some .cell, hot := kx.hot }
/-- the law's tables -/
structure Tb where
  NM : List Str
  fns : List (Str × Nat)
  cls : List (Str × (Nat × Nat))
  dss : List (Nat × List Val)
  bl : List Str
  cst : List (Str × List Str)
  mts : List (Nat × Nat)
  cn : List Nat
  exs : List (Str × Nat)
  exr : List Nat
  gc : List (Str × Val)
  cfn : List ((Str × Str) × Nat)
  isc : List (Str × Nat)

def posOk (x : Str) : Bool := !(x == ("__debug__" : Str)) && !(x == ("__classdict__" : Str))
def cE (v : Val) : Expr → Bool
  | .Constant .none _ _ => (match v with | .non => true | _ => false)
  | .Constant (.bool b) _ _ => (match v with | .bl c => b == c | _ => false)
  | .Constant (.int b) _ _ => (match v with | .int c => b == c | _ => false)
  | .Constant (.str b) _ _ => (match v with | .str c => decide (b = c) && sOk c | _ => false)
  | _ => false
def varE (kx : Kx) (i : Nat) : Expr → Bool
  | .Name x _ => decide (kx.N[i]? = some x) && kx.vis x && posOk x
  | _ => false
def nostar (es : List Expr) : Bool := es.all fun e => !isStar e
def biN (b : Bi) (x : Str) (n : Nat) : Bool := match b with
  | .len => decide (x = ("len" : Str)) && n == 1
  | .int_ => decide (x = ("int" : Str)) && n == 1
  | .str_ => decide (x = ("str" : Str)) && n == 1
  | .tuple_ => decide (x = ("tuple" : Str)) && n == 1
  | .list_ => decide (x = ("list" : Str)) && n == 1
  | .sorted_ => decide (x = ("sorted" : Str)) && n == 1
  | .sum_ => decide (x = ("sum" : Str)) && n == 1
  | .all_ => decide (x = ("all" : Str)) && n == 1
  | .min1 => decide (x = ("min" : Str)) && n == 1
  | .min2 => decide (x = ("min" : Str)) && n == 2
  | .max2 => decide (x = ("max" : Str)) && n == 2
  | .sset => false
  | .isi _ => false
def bmN (m : Bm) (x : Str) (n : Nat) : Bool := match m with
  | .append => decide (x = ("append" : Str)) && n == 1
  | .extend => decide (x = ("extend" : Str)) && n == 1
  | .pop0 => decide (x = ("pop" : Str)) && n == 0
  | .popL => decide (x = ("pop" : Str)) && n == 1
  | .clear => decide (x = ("clear" : Str)) && n == 0
  | .reverse => decide (x = ("reverse" : Str)) && n == 0
  | .index => decide (x = ("index" : Str)) && n == 1
  | .count => decide (x = ("count" : Str)) && n == 1
  | .remove => decide (x = ("remove" : Str)) && n == 1
  | .startswith => decide (x = ("startswith" : Str)) && n == 1
  | .join => decide (x = ("join" : Str)) && n == 1
  | .split => decide (x = ("split" : Str)) && n == 1
  | .lower => decide (x = ("lower" : Str)) && n == 0
  | .isalpha => decide (x = ("isalpha" : Str)) && n == 0
  | _ => false
def namesT : List Expr → List Nat → Kx → Bool
  | [], [], _ => true
  | .Name x _ :: es, i :: is, kx => decide (kx.N[i]? = some x) && kx.loc x && namesT es is kx
  | _, _, _ => false
def tgtB (kx : Kx) (tp : Bool) (is : List Nat) (e : Expr) : Bool := match tp, is, e with
  | false, [i], .Name x _ => decide (kx.N[i]? = some x) && kx.loc x
  | true, is, .Tuple es _ _ => namesT es is kx
  | _, _, _ => false
def ownOf (N : List Str) (is : List Nat) : List (Str × Nat) := is.filterMap fun i => N[i]?.map fun x => (x, i)
def isTup : Expr → Bool
  | .Tuple .. => true
  | _ => false
def biCool : Bi → Bool
  | .list_ => false
  | .sum_ => false
  | .all_ => false
  | .min1 => false
  | .min2 => false
  | .max2 => false
  | .sset => false
  | _ => true
def noneE : Expr → Bool
  | .Constant .none _ _ => true
  | _ => false
def isEmp {α : Type} : List α → Bool
  | [] => true
  | _ => false

/-- what a set is made of -/
def setArg : List Expr → List Expr
  | [.Call (.Name _ _) [e] [] _] => [e]
  | _ => []
def biArgs (b : Bi) (es : List Expr) : List Expr := match b with
  | .isi _ => es.take 1
  | .sset => setArg es
  | .len => es
  | .int_ => es
  | .str_ => es
  | .tuple_ => es
  | .list_ => es
  | .sorted_ => es
  | .sum_ => es
  | .all_ => es
  | .min1 => es
  | .min2 => es
  | .max2 => es
def setB (Z : Tb) (kx : Kx) (x : Str) : List Expr → Bool
  | [.Call (.Name y _) [e] [] _] => !isStar e && decide (x = ("sorted" : Str)) && decide (y = ("set" : Str)) && kx.gl y && Z.bl.contains y
  | _ => false
def isiB (Z : Tb) (kx : Kx) (t : Ty) (x : Str) : List Expr → Bool
  | [_, .Name y _] => decide (x = ("isinstance" : Str)) && kx.gl y && Z.bl.contains y && decide (y = (tyN t : Str))
  | _ => false
def biB (Z : Tb) (kx : Kx) (b : Bi) (x : Str) (es : List Expr) : Bool := match b with
  | .isi t => isiB Z kx t x es
  | .sset => setB Z kx x es
  | .len => biN .len x es.length
  | .int_ => biN .int_ x es.length
  | .str_ => biN .str_ x es.length
  | .tuple_ => biN .tuple_ x es.length
  | .list_ => biN .list_ x es.length
  | .sorted_ => biN .sorted_ x es.length
  | .sum_ => biN .sum_ x es.length
  | .all_ => biN .all_ x es.length
  | .min1 => biN .min1 x es.length
  | .min2 => biN .min2 x es.length
  | .max2 => biN .max2 x es.length
def dEq : Val → Val → Bool
  | .non, .non => true
  | .bl a, .bl b => a == b
  | .int a, .int b => a == b
  | .str a, .str b => decide (a = b)
  | _, _ => false
def dsEq : List Val → List Val → Bool
  | [], [] => true
  | a :: as, b :: bs => dEq a b && dsEq as bs
  | _, _ => false
theorem dEq_eq {a b : Val} (h : dEq a b = true) : a = b := by
  cases a <;> cases b <;> simp [dEq] at h <;> first | rfl | (subst h; rfl)
theorem dsEq_eq : ∀ {a b : List Val}, dsEq a b = true → a = b
  | [], [], _ => rfl
  | a :: as, b :: bs, h => by
    simp only [dsEq, Bool.and_eq_true] at h
    rw [dEq_eq h.1, dsEq_eq h.2]
  | [], _ :: _, h => by cases h
  | _ :: _, [], h => by cases h
/-- the defaults that a call fills up with -/
def dsOk (Z : Tb) (f : Nat) (ds : List Val) : Bool := isEmp ds || Z.dss.any fun p => p.1 == f && dsEq p.2 ds
/-- a global constant -/
def gcB (Z : Tb) (kx : Kx) (v : Val) : Expr → Bool
  | .Name x _ => kx.gl x && (match Z.gc.lookup x with | some u => dEq u v | none => false)
  | _ => false
mutual
def okE (Z : Tb) (T : Tab) : Kx → PyE → Expr → Bool
  | kx, .c v, e => cE v e || gcB Z kx v e
  | kx, .var i, e => varE kx i e
  | kx, .bin o a b, e => match e with
    | .BinOp l op r _ => decide (op = opPy o) && okE Z T kx a l && okE Z T kx b r
    | _ => false
  | kx, .neg a, e => match e with
    | .UnaryOp .USub x _ => okE Z T kx a x
    | _ => false
  | kx, .cmp o a b, e => match e with
    | .Compare l [op] [r] _ => decide (op = cmpPy o) && !behindInMarks op r && okE Z T kx a l && okE Z T kx b r
    | _ => false
  | kx, .inK n a ks, e => match e with
    | .Compare l [op] [.Name x _] _ => decide (op = (if n then .NotIn else .In)) && kx.gl x && decide (Z.cst.lookup x = some ks) && okE Z T kx a l
    | _ => false
  | kx, .isN n a, e => match e with
    | .Compare l [op] [r] _ => decide (op = (if n then .IsNot else .Is)) && noneE r && okE Z T kx a l
    | _ => false
  | kx, .isB n a b, e => match e with
    | .Compare l [op] [r] _ => decide (op = (if n then .IsNot else .Is)) && okE Z T kx a l && okE Z T kx b r
    | _ => false
  | kx, .chain o o' a b c, e => match e with
    | .Compare l [op, op'] [r, r'] _ => decide (op = cmpPy o) && decide (op' = cmpPy o') && !lastMarks [op, op'] [r, r'] && okE Z T kx a l && okE Z T kx b r && okE Z T kx c r'
    | _ => false
  | kx, .and a b, e => match e with
    | .BoolOp .And (e1 :: e2 :: rest) pos => okE Z T kx a e1 && (if isEmp rest then okE Z T kx b e2 else okE Z T kx b (.BoolOp .And (e2 :: rest) pos))
    | _ => false
  | kx, .or a b, e => match e with
    | .BoolOp .Or (e1 :: e2 :: rest) pos => okE Z T kx a e1 && (if isEmp rest then okE Z T kx b e2 else okE Z T kx b (.BoolOp .Or (e2 :: rest) pos))
    | _ => false
  | kx, .not a, e => match e with
    | .UnaryOp .Not x _ => okE Z T kx a x
    | _ => false
  | kx, .ite t a b, e => match e with
    | .IfExp x y z _ => okE Z T kx t x && okE Z T kx a y && okE Z T kx b z
    | _ => false
  | kx, .tup a, e => match e with
    | .Tuple es _ _ => okA Z T kx a es
    | _ => false
  | kx, .lst a, e => match e with
    | .List es _ => okA Z T kx a es
    | _ => false
  | kx, .dnewK, e => match e with
    | .Dict [] [] _ => true
    | _ => false
  | kx, .dnewT, e => match e with
    | .Dict [] [] _ => true
    | _ => false
  | kx, .disp a, e => match e with
    | .Dict ks vs _ => !isEmp ks && decide (ks.length ≤ 15) && okP Z T kx a ks vs
    | _ => false
  | kx, .idx a b, e => match e with
    | .Subscript x y _ => !slicish y && okE Z T kx a x && okE Z T kx b y
    | _ => false
  | kx, .sl a hl lo hh hi, e => match e with
    | .Subscript x (.Slice l h none _) _ => okE Z T kx a x && (hl == l.isSome) && (hh == h.isSome) && (match l with | some l => okE Z T kx lo l | none => true) && (match h with | some h => okE Z T kx hi h | none => true)
    | _ => false
  | kx, .fld a f, e => match e with
    | .Attribute o x _ => decide (Z.NM[f]? = some x) && !superish o && okE Z T kx a o
    | _ => false
  | kx, .call f a ds, e => match e with
    | .Call (.Name x _) es [] _ => !kx.hot && kx.gl x && decide (Z.fns.lookup x = some f) && nostar es && okA Z T kx a es && dsOk Z f ds
    | .Call (.Attribute (.Name x _) m apos) es [] pos => !kx.hot && kx.gl x && decide (Z.cfn.lookup (x, m) = some f) && nostar es && !isEmp es && decide (es.length < 30) && (apos.endLine == pos.line) && okA Z T kx a es && dsOk Z f ds
    | _ => false
  | kx, .new c f a ds, e => match e with
    | .Call (.Name x _) es [] _ => !kx.hot && kx.gl x && decide (Z.cls.lookup x = some (c, f)) && nostar es && okA Z T kx a es && dsOk Z f ds
    | _ => false
  | kx, .meth a m n as, e => match e with
    | .Call (.Attribute o x apos) es [] pos => !kx.hot && decide (Z.NM[m]? = some x) && !superish o && nostar es && decide (es.length < 30) && (apos.endLine == pos.line) && decide (es.length = n) && Z.mts.contains (m, n) && (Z.cn.any fun c => (T.mt c m).isSome) && okE Z T kx a o && okA Z T kx as es
    | _ => false
  | kx, .bi b a, e => match e with
    | .Call (.Name x _) es [] _ => (biCool b || !kx.hot) && kx.gl x && Z.bl.contains x && nostar es && okA Z T kx a (biArgs b es) && biB Z kx b x es
    | _ => false
  | kx, .bm m a as, e => match e with
    | .Call (.Attribute o x apos) es [] pos => !superish o && nostar es && decide (es.length < 30) && (apos.endLine == pos.line) && okE Z T kx a o && okA Z T kx as es && (match m with
      | .get1 => decide (x = ("get" : Str)) && es.length == 1
      | .get2 => decide (x = ("get" : Str)) && es.length == 2
      | .popD => decide (x = ("pop" : Str)) && es.length == 1
      | .pop2 => decide (x = ("pop" : Str)) && es.length == 2
      | .setdefault => decide (x = ("setdefault" : Str)) && es.length == 2
      | m => bmN m x es.length)
    | _ => false
  | kx, .comp elt tp is k as cond, e => match e with
    | .ListComp el [⟨tg, iter, ifs, 0⟩] scope _ => !kx.hot && !setish iter && blkC kx.N kx.sc scope (ownOf kx.N is) && decide ((ownOf kx.N is).map (·.2) = is) && tgtB (kx.blk scope) tp is tg && okI Z T kx k as iter tg && okE Z T (kx.blk scope) elt el && (match ifs with
      | [] => (match cond with | .c (.bl true) => true | _ => false)
      | [c] => okE Z T (kx.blk scope) cond c
      | _ => false)
    | _ => false
  | kx, .isC j a, e => match e with
    | .Call (.Name x _) [e1, .Name y _] [] _ => decide (x = ("isinstance" : Str)) && kx.gl x && Z.bl.contains x && !isStar e1 && okE Z T kx a e1 && kx.gl y && decide (Z.isc.lookup y = some j)
    | _ => false
  | kx, .lock _ _ a, e => !testish e && !compish e && okE Z T kx a e
  | _, .nil, _ => true
  | _, .cons _ _, _ => false
def okA (Z : Tb) (T : Tab) : Kx → PyE → List Expr → Bool
  | kx, .nil, es => isEmp es
  | kx, .cons a b, es => match es with
    | e :: es => !isStar e && okE Z T kx a e && okA Z T kx b es
    | [] => false
  | _, _, _ => false
def okP (Z : Tb) (T : Tab) : Kx → PyE → List (Option Expr) → List Expr → Bool
  | kx, .nil, ks, vs => isEmp ks && isEmp vs
  | kx, .cons a b, ks, vs => match ks with
    | some k :: ks => okE Z T kx a k && okQ Z T kx b ks vs
    | _ => false
  | _, _, _, _ => false
def okQ (Z : Tb) (T : Tab) : Kx → PyE → List (Option Expr) → List Expr → Bool
  | kx, .cons a b, ks, vs => match vs with
    | v :: vs => okE Z T kx a v && okP Z T kx b ks vs
    | _ => false
  | _, _, _, _ => false
def okI (Z : Tb) (T : Tab) : Kx → ItK → PyE → Expr → Expr → Bool
  | kx, k, .cons a b, iter, tg => match k with
    | .val => (match b with | .nil => okE Z T kx a iter | _ => false)
    | .range => (match iter with
      | .Call (.Name x _) (e :: es) [] _ => decide (x = ("range" : Str)) && kx.gl x && Z.bl.contains x && !isStar e && okE Z T kx a e && okA Z T kx b es && decide (es.length ≤ 1) && nostar es
      | _ => false)
    | .enm => (match iter with
      | .Call (.Name x _) (e :: es) [] _ => decide (x = ("enumerate" : Str)) && kx.gl x && Z.bl.contains x && !isStar e && okE Z T kx a e && okA Z T kx b es && isEmp es && isTup tg
      | _ => false)
    | .zp => (match iter with
      | .Call (.Name x _) (e :: es) [] _ => decide (x = ("zip" : Str)) && kx.gl x && Z.bl.contains x && !isStar e && okE Z T kx a e && okA Z T kx b es && decide (es.length = 1) && isTup tg && nostar es
      | _ => false)
    | .keys => (match b with | .nil => okE Z T kx a iter | _ => false)
    | .items => (match b, iter with
      | .nil, .Call (.Attribute o x apos) [] [] cpos => decide (x = ("items" : Str)) && !superish o && (apos.endLine == cpos.line) && isTup tg && okE Z T kx a o
      | _, _ => false)
    | .rvr => (match b, iter with
      | .nil, .Call (.Name x _) [.Call (.Name y _) [e] [] _] [] _ => decide (x = ("reversed" : Str)) && kx.gl x && Z.bl.contains x && decide (y = ("range" : Str)) && kx.gl y && Z.bl.contains y && !isStar e && okE Z T kx a e
      | _, _ => false)
    | .rv => (match iter with
      | .Call (.Name x _) (e :: es) [] _ => decide (x = ("reversed" : Str)) && kx.gl x && Z.bl.contains x && !isStar e && okE Z T kx a e && okA Z T kx b es && isEmp es
      | _ => false)
  | _, _, _, _, _ => false
end
end Nw

set_option Elab.async false
set_option linter.all false
set_option maxRecDepth 100000
set_option maxHeartbeats 4000000
namespace Nw
open PySem L2

structure Sx (Z : Tb) (T : Tab) (G : Cfg) (ft : Fns) (k : Nat) (X : Cx) : Prop where
  hK : G.K = X.K
  hNM : G.NM = Z.NM
  hN : X.N.Nodup
  hu : X.A.units + 65 < cLine
  fld : ClsOk G T
  bl : ∀ x, Z.bl.contains x = true → X.mg x = none
  fns : ∀ x f, Z.fns.lookup x = some f → ∃ fa fd ps, X.mg x = some (.ref fa) ∧ PySem.W.keepIn X.K (.ref fa) = true ∧ FnOk X.prog X.w X.K X.mg X.base (L2.CX X.prog X.w) k fa fd ps (SpF G ft f) ∧ ∀ ds, dsOk Z f ds = true → DefsOk X.K fd ps ds
  cls : ∀ x c f, Z.cls.lookup x = some (c, f) → ∃ fa fd ps, X.mg x = some (.ref (G.ca c)) ∧ Mk X.K (G.ca c) fa ∧ FnOk X.prog X.w X.K X.mg X.base (L2.CX X.prog X.w) k fa fd ps (SpF G ft f) ∧ ∀ ds, dsOk Z f ds = true → DefsOk X.K fd ps ds
  cst : ∀ x ks, Z.cst.lookup x = some ks → ∃ p, X.mg x = some (.ref p) ∧ ∀ H, SqT X.K H p (ks.map V.str)
  mts : ∀ m n c fds, Z.mts.contains (m, n) = true → T.mt c m = some fds → MethOk X G T ft k m n c fds
  exs : ∀ x c, Z.exs.lookup x = some c → X.mg x = some (.ref (G.ca c))
  exr : ∀ c, Z.exr.contains c = true → PySem.W.keepIn X.K (.ref (G.ca c)) = true ∧ Raises X (.ref (G.ca c)) ∧ ∃ B newId initId bmB, ExcBaseFacts B newId initId bmB ∧ PySem.W.excIn X.K (G.ca c) bmB newId = true
  cat : ∀ j c b, T.catches j c = some b → PySem.W.exmOne X.K (.ref (G.ca c)) (.ref (G.ca j)) = some b
  gc : ∀ x v, Z.gc.lookup x = some v → ∃ u, X.mg x = some u ∧ RelV (cV v) u ∧ cOk v = true
  cfn : ∀ x m f, Z.cfn.lookup (x, m) = some f → ∃ C fa fd ps, X.mg x = some (.ref C) ∧ ClX.CRead X.K C (.type "type") ∧ ClX.CVal X.K C (.type "type") m (.ref fa) (.ref fa) ∧ PySem.W.keepIn X.K (.ref fa) = true ∧ FnOk X.prog X.w X.K X.mg X.base (L2.CX X.prog X.w) k fa fd ps (SpF G ft f) ∧ ∀ ds, dsOk Z f ds = true → DefsOk X.K fd ps ds
  isi : ∀ y j, Z.isc.lookup y = some j → X.mg y = some (.ref (G.ca j)) ∧ ∀ c b, T.isI j c = some b → InsI X.K (G.ca c) ∧ PySem.W.kitOne X.K (.ref (G.ca c)) (.ref (G.ca j)) = some b
structure Ev (kx : Kx) (k : Nat) (X : Cx) : Prop where
  N : X.N = kx.N
  sc : X.env.scope = kx.sc
  fn : X.fn = kx.fnB
  cool : kx.hot = false → Room (k + 1) X.A ∧ X.calm = true

section
variable {Z : Tb} {T : Tab} {G : Cfg} {ft : Fns} {k : Nat} {X : Cx} {kx : Kx} {W : WX}
theorem Sx.blk (h : Sx Z T G ft k X) (s : Shared) (H : Hp) (scope : Scope) (cenv : PySem.Env) (fp : List Addr) : Sx Z T G ft k (X.blk s H scope cenv fp) :=
  ⟨h.hK, h.hNM, h.hN, h.hu, h.fld, h.bl, h.fns, h.cls, h.cst, fun m n c fds h1 h2 => ⟨(h.mts m n c fds h1 h2).ok⟩, h.exs, h.exr, h.cat, h.gc, h.cfn, h.isi⟩
theorem Ev.blk (h : Ev kx k X) (s : Shared) (H : Hp) (scope : Scope) (cl : List (Str × Addr)) (C : Addr) (fp : List Addr) : Ev (kx.blk scope) k (X.blk s H scope (compEnvC scope cl C X.env) fp) :=
  ⟨h.N, by show relS scope X.env.scope = relS scope kx.sc; rw [h.sc], rfl, h.cool⟩
theorem Ev.lk (h : Ev kx k X) (x : Str) : X.env.scope.names.lookup x = kx.lk x := by rw [h.sc]; rfl
theorem Ev.vis (h : Ev kx k X) {x : Str} (v : kx.vis x = true) : Vis X.env.scope x := by
  unfold Vis
  rw [h.lk x]
  unfold Kx.vis at v
  split at v <;> first | (rename_i e; rw [e]; simp; done) | cases v
theorem Ev.gl (h : Ev kx k X) {x : Str} (v : kx.gl x = true) : Gl X x ∧ (x == ("__debug__" : Str)) = false := by
  unfold Gl
  show X.env.scope.names.lookup x = _ ∧ _
  rw [h.lk x]
  unfold Kx.gl at v
  split at v
  · rename_i e; exact ⟨e, by simpa using v⟩
  · cases v
theorem Ev.loc (h : Ev kx k X) {x : Str} (v : kx.loc x = true) : L2.Loc X.env.scope x ∧ (X.fn x = true ∨ X.env.scope.names.lookup x = some .local) := by
  unfold L2.Loc
  rw [h.lk x, h.fn]
  unfold Kx.loc at v
  split at v
  · rename_i e; rw [e]; exact ⟨.inl rfl, .inr rfl⟩
  · rename_i e; rw [e]; exact ⟨.inr rfl, .inl v⟩
  · cases v
theorem Ev.ix (h : Ev kx k X) {i : Nat} {x : Str} (v : kx.N[i]? = some x) : X.N[i]? = some x := by rw [h.N]; exact v
theorem Sx.nm (h : Sx Z T G ft k X) {f : Nat} {x : Str} (v : Z.NM[f]? = some x) : G.nm f = x ∧ f < G.NM.length := by
  rw [← h.hNM] at v
  exact ⟨by unfold Cfg.nm; rw [List.getD_eq_getElem?_getD, v]; rfl, (List.getElem?_eq_some_iff.mp v).1⟩

theorem dt_ite {c a b : Expr} {pc pa pb : PyE} {pos : Pos} (hc : PT X c (liftT G W (tst (ev T ft pc)))) (ha : PT X a (liftT G W (tst (ev T ft pa)))) (hb : PT X b (liftT G W (tst (ev T ft pb)))) : PT X (.IfExp c a b pos) (liftT G W (tst (ev T ft (.ite pc pa pb)))) := by
  refine ⟨fun pins s σ H Q I h => ?_⟩
  have h2 := tst_fst (t := fun _ env S1 => ev T ft pa env S1) (f := fun _ env S1 => ev T ft pb env S1) (by
    have e : (fun env S => (ev T ft pc env S).bind fun x S1 => ifV x S1 (ev T ft pa env S1) (ev T ft pb env S1)) = ev T ft (.ite pc pa pb) := by
      funext env S; simp only [ev]
    rw [e]; exact h)
  show wpAny _ _ (do if ← isTrue c X.env (eval c X.env) then isTrue a X.env (eval a X.env) else isTrue b X.env (eval b X.env)) _ _ _
  refine wpAny_bind (thn (hc.run pins s σ H _ I h2) fun d s1 ⟨H1, I1, μ, env, x, S, sm, e, et, q⟩ => ?_)
  cases d with
  | true => exact ha.run pins s1 σ H1 Q I1 ⟨μ, env, S, sm, e, q⟩
  | false => exact hb.run pins s1 σ H1 Q I1 ⟨μ, env, S, sm, e, q⟩
theorem pw_bool {op : PySem.BoolOp} {es : List Expr} {pos : Pos} {t : TT} (h : PT X (.BoolOp op es pos) t) : PW X (.BoolOp op es pos) t := ⟨fun _ pins s σ H Q I q => h.run pins s σ H Q I q⟩

/-- an expression, as a value and as a test -/
def GE (Z : Tb) (T : Tab) (G : Cfg) (ft : Fns) (k : Nat) (p : PyE) : Prop := ∀ kx X W e, Sx Z T G ft k X → Ev kx k X → Takes X W → okE Z T kx p e = true → PE X e (lift G W (ev T ft p)) ∧ PT X e (liftT G W (tst (ev T ft p)))
def GA (Z : Tb) (T : Tab) (G : Cfg) (ft : Fns) (k : Nat) (p : PyE) : Prop := ∀ kx X W es, Sx Z T G ft k X → Ev kx k X → Takes X W → okA Z T kx p es = true → PA X es (liftA G W (evA T ft p))
def GP (Z : Tb) (T : Tab) (G : Cfg) (ft : Fns) (k : Nat) (p : PyE) : Prop := ∀ kx X W ks vs, Sx Z T G ft k X → Ev kx k X → Takes X W → okP Z T kx p ks vs = true → DispL G W X T ft ks vs p
structure Gd (Z : Tb) (T : Tab) (G : Cfg) (ft : Fns) (k : Nat) (p : PyE) : Prop where
  ge : GE Z T G ft k p
  ga : GA Z T G ft k p
  gp : GP Z T G ft k p
  hd : ∀ a b, p = PyE.cons a b → GE Z T G ft k a ∧ GA Z T G ft k b ∧ GP Z T G ft k b ∧ ∀ c d, b = PyE.cons c d → GE Z T G ft k c ∧ GP Z T G ft k d ∧ GA Z T G ft k d

/-- no test form -/
theorem both (hx : Sx Z T G ft k X) {e : Expr} {p : PyE} (h : PE X e (lift G W (ev T ft p))) (ht : testish e = false) : PE X e (lift G W (ev T ft p)) ∧ PT X e (liftT G W (tst (ev T ft p))) := ⟨h, dt_any hx.hK h (true_of ht)⟩
theorem Gd.of {p : PyE} (e : GE Z T G ft k p) (ha : ∀ kx es, okA Z T kx p es = false) (hp : ∀ kx ks vs, okP Z T kx p ks vs = false) (hn : ∀ a b, p ≠ PyE.cons a b) : Gd Z T G ft k p :=
  ⟨e, fun kx X W es _ _ _ h => (by rw [ha] at h; exact Bool.noConfusion h), fun kx X W ks vs _ _ _ h => (by rw [hp] at h; exact Bool.noConfusion h), fun a b h => absurd h (hn a b)⟩

theorem cE_ok {v : Val} {e : Expr} (h : cE v e = true) : cOk v = true ∧ PE X e (tC (cV v)) ∧ testish e = false := by
  unfold cE at h
  split at h
  · split at h
    · exact ⟨rfl, pe_non, rfl⟩
    · cases h
  · split at h
    · have := eq_of_beq h; subst this; exact ⟨rfl, pe_bl, rfl⟩
    · cases h
  · split at h
    · have := eq_of_beq h; subst this; exact ⟨rfl, pe_int, rfl⟩
    · cases h
  · split at h
    · simp only [Bool.and_eq_true, decide_eq_true_eq] at h
      obtain ⟨h1, h2⟩ := h
      subst h1
      exact ⟨h2, pe_str, rfl⟩
    · cases h
  · cases h
theorem g_c (v : Val) : Gd Z T G ft k (.c v) := Gd.of (fun kx X W e hx hv tk h => by
  simp only [okE, Bool.or_eq_true] at h
  rcases h with h | h
  · obtain ⟨h1, h2, h3⟩ := cE_ok (X := X) h
    exact both hx (by have := de_c (G := G) (W := W) h1 h2; simpa only [ev] using this) h3
  · unfold gcB at h
    split at h
    · rename_i x p
      simp only [Bool.and_eq_true] at h
      obtain ⟨h1, h2⟩ := h
      split at h2
      · rename_i u hu
        obtain rfl := dEq_eq h2
        obtain ⟨g1, g2⟩ := hv.gl h1
        obtain ⟨u', q1, q2, q3⟩ := hx.gc _ _ hu
        have hb : PE X (.Name x p) (tC (cV u)) := pe_glob g1 q1 q2 g2
        exact both hx (by have := de_c (G := G) (W := W) q3 hb; simpa only [ev] using this) rfl
      · cases h2
    · cases h) (fun _ _ => rfl) (fun _ _ _ => rfl) (fun _ _ h => by cases h)
theorem g_var (i : Nat) : Gd Z T G ft k (.var i) := Gd.of (fun kx X W e hx hv tk h => by
  simp only [okE] at h
  unfold varE at h
  split at h
  · simp only [Bool.and_eq_true, decide_eq_true_eq] at h
    obtain ⟨⟨h1, h2⟩, h3⟩ := h
    unfold posOk at h3
    simp only [Bool.and_eq_true, Bool.not_eq_true'] at h3
    exact both hx (de_var (pe_var (hv.ix h1) (hv.vis h2) h3.1 h3.2)) rfl
  · cases h) (fun _ _ => rfl) (fun _ _ _ => rfl) (fun _ _ h => by cases h)
theorem g_bin (o : BinO) {a b : PyE} (ha : Gd Z T G ft k a) (hb : Gd Z T G ft k b) : Gd Z T G ft k (.bin o a b) := Gd.of (fun kx X W e hx hv tk h => by
  simp only [okE] at h
  split at h
  · simp only [Bool.and_eq_true, decide_eq_true_eq] at h
    obtain ⟨⟨h1, h2⟩, h3⟩ := h
    subst h1
    exact both hx (de_bin o hx.hK (ha.ge kx X W _ hx hv tk h2).1 (hb.ge kx X W _ hx hv tk h3).1) rfl
  · cases h) (fun _ _ => rfl) (fun _ _ _ => rfl) (fun _ _ h => by cases h)
theorem g_neg {a : PyE} (ha : Gd Z T G ft k a) : Gd Z T G ft k (.neg a) := Gd.of (fun kx X W e hx hv tk h => by
  simp only [okE] at h
  split at h
  · exact both hx (de_neg (ha.ge kx X W _ hx hv tk h).1) rfl
  · cases h) (fun _ _ => rfl) (fun _ _ _ => rfl) (fun _ _ h => by cases h)
theorem g_cmp (o : CmpO) {a b : PyE} (ha : Gd Z T G ft k a) (hb : Gd Z T G ft k b) : Gd Z T G ft k (.cmp o a b) := Gd.of (fun kx X W e hx hv tk h => by
  simp only [okE] at h
  split at h
  · simp only [Bool.and_eq_true, decide_eq_true_eq, Bool.not_eq_true'] at h
    obtain ⟨⟨⟨h1, h2⟩, h3⟩, h4⟩ := h
    subst h1
    exact ⟨de_cmp hx.hu hx.hK o (ha.ge kx X W _ hx hv tk h3).1 (hb.ge kx X W _ hx hv tk h4).1 h2, dt_cmp hx.hu hx.hK o (ha.ge kx X W _ hx hv tk h3).1 (hb.ge kx X W _ hx hv tk h4).1 h2⟩
  · cases h) (fun _ _ => rfl) (fun _ _ _ => rfl) (fun _ _ h => by cases h)
theorem g_inK (n : Bool) (ks : List Str) {a : PyE} (ha : Gd Z T G ft k a) : Gd Z T G ft k (.inK n a ks) := Gd.of (fun kx X W e hx hv tk h => by
  simp only [okE] at h
  split at h
  · rename_i l op x p1 p2
    simp only [Bool.and_eq_true, decide_eq_true_eq] at h
    obtain ⟨⟨⟨h1, h2⟩, h3⟩, h4⟩ := h
    subst h1
    obtain ⟨g1, g2⟩ := hv.gl h2
    obtain ⟨p, q1, q2⟩ := hx.cst _ _ h3
    have hb : PE X (.Name x p1) (tC (.ref p)) := pe_glob g1 q1 rfl g2
    exact ⟨de_inK n q2 (ha.ge kx X W _ hx hv tk h4).1 hb rfl, dt_inK n q2 (ha.ge kx X W _ hx hv tk h4).1 hb rfl⟩
  · cases h) (fun _ _ => rfl) (fun _ _ _ => rfl) (fun _ _ h => by cases h)
theorem noneE_ok {r : Expr} (h : noneE r = true) : ∃ j p, r = .Constant .none j p := by
  unfold noneE at h
  split at h
  · exact ⟨_, _, rfl⟩
  · cases h
theorem g_isN (n : Bool) {a : PyE} (ha : Gd Z T G ft k a) : Gd Z T G ft k (.isN n a) := Gd.of (fun kx X W e hx hv tk h => by
  simp only [okE] at h
  split at h
  · simp only [Bool.and_eq_true, decide_eq_true_eq] at h
    obtain ⟨⟨h1, h2⟩, h3⟩ := h
    subst h1
    obtain ⟨j, p, rfl⟩ := noneE_ok h2
    cases n with
    | true => exact ⟨de_notN (ha.ge kx X W _ hx hv tk h3).1, dt_notN (ha.ge kx X W _ hx hv tk h3).1⟩
    | false => exact ⟨de_isN (ha.ge kx X W _ hx hv tk h3).1, dt_isN (ha.ge kx X W _ hx hv tk h3).1⟩
  · cases h) (fun _ _ => rfl) (fun _ _ _ => rfl) (fun _ _ h => by cases h)
theorem g_isB (n : Bool) {a b : PyE} (ha : Gd Z T G ft k a) (hb : Gd Z T G ft k b) : Gd Z T G ft k (.isB n a b) := Gd.of (fun kx X W e hx hv tk h => by
  simp only [okE] at h
  split at h
  · simp only [Bool.and_eq_true, decide_eq_true_eq] at h
    obtain ⟨⟨h1, h2⟩, h3⟩ := h
    subst h1
    cases n with
    | true => exact ⟨de_notB hx.hK (ha.ge kx X W _ hx hv tk h2).1 (hb.ge kx X W _ hx hv tk h3).1, dt_notB hx.hK (ha.ge kx X W _ hx hv tk h2).1 (hb.ge kx X W _ hx hv tk h3).1⟩
    | false => exact ⟨de_isB hx.hK (ha.ge kx X W _ hx hv tk h2).1 (hb.ge kx X W _ hx hv tk h3).1, dt_isB hx.hK (ha.ge kx X W _ hx hv tk h2).1 (hb.ge kx X W _ hx hv tk h3).1⟩
  · cases h) (fun _ _ => rfl) (fun _ _ _ => rfl) (fun _ _ h => by cases h)
theorem g_chain (o o' : CmpO) {a b c : PyE} (ha : Gd Z T G ft k a) (hb : Gd Z T G ft k b) (hc : Gd Z T G ft k c) : Gd Z T G ft k (.chain o o' a b c) := Gd.of (fun kx X W e hx hv tk h => by
  simp only [okE] at h
  split at h
  · simp only [Bool.and_eq_true, decide_eq_true_eq, Bool.not_eq_true'] at h
    obtain ⟨⟨⟨⟨⟨h1, h2⟩, h3⟩, h4⟩, h5⟩, h6⟩ := h
    subst h1 h2
    exact ⟨de_chain hx.hu hx.hK o o' (ha.ge kx X W _ hx hv tk h4).1 (hb.ge kx X W _ hx hv tk h5).1 (hc.ge kx X W _ hx hv tk h6).1 h3, dt_chain hx.hu hx.hK o o' (ha.ge kx X W _ hx hv tk h4).1 (hb.ge kx X W _ hx hv tk h5).1 (hc.ge kx X W _ hx hv tk h6).1 h3⟩
  · cases h) (fun _ _ => rfl) (fun _ _ _ => rfl) (fun _ _ h => by cases h)
theorem isEmp_nil {α : Type} {l : List α} (h : isEmp l = true) : l = [] := by
  cases l with
  | nil => rfl
  | cons _ _ => cases h
theorem g_and {a b : PyE} (ha : Gd Z T G ft k a) (hb : Gd Z T G ft k b) : Gd Z T G ft k (.and a b) := Gd.of (fun kx X W e hx hv tk h => by
  simp only [okE] at h
  split at h
  · simp only [Bool.and_eq_true] at h
    obtain ⟨h1, h2⟩ := h
    have A := ha.ge kx X W _ hx hv tk h1
    split at h2
    · rename_i he
      obtain rfl := isEmp_nil he
      have B := hb.ge kx X W _ hx hv tk h2
      exact ⟨de_and hx.hK A.1 (pe_one B.1), (dw_and A.2 (pw_and1 B.2)).pt⟩
    · have B := hb.ge kx X W _ hx hv tk h2
      exact ⟨de_and hx.hK A.1 B.1, (dw_and A.2 (pw_bool B.2)).pt⟩
  · cases h) (fun _ _ => rfl) (fun _ _ _ => rfl) (fun _ _ h => by cases h)
theorem g_or {a b : PyE} (ha : Gd Z T G ft k a) (hb : Gd Z T G ft k b) : Gd Z T G ft k (.or a b) := Gd.of (fun kx X W e hx hv tk h => by
  simp only [okE] at h
  split at h
  · simp only [Bool.and_eq_true] at h
    obtain ⟨h1, h2⟩ := h
    have A := ha.ge kx X W _ hx hv tk h1
    split at h2
    · rename_i he
      obtain rfl := isEmp_nil he
      have B := hb.ge kx X W _ hx hv tk h2
      exact ⟨de_or hx.hK A.1 (pe_one B.1), (dw_or A.2 (pw_or1 B.2)).pt⟩
    · have B := hb.ge kx X W _ hx hv tk h2
      exact ⟨de_or hx.hK A.1 B.1, (dw_or A.2 (pw_bool B.2)).pt⟩
  · cases h) (fun _ _ => rfl) (fun _ _ _ => rfl) (fun _ _ h => by cases h)
theorem g_not {a : PyE} (ha : Gd Z T G ft k a) : Gd Z T G ft k (.not a) := Gd.of (fun kx X W e hx hv tk h => by
  simp only [okE] at h
  split at h
  · have A := ha.ge kx X W _ hx hv tk h
    exact ⟨de_not hx.hK A.1, dt_not A.2⟩
  · cases h) (fun _ _ => rfl) (fun _ _ _ => rfl) (fun _ _ h => by cases h)
theorem g_ite {t a b : PyE} (ht : Gd Z T G ft k t) (ha : Gd Z T G ft k a) (hb : Gd Z T G ft k b) : Gd Z T G ft k (.ite t a b) := Gd.of (fun kx X W e hx hv tk h => by
  simp only [okE] at h
  split at h
  · simp only [Bool.and_eq_true] at h
    obtain ⟨⟨h1, h2⟩, h3⟩ := h
    have C := ht.ge kx X W _ hx hv tk h1
    have A := ha.ge kx X W _ hx hv tk h2
    have B := hb.ge kx X W _ hx hv tk h3
    exact ⟨de_ite C.2 A.1 B.1, dt_ite C.2 A.2 B.2⟩
  · cases h) (fun _ _ => rfl) (fun _ _ _ => rfl) (fun _ _ h => by cases h)
theorem g_tup {a : PyE} (ha : Gd Z T G ft k a) : Gd Z T G ft k (.tup a) := Gd.of (fun kx X W e hx hv tk h => by
  simp only [okE] at h
  split at h
  · exact both hx (de_tup (ha.ga kx X W _ hx hv tk h)) rfl
  · cases h) (fun _ _ => rfl) (fun _ _ _ => rfl) (fun _ _ h => by cases h)
theorem g_lst {a : PyE} (ha : Gd Z T G ft k a) : Gd Z T G ft k (.lst a) := Gd.of (fun kx X W e hx hv tk h => by
  simp only [okE] at h
  split at h
  · exact both hx (de_lst (ha.ga kx X W _ hx hv tk h)) rfl
  · cases h) (fun _ _ => rfl) (fun _ _ _ => rfl) (fun _ _ h => by cases h)
theorem g_dnewK : Gd Z T G ft k .dnewK := Gd.of (fun kx X W e hx hv tk h => by
  simp only [okE] at h
  split at h
  · exact both hx de_dnewK rfl
  · cases h) (fun _ _ => rfl) (fun _ _ _ => rfl) (fun _ _ h => by cases h)
theorem g_dnewT : Gd Z T G ft k .dnewT := Gd.of (fun kx X W e hx hv tk h => by
  simp only [okE] at h
  split at h
  · exact both hx de_dnewT rfl
  · cases h) (fun _ _ => rfl) (fun _ _ _ => rfl) (fun _ _ h => by cases h)
theorem g_disp {a : PyE} (ha : Gd Z T G ft k a) : Gd Z T G ft k (.disp a) := Gd.of (fun kx X W e hx hv tk h => by
  simp only [okE] at h
  split at h
  · simp only [Bool.and_eq_true, decide_eq_true_eq, Bool.not_eq_true'] at h
    obtain ⟨⟨h1, h2⟩, h3⟩ := h
    exact both hx (de_disp (ha.gp kx X W _ _ hx hv tk h3) (fun z => by rw [z] at h1; cases h1) h2) rfl
  · cases h) (fun _ _ => rfl) (fun _ _ _ => rfl) (fun _ _ h => by cases h)
theorem g_idx {a b : PyE} (ha : Gd Z T G ft k a) (hb : Gd Z T G ft k b) : Gd Z T G ft k (.idx a b) := Gd.of (fun kx X W e hx hv tk h => by
  simp only [okE] at h
  split at h
  · simp only [Bool.and_eq_true, Bool.not_eq_true'] at h
    obtain ⟨⟨h1, h2⟩, h3⟩ := h
    exact both hx (de_idx (by have := hx.hu; omega) hx.hK (ha.ge kx X W _ hx hv tk h2).1 (hb.ge kx X W _ hx hv tk h3).1 (plainIx_of h1)) rfl
  · cases h) (fun _ _ => rfl) (fun _ _ _ => rfl) (fun _ _ h => by cases h)
theorem g_fld (f : Nat) {a : PyE} (ha : Gd Z T G ft k a) : Gd Z T G ft k (.fld a f) := Gd.of (fun kx X W e hx hv tk h => by
  simp only [okE] at h
  split at h
  · simp only [Bool.and_eq_true, decide_eq_true_eq, Bool.not_eq_true'] at h
    obtain ⟨⟨h1, h2⟩, h3⟩ := h
    exact both hx (de_fld hx.fld hx.hK (hx.nm h1).1 (ha.ge kx X W _ hx hv tk h3).1 (base_of h2)) rfl
  · cases h) (fun _ _ => rfl) (fun _ _ _ => rfl) (fun _ _ h => by cases h)
theorem g_sl {a lo hi : PyE} (hl hh : Bool) (ha : Gd Z T G ft k a) (hlo : Gd Z T G ft k lo) (hhi : Gd Z T G ft k hi) : Gd Z T G ft k (.sl a hl lo hh hi) := Gd.of (fun kx X W e hx hv tk h => by
  simp only [okE] at h
  split at h
  · rename_i x l r p2 p
    simp only [Bool.and_eq_true, beq_iff_eq] at h
    obtain ⟨⟨⟨⟨h1, e1⟩, e2⟩, h2⟩, h3⟩ := h
    subst e1 e2
    cases l with
    | none => cases r with
      | none => exact both hx (de_sl (hl := false) (hh := false) hx.hK (ha.ge kx X W _ hx hv tk h1).1 do_none do_none) rfl
      | some r => exact both hx (de_sl (hl := false) (hh := true) hx.hK (ha.ge kx X W _ hx hv tk h1).1 do_none (do_some (hhi.ge kx X W _ hx hv tk h3).1)) rfl
    | some l => cases r with
      | none => exact both hx (de_sl (hl := true) (hh := false) hx.hK (ha.ge kx X W _ hx hv tk h1).1 (do_some (hlo.ge kx X W _ hx hv tk h2).1) do_none) rfl
      | some r => exact both hx (de_sl (hl := true) (hh := true) hx.hK (ha.ge kx X W _ hx hv tk h1).1 (do_some (hlo.ge kx X W _ hx hv tk h2).1) (do_some (hhi.ge kx X W _ hx hv tk h3).1)) rfl
  · cases h) (fun _ _ => rfl) (fun _ _ _ => rfl) (fun _ _ h => by cases h)
theorem g_nil : Gd Z T G ft k .nil := ⟨fun kx X W e hx hv tk h => ⟨never fun σ H Q ⟨μ, env, S, s, e, h⟩ => by simp only [ev] at h; exact h, ⟨fun pins s σ H Q I ⟨μ, env, S, sm, e, h⟩ => by unfold tst at h; simp only [ev, Res.bind_no] at h; exact h.elim⟩⟩,
  fun kx X W es hx hv tk h => by simp only [okA] at h; rw [isEmp_nil h]; exact da_nil,
  fun kx X W ks vs hx hv tk h => by simp only [okP, Bool.and_eq_true] at h; rw [isEmp_nil h.1, isEmp_nil h.2]; exact .nil,
  fun a b h => by cases h⟩
theorem g_cons {a b : PyE} (ha : Gd Z T G ft k a) (hb : Gd Z T G ft k b) : Gd Z T G ft k (.cons a b) where
  ge := fun kx X W e hx hv tk h => by simp only [okE] at h; cases h
  ga := fun kx X W es hx hv tk h => by
    simp only [okA] at h
    split at h
    · simp only [Bool.and_eq_true, Bool.not_eq_true'] at h
      obtain ⟨⟨h1, h2⟩, h3⟩ := h
      exact da_cons (ha.ge kx X W _ hx hv tk h2).1 (hb.ga kx X W _ hx hv tk h3) (star_cons h1)
    · cases h
  gp := fun kx X W ks vs hx hv tk h => by
    simp only [okP] at h
    split at h
    · simp only [Bool.and_eq_true] at h
      obtain ⟨h1, h2⟩ := h
      cases b with
      | cons c d =>
        simp only [okQ] at h2
        split at h2
        · simp only [Bool.and_eq_true] at h2
          obtain ⟨h2, h3⟩ := h2
          obtain ⟨q1, q2, q3, q4⟩ := hb.hd c d rfl
          exact .cons (ha.ge kx X W _ hx hv tk h1).1 (q1 kx X W _ hx hv tk h2).1 (q3 kx X W _ _ hx hv tk h3)
        · cases h2
      | _ => simp [okQ] at h2
    · cases h
  hd := fun a' b' h => by
    cases h
    exact ⟨ha.ge, hb.ga, hb.gp, fun c d h => let ⟨q1, q2, q3, q4⟩ := hb.hd c d h; ⟨q1, q3, q2⟩⟩
end
end Nw

set_option Elab.async false
set_option linter.all false
set_option maxRecDepth 100000
set_option maxHeartbeats 4000000
namespace Nw
open PySem L2
section
variable {Z : Tb} {T : Tab} {G : Cfg} {ft : Fns} {k : Nat} {X : Cx} {kx : Kx} {W : WX}

theorem Ev.room (h : Ev kx k X) (h0 : kx.hot = false) : Room (k + 1) X.A := (h.cool h0).1
theorem Ev.room0 (h : Ev kx k X) (h0 : kx.hot = false) : Room k X.A := (h.cool h0).1.mono (Nat.le_succ k)
theorem Ev.calm (h : Ev kx k X) (h0 : kx.hot = false) : X.calm = true := (h.cool h0).2
theorem nostar_hd {e : Expr} {es : List Expr} (h : nostar (e :: es) = true) : isStar e = false ∧ nostar es = true := by
  unfold nostar at h ⊢
  simp only [List.all_cons, Bool.and_eq_true, Bool.not_eq_true'] at h
  exact h
theorem okA_nil {a : PyE} {Z : Tb} {T : Tab} {kx : Kx} (h : okA Z T kx a [] = true) : a = .nil := by
  cases a with
  | nil => rfl
  | cons _ _ => simp [okA] at h
  | _ => simp [okA] at h
theorem okA_cons {a : PyE} {Z : Tb} {T : Tab} {kx : Kx} {e : Expr} {es : List Expr} (h : okA Z T kx a (e :: es) = true) : ∃ p q, a = .cons p q ∧ isStar e = false ∧ okE Z T kx p e = true ∧ okA Z T kx q es = true := by
  cases a with
  | cons p q =>
    simp only [okA, Bool.and_eq_true, Bool.not_eq_true'] at h
    exact ⟨p, q, rfl, h.1.1, h.1.2, h.2⟩
  | nil => simp [okA, isEmp] at h
  | _ => simp [okA] at h
theorem g_call (f : Nat) (ds : List Val) {a : PyE} (ha : Gd Z T G ft k a) : Gd Z T G ft k (.call f a ds) := Gd.of (fun kx X W e hx hv tk h => by
  simp only [okE] at h
  split at h
  · rename_i x p1 es p2
    simp only [Bool.and_eq_true, decide_eq_true_eq, Bool.not_eq_true'] at h
    obtain ⟨⟨⟨⟨⟨h0, h1⟩, h2⟩, h3⟩, h4⟩, h5⟩ := h
    obtain ⟨g1, g2⟩ := hv.gl h1
    obtain ⟨fa, fd, ps, q1, q2, q3, q4⟩ := hx.fns x f h2
    have A := ha.ga kx X W _ hx hv tk h4
    cases es with
    | nil =>
      obtain rfl := okA_nil h4
      exact both hx (de_call0 q3 tk (hv.room0 h0) g1 q1 q2 (q4 ds h5) g2) rfl
    | cons e es =>
      obtain ⟨s1, s2⟩ := nostar_hd h3
      exact both hx (de_call q3 tk (hv.room0 h0) g1 q1 q2 (q4 ds h5) A g2 (star_cons s1) (star_plain s2).1) rfl
  · rename_i x p1 m apos es pos
    simp only [Bool.and_eq_true, decide_eq_true_eq, Bool.not_eq_true'] at h
    obtain ⟨⟨⟨⟨⟨⟨⟨⟨h0, h1⟩, h2⟩, h3⟩, h6⟩, h7⟩, h8⟩, h4⟩, h5⟩ := h
    obtain ⟨g1, g2⟩ := hv.gl h1
    obtain ⟨C, fa, fd, ps, q1, q2, q3, q4, q5, q6⟩ := hx.cfn x m f h2
    have A := ha.ga kx X W _ hx hv tk h4
    cases es with
    | nil => cases h6
    | cons e es =>
      obtain ⟨s1, s2⟩ := nostar_hd h3
      exact both hx (de_cls q2 q3 q5 tk (hv.room0 h0) g1 q1 q4 (q6 ds h5) A g2 (star_cons s1) (star_plain s2).1 (meth_ht rfl h3 h7 h8)) rfl
  · cases h) (fun _ _ => rfl) (fun _ _ _ => rfl) (fun _ _ h => by cases h)
theorem g_new (c f : Nat) (ds : List Val) {a : PyE} (ha : Gd Z T G ft k a) : Gd Z T G ft k (.new c f a ds) := Gd.of (fun kx X W e hx hv tk h => by
  simp only [okE] at h
  split at h
  · rename_i x p1 es p2
    simp only [Bool.and_eq_true, decide_eq_true_eq, Bool.not_eq_true'] at h
    obtain ⟨⟨⟨⟨⟨h0, h1⟩, h2⟩, h3⟩, h4⟩, h5⟩ := h
    obtain ⟨g1, g2⟩ := hv.gl h1
    obtain ⟨fa, fd, ps, q1, q2, q3, q4⟩ := hx.cls x c f h2
    have A := ha.ga kx X W _ hx hv tk h4
    cases es with
    | nil =>
      obtain rfl := okA_nil h4
      exact both hx (de_new0 q2 q3 tk (hv.room h0) g1 q1 (q4 ds h5) g2) rfl
    | cons e es =>
      obtain ⟨s1, s2⟩ := nostar_hd h3
      exact both hx (de_new q2 q3 tk (hv.room h0) g1 q1 (q4 ds h5) A g2 (star_cons s1) (star_plain s2).1) rfl
  · cases h) (fun _ _ => rfl) (fun _ _ _ => rfl) (fun _ _ h => by cases h)
theorem g_meth (m n : Nat) {a as : PyE} (ha : Gd Z T G ft k a) (has : Gd Z T G ft k as) : Gd Z T G ft k (.meth a m n as) := Gd.of (fun kx X W e hx hv tk h => by
  simp only [okE] at h
  split at h
  · rename_i o x apos es pos
    simp only [Bool.and_eq_true, decide_eq_true_eq, Bool.not_eq_true'] at h
    obtain ⟨⟨⟨⟨⟨⟨⟨⟨⟨⟨h0, h1⟩, h2⟩, h3⟩, h4⟩, h5⟩, h6⟩, h7⟩, h8⟩, h9⟩, h10⟩ := h
    obtain ⟨n1, n2⟩ := hx.nm h1
    subst n1
    obtain ⟨c0, _, c1⟩ := List.any_eq_true.mp h8
    obtain ⟨fds0, c2⟩ := Option.isSome_iff_exists.mp c1
    have O := (ha.ge kx X W _ hx hv tk h9).1
    have A := has.ga kx X W _ hx hv tk h10
    have M : ∀ c fds, T.mt c m = some fds → MethOk X G T ft k m n c fds := fun c fds he => hx.mts m n c fds h7 he
    cases es with
    | nil =>
      obtain rfl := okA_nil h10
      exact both hx (de_meth0 c2 M n2 tk (hv.room0 h0) O (meth_ht h2 h3 h4 h5)) rfl
    | cons e es =>
      obtain ⟨s1, s2⟩ := nostar_hd h3
      exact both hx (de_meth c2 M n2 tk (hv.room0 h0) O A (star_cons s1) (star_plain s2).1 (meth_ht h2 h3 h4 h5)) rfl
  · cases h) (fun _ _ => rfl) (fun _ _ _ => rfl) (fun _ _ h => by cases h)

theorem biN_one {es : List Expr} {n : Nat} {x y : Str} (h : (decide (x = y) && es.length == n) = true) (hn : n ≠ 0) : x = y ∧ ∃ e r, es = e :: r := by
  simp only [Bool.and_eq_true, decide_eq_true_eq, beq_iff_eq] at h
  refine ⟨h.1, ?_⟩
  cases es with
  | nil => exact absurd h.2.symm hn
  | cons e r => exact ⟨e, r, rfl⟩
theorem biCool_ok {b : Bi} {h : Bool} (e : (biCool b || !h) = true) (c : biCool b = false) : h = false := by
  rw [c] at e
  simpa using e
theorem g_bi (b : Bi) {a : PyE} (ha : Gd Z T G ft k a) : Gd Z T G ft k (.bi b a) := Gd.of (fun kx X W e hx hv tk h => by
  simp only [okE] at h
  split at h
  · rename_i x p1 es p2
    simp only [Bool.and_eq_true] at h
    obtain ⟨⟨⟨⟨⟨h0, h1⟩, h2⟩, h3⟩, h4⟩, h5⟩ := h
    obtain ⟨g1, g2⟩ := hv.gl h1
    have hm := hx.bl x h2
    have A := ha.ga kx X W _ hx hv tk h4
    have key : ∀ (id : String) (y : Str), x = y → (∃ e r, es = e :: r) → bootBuiltins y = some (.builtin id) → y ≠ "__name__" → PA X es (liftA G W (evA T ft a)) → CallR X (.builtin id) (StA X (biV b)) →
        PE X (.Call (.Name x p1) es [] p2) (lift G W (ev T ft (.bi b a))) := fun id y e1 ⟨e, r, e2⟩ hb hn A C => by
      subst e1 e2
      obtain ⟨s1, s2⟩ := nostar_hd h3
      exact de_bi hx.hK (pe_callB C g1 hm hb A hn g2 (star_cons s1) (star_plain s2).1)
    have keyT : ∀ (id : String) (y : Str), x = y → (∃ e r, es = e :: r) → bootBuiltins y = some (.type id) → y ≠ "__name__" → PA X es (liftA G W (evA T ft a)) → CallR X (.type id) (StA X (biV b)) →
        PE X (.Call (.Name x p1) es [] p2) (lift G W (ev T ft (.bi b a))) := fun id y e1 ⟨e, r, e2⟩ hb hn A C => by
      subst e1 e2
      obtain ⟨s1, s2⟩ := nostar_hd h3
      exact de_bi hx.hK (pe_callTy C g1 hm hb A hn g2 (star_cons s1) (star_plain s2).1)
    refine both hx ?_ rfl
    cases b with
    | isi t =>
      simp only [biB] at h5
      unfold isiB at h5
      split at h5
      · rename_i e1 y p3
        simp only [Bool.and_eq_true, decide_eq_true_eq] at h5
        obtain ⟨⟨⟨k1, k2⟩, k3⟩, k4⟩ := h5
        subst k1
        obtain ⟨p, q, rfl, s1, w1, w2⟩ := okA_cons (es := []) (show okA Z T kx a [e1] = true from h4)
        obtain rfl := okA_nil w2
        obtain ⟨gy1, gy2⟩ := hv.gl k2
        have hmy := hx.bl y k3
        have P := ((ha.hd p .nil rfl).1 kx X W _ hx hv tk w1).1
        have Ty : PE X (.Name y p3) (tC (.ty (tyN t))) := by
          subst k4
          refine pe_bltn (u := .type (tyN t)) gy1 hmy ?_ rfl ?_ gy2
          · cases t <;> decide +kernel
          · cases t <;> decide +kernel
        refine de_isi (a := e1) (b := e1) (te := fun _ _ _ => True) hx.hK P ?_
        exact pe_callB call_isi g1 hm (by decide +kernel) (pa_cons P (pa_cons Ty pa_nil (star_cons rfl)) (star_cons s1)) (by decide +kernel) g2 (star_cons s1) rfl
      · cases h5
    | sset =>
      simp only [biB] at h5
      unfold setB at h5
      split at h5
      · rename_i y p3 e1 p4
        simp only [Bool.and_eq_true, decide_eq_true_eq, Bool.not_eq_true'] at h5
        obtain ⟨⟨⟨⟨k1, k2⟩, k3⟩, k4⟩, k5⟩ := h5
        subst k2 k3
        obtain ⟨p, q, rfl, s1, w1, w2⟩ := okA_cons (es := []) (show okA Z T kx a [e1] = true from h4)
        obtain rfl := okA_nil w2
        obtain ⟨gy1, gy2⟩ := hv.gl k4
        have hmy := hx.bl _ k5
        have P := ((ha.hd p .nil rfl).1 kx X W _ hx hv tk w1).1
        have hc := hv.calm (biCool_ok h0 rfl)
        have Q1 := pe_callTy (pos := p4) (p := p3) (cr_setLI hc) gy1 hmy (by decide +kernel) (pa_cons P pa_nil (star_cons s1)) (by decide +kernel) gy2 (star_cons s1) rfl
        exact de_sset hx.hK (pe_callB (cr_sortedSet hc) g1 hm (by decide +kernel) (pa_cons Q1 pa_nil (star_cons rfl)) (by decide +kernel) g2 (star_cons rfl) rfl)
      · cases h5
    | len => obtain ⟨e1, e2⟩ := biN_one (y := ("len" : Str)) h5 (by decide); exact key "len" _ e1 e2 (by decide +kernel) (by decide +kernel) A bi_len
    | int_ => obtain ⟨e1, e2⟩ := biN_one (y := ("int" : Str)) h5 (by decide); exact keyT "int" _ e1 e2 (by decide +kernel) (by decide +kernel) A bi_int
    | str_ => obtain ⟨e1, e2⟩ := biN_one (y := ("str" : Str)) h5 (by decide); exact keyT "str" _ e1 e2 (by decide +kernel) (by decide +kernel) A bi_str
    | tuple_ => obtain ⟨e1, e2⟩ := biN_one (y := ("tuple" : Str)) h5 (by decide); exact keyT "tuple" _ e1 e2 (by decide +kernel) (by decide +kernel) A bi_tuple
    | list_ => obtain ⟨e1, e2⟩ := biN_one (y := ("list" : Str)) h5 (by decide); exact keyT "list" _ e1 e2 (by decide +kernel) (by decide +kernel) A (bi_list (hv.calm (biCool_ok h0 rfl)))
    | sorted_ => obtain ⟨e1, e2⟩ := biN_one (y := ("sorted" : Str)) h5 (by decide); exact key "sorted" _ e1 e2 (by decide +kernel) (by decide +kernel) A bi_sorted
    | sum_ => obtain ⟨e1, e2⟩ := biN_one (y := ("sum" : Str)) h5 (by decide); exact key "sum" _ e1 e2 (by decide +kernel) (by decide +kernel) A (bi_sum (hv.calm (biCool_ok h0 rfl)))
    | all_ => obtain ⟨e1, e2⟩ := biN_one (y := ("all" : Str)) h5 (by decide); exact key "all" _ e1 e2 (by decide +kernel) (by decide +kernel) A (bi_all (hv.calm (biCool_ok h0 rfl)))
    | min1 => obtain ⟨e1, e2⟩ := biN_one (y := ("min" : Str)) h5 (by decide); exact key "min" _ e1 e2 (by decide +kernel) (by decide +kernel) A (bi_min1 (hv.calm (biCool_ok h0 rfl)))
    | min2 => obtain ⟨e1, e2⟩ := biN_one (y := ("min" : Str)) h5 (by decide); exact key "min" _ e1 e2 (by decide +kernel) (by decide +kernel) A (bi_min2 (hv.calm (biCool_ok h0 rfl)))
    | max2 => obtain ⟨e1, e2⟩ := biN_one (y := ("max" : Str)) h5 (by decide); exact key "max" _ e1 e2 (by decide +kernel) (by decide +kernel) A (bi_max2 (hv.calm (biCool_ok h0 rfl)))
  · cases h) (fun _ _ => rfl) (fun _ _ _ => rfl) (fun _ _ h => by cases h)
theorem g_isC (j : Nat) {a : PyE} (ha : Gd Z T G ft k a) : Gd Z T G ft k (.isC j a) := Gd.of (fun kx X W e hx hv tk h => by
  simp only [okE] at h
  split at h
  · rename_i x p1 e1 y p3 p2
    simp only [Bool.and_eq_true, decide_eq_true_eq, Bool.not_eq_true'] at h
    obtain ⟨⟨⟨⟨⟨⟨h1, h2⟩, h3⟩, h4⟩, h5⟩, h6⟩, h7⟩ := h
    subst h1
    obtain ⟨g1, g2⟩ := hv.gl h2
    have hm := hx.bl _ h3
    obtain ⟨gy1, gy2⟩ := hv.gl h6
    obtain ⟨q1, q2⟩ := hx.isi _ _ h7
    have P := (ha.ge kx X W _ hx hv tk h5).1
    have Ty : PE X (.Name y p3) (tC (.ref (G.ca j))) := pe_glob gy1 q1 rfl gy2
    refine both hx (de_isC hx.hK q2 ?_) rfl
    exact pe_callB call_isi g1 hm (by decide +kernel) (pa_cons P (pa_cons Ty pa_nil (star_cons rfl)) (star_cons h4)) (by decide +kernel) g2 (star_cons h4) rfl
  · cases h) (fun _ _ => rfl) (fun _ _ _ => rfl) (fun _ _ h => by cases h)
end
end Nw

set_option Elab.async false
set_option linter.all false
set_option maxRecDepth 100000
set_option maxHeartbeats 4000000
namespace Nw
open PySem L2
section
variable {Z : Tb} {T : Tab} {G : Cfg} {ft : Fns} {k : Nat} {X : Cx} {kx : Kx} {W : WX}

theorem len1 {es : List Expr} {x y : Str} {n : Nat} (h : (decide (x = y) && es.length == n) = true) : x = y ∧ es.length = n := by
  simpa only [Bool.and_eq_true, decide_eq_true_eq, beq_iff_eq] using h
theorem g_bm (m : Bm) {a as : PyE} (ha : Gd Z T G ft k a) (has : Gd Z T G ft k as) : Gd Z T G ft k (.bm m a as) := Gd.of (fun kx X W e hx hv tk h => by
  simp only [okE] at h
  split at h
  · rename_i o x apos es pos
    simp only [Bool.and_eq_true, decide_eq_true_eq, Bool.not_eq_true'] at h
    obtain ⟨⟨⟨⟨⟨⟨h1, h2⟩, h3⟩, h4⟩, h5⟩, h6⟩, h7⟩ := h
    have O := (ha.ge kx X W _ hx hv tk h5).1
    have A := has.ga kx X W _ hx hv tk h6
    have hu : X.A.units + 1 < cLine := by have := hx.hu; omega
    refine both hx ?_ rfl
    have key1 : ∀ {id T1 : String} {kd : Kd} {y : Str}, x = y → es.length = 1 → (∀ k', bmK m k' = true → k' = kd) → (∀ {μ S H} {v : Val} {x : V}, Sim G μ S H → RV μ H v x → kdOf S v = some kd → tyV G.K T1 x H) → PlainAttrs T1 → Slot T1 y id → typeOf (.builtin id) = pure (.type "method_descriptor") → MtR X id (StM X (bmV0 m)) →
        PE X (.Call (.Attribute o x apos) es [] pos) (lift G W (ev T ft (.bm m a as))) := fun {id T1 kd y} e1 e2 hk hT pa sl ty mt => by
      subst e1
      match es, e2 with
      | [e], _ =>
      obtain ⟨s1, s2⟩ := nostar_hd h2
      exact de_bmT hx.hK hk hT (pe_bm pa sl ty mt O A (base_of h1) (few_of h2 h3) h4 (star_cons s1) (star_plain s2).1)
    have key0 : ∀ {id T1 : String} {kd : Kd} {y : Str}, x = y → es.length = 0 → (∀ k', bmK m k' = true → k' = kd) → (∀ {μ S H} {v : Val} {x : V}, Sim G μ S H → RV μ H v x → kdOf S v = some kd → tyV G.K T1 x H) → PlainAttrs T1 → Slot T1 y id → typeOf (.builtin id) = pure (.type "method_descriptor") → MtR X id (StM X (bmV0 m)) →
        PE X (.Call (.Attribute o x apos) es [] pos) (lift G W (ev T ft (.bm m a as))) := fun {id T1 kd y} e1 e2 hk hT pa sl ty mt => by
      subst e1
      obtain rfl := List.length_eq_zero_iff.mp e2
      obtain rfl := okA_nil h6
      exact de_bmT0 hx.hK hk hT (pe_bm0 pa sl ty mt O (base_of h1) h4)
    have d1 : ∀ {y : Str}, x = y → es.length = 1 → ∃ e p, es = [e] ∧ as = .cons p .nil ∧ PE X e (lift G W (ev T ft p)) ∧ M1 X o y apos e pos := fun {y} e1 e2 => by
      subst e1
      match es, e2 with
      | [e], _ =>
      obtain ⟨p, q, rfl, s1, w1, w2⟩ := okA_cons h6
      obtain rfl := okA_nil w2
      exact ⟨e, p, rfl, rfl, ((has.hd p .nil rfl).1 kx X W _ hx hv tk w1).1, base_of h1, few_of h2 h3, h4, by rw [star_cons s1]; rfl⟩
    have d2 : ∀ {y : Str}, x = y → es.length = 2 → ∃ e f p q, es = [e, f] ∧ as = .cons p (.cons q .nil) ∧ PE X e (lift G W (ev T ft p)) ∧ PE X f (lift G W (ev T ft q)) ∧ M2 X o y apos e f pos := fun {y} e1 e2 => by
      subst e1
      match es, e2 with
      | [e, f], _ =>
      obtain ⟨p, q, rfl, s1, w1, w2⟩ := okA_cons h6
      obtain ⟨p2, q2, rfl, s2, w3, w4⟩ := okA_cons w2
      obtain rfl := okA_nil w4
      obtain ⟨g1, _, _, g2⟩ := has.hd p _ rfl
      exact ⟨e, f, p, p2, rfl, rfl, (g1 kx X W _ hx hv tk w1).1, ((g2 p2 .nil rfl).1 kx X W _ hx hv tk w3).1, base_of h1, few_of h2 h3, h4, by rw [star_cons s1, star_cons s2]; rfl⟩
    cases m with
    | append => obtain ⟨e1, e2⟩ := len1 (y := ("append" : Str)) h7; exact key1 e1 e2 (kd := .list) (by intro k' h; cases k' <;> first | rfl | cases h ) (fun s r k => ty_list s r k) F.plainAttrs_list F.slot_list_append F.type_list_append mt_app
    | extend => obtain ⟨e1, e2⟩ := len1 (y := ("extend" : Str)) h7; exact key1 e1 e2 (kd := .list) (by intro k' h; cases k' <;> first | rfl | cases h ) (fun s r k => ty_list s r k) F.plainAttrs_list F.slot_list_extend F.type_list_extend mt_ext
    | pop0 => obtain ⟨e1, e2⟩ := len1 (y := ("pop" : Str)) h7; exact key0 e1 e2 (kd := .list) (by intro k' h; cases k' <;> first | rfl | cases h ) (fun s r k => ty_list s r k) F.plainAttrs_list F.slot_list_pop F.type_list_pop mt_pop0
    | popL => obtain ⟨e1, e2⟩ := len1 (y := ("pop" : Str)) h7; exact key1 e1 e2 (kd := .list) (by intro k' h; cases k' <;> first | rfl | cases h ) (fun s r k => ty_list s r k) F.plainAttrs_list F.slot_list_pop F.type_list_pop mt_popL
    | clear => obtain ⟨e1, e2⟩ := len1 (y := ("clear" : Str)) h7; exact key0 e1 e2 (kd := .list) (by intro k' h; cases k' <;> first | rfl | cases h ) (fun s r k => ty_list s r k) F.plainAttrs_list F.slot_list_clear F.type_list_clear mt_clr
    | reverse => obtain ⟨e1, e2⟩ := len1 (y := ("reverse" : Str)) h7; exact key0 e1 e2 (kd := .list) (by intro k' h; cases k' <;> first | rfl | cases h ) (fun s r k => ty_list s r k) F.plainAttrs_list F.slot_list_reverse F.type_list_reverse mt_rev
    | index => obtain ⟨e1, e2⟩ := len1 (y := ("index" : Str)) h7; exact key1 e1 e2 (kd := .list) (by intro k' h; cases k' <;> first | rfl | cases h ) (fun s r k => ty_list s r k) F.plainAttrs_list F.slot_list_index F.type_list_index mt_idx
    | count => obtain ⟨e1, e2⟩ := len1 (y := ("count" : Str)) h7; exact key1 e1 e2 (kd := .list) (by intro k' h; cases k' <;> first | rfl | cases h ) (fun s r k => ty_list s r k) F.plainAttrs_list F.slot_list_count F.type_list_count mt_cnt
    | remove => obtain ⟨e1, e2⟩ := len1 (y := ("remove" : Str)) h7; exact key1 e1 e2 (kd := .list) (by intro k' h; cases k' <;> first | rfl | cases h ) (fun s r k => ty_list s r k) F.plainAttrs_list F.slot_list_remove F.type_list_remove mt_rem
    | startswith => obtain ⟨e1, e2⟩ := len1 (y := ("startswith" : Str)) h7; exact key1 e1 e2 (kd := .str) (by intro k' h; cases k' <;> first | rfl | cases h ) (fun s r k => ty_str s r k) F.plainAttrs_str F.slot_str_startswith F.type_str_startswith mt_sw
    | join => obtain ⟨e1, e2⟩ := len1 (y := ("join" : Str)) h7; exact key1 e1 e2 (kd := .str) (by intro k' h; cases k' <;> first | rfl | cases h ) (fun s r k => ty_str s r k) F.plainAttrs_str F.slot_str_join F.type_str_join mt_jn
    | split => obtain ⟨e1, e2⟩ := len1 (y := ("split" : Str)) h7; exact key1 e1 e2 (kd := .str) (by intro k' h; cases k' <;> first | rfl | cases h ) (fun s r k => ty_str s r k) F.plainAttrs_str F.slot_str_split F.type_str_split mt_spl
    | lower => obtain ⟨e1, e2⟩ := len1 (y := ("lower" : Str)) h7; exact key0 e1 e2 (kd := .str) (by intro k' h; cases k' <;> first | rfl | cases h ) (fun s r k => ty_str s r k) F.plainAttrs_str F.slot_str_lower F.type_str_lower mt_lwr
    | isalpha => obtain ⟨e1, e2⟩ := len1 (y := ("isalpha" : Str)) h7; exact key0 e1 e2 (kd := .str) (by intro k' h; cases k' <;> first | rfl | cases h ) (fun s r k => ty_str s r k) F.plainAttrs_str F.slot_str_isalpha F.type_str_isalpha mt_alpha
    | get1 =>
      obtain ⟨e1, e2⟩ := len1 (y := ("get" : Str)) h7
      obtain ⟨e, p, rfl, rfl, P, M⟩ := d1 e1 e2
      subst e1
      exact de_get1 hu O P M
    | get2 =>
      obtain ⟨e1, e2⟩ := len1 (y := ("get" : Str)) h7
      obtain ⟨e, f, p, q, rfl, rfl, P, P2, M⟩ := d2 e1 e2
      subst e1
      exact de_get2 hu O P P2 M
    | popD =>
      obtain ⟨e1, e2⟩ := len1 (y := ("pop" : Str)) h7
      obtain ⟨e, p, rfl, rfl, P, M⟩ := d1 e1 e2
      subst e1
      exact de_pop1 O P M
    | pop2 =>
      obtain ⟨e1, e2⟩ := len1 (y := ("pop" : Str)) h7
      obtain ⟨e, f, p, q, rfl, rfl, P, P2, M⟩ := d2 e1 e2
      subst e1
      exact de_pop2 O P P2 M
    | setdefault =>
      obtain ⟨e1, e2⟩ := len1 (y := ("setdefault" : Str)) h7
      obtain ⟨e, f, p, q, rfl, rfl, P, P2, M⟩ := d2 e1 e2
      subst e1
      exact de_sdef O P P2 M
  · cases h) (fun _ _ => rfl) (fun _ _ _ => rfl) (fun _ _ h => by cases h)

/-! targets, iterables, comprehensions -/
theorem namesT_ok (hx : Sx Z T G ft k X) (hv : Ev kx k X) (es : List Expr) : ∀ (is : List Nat), namesT es is kx = true → PGs X es (gNs is) ∧ es.length = is.length ∧ es.all (fun e => !isStar e) = true := by
  induction es with
  | nil =>
    intro is h
    cases is with
    | nil => exact ⟨pgs_nil, rfl, rfl⟩
    | cons i is => simp [namesT] at h
  | cons e es ih =>
    intro is h
    cases is with
    | nil => cases e <;> simp [namesT] at h
    | cons i is =>
      cases e with
      | Name x p =>
        simp only [namesT, Bool.and_eq_true, decide_eq_true_eq] at h
        obtain ⟨⟨h1, h2⟩, h3⟩ := h
        obtain ⟨r1, r2, r3⟩ := ih is h3
        obtain ⟨l1, l2⟩ := hv.loc h2
        refine ⟨pgs_cons (pg_name hx.hN (hv.ix h1) l1 l2) r1 (by rw [asg_cons rfl]; rfl), by simp [r2], ?_⟩
        simp only [List.all_cons, r3]
        rfl
      | _ => simp [namesT] at h
theorem PG.imp {X : Cx} {e : Expr} {t t' : TG} (h : PG X e t) (i : ∀ v σ H Q, t' v σ H Q → t v σ H Q) : PG X e t' := ⟨fun pins s σ H v u Q I r q => h.run pins s σ H v u Q I r (i v σ H Q q)⟩
theorem tgtB_ok (hx : Sx Z T G ft k X) (hv : Ev kx k X) (h0 : kx.hot = false) {tp : Bool} {is : List Nat} {e : Expr} (h : tgtB kx tp is e = true) : PG X e (gT X.K tp is) := by
  unfold tgtB at h
  split at h
  · simp only [Bool.and_eq_true, decide_eq_true_eq] at h
    obtain ⟨l1, l2⟩ := hv.loc h.2
    refine PG.imp (pg_name hx.hN (hv.ix h.1) l1 l2) fun v σ H Q q => ?_
    unfold gT at q
    rw [if_neg Bool.false_ne_true] at q
    obtain ⟨i, hi, q⟩ := q
    cases hi
    exact q
  · obtain ⟨r1, r2, r3⟩ := namesT_ok hx hv _ _ h
    obtain ⟨a1, a2⟩ := asg_len (env := X.env) r3
    refine PG.imp (pg_tup (hv.calm h0) r1 a1 a2) fun v σ H Q q => ?_
    unfold gT at q
    rw [if_pos rfl] at q
    rw [r2]
    exact q
  · cases h
theorem tgtL_ok (hx : Sx Z T G ft k X) (hv : Ev kx k X) (h0 : kx.hot = false) {is : List Nat} {e : Expr} (h : tgtB kx true is e = true) : PG X e (gTL X.K is) := by
  unfold tgtB at h
  split at h
  · rename_i hh; cases hh
  · obtain ⟨r1, r2, r3⟩ := namesT_ok hx hv _ _ h
    obtain ⟨a1, a2⟩ := asg_len (env := X.env) r3
    refine PG.imp (pg_lst (hv.calm h0) r1 a1 a2) fun v σ H Q q => ?_
    unfold gTL at q
    rw [r2]
    exact q
  · cases h
theorem isTup_ok {e : Expr} (h : isTup e = true) : ∃ es k p, e = .Tuple es k p := by
  unfold isTup at h
  split at h
  · exact ⟨_, _, _, rfl⟩
  · cases h
theorem okI_ok (hx : Sx Z T G ft k X) (hv : Ev kx k X) (tk : Takes X W) {kd : ItK} {as : PyE} {iter tg : Expr} (has : Gd Z T G ft k as) (h : okI Z T kx kd as iter tg = true) : PI X tg iter (iG G W kd (evA T ft as)) := by
  cases as with
  | cons a b =>
    have hh := has.hd a b rfl
    have GAll := has.ga
    simp only [okI] at h
    cases kd with
    | val =>
      simp only at h
      split at h
      · exact di_val hx.hK (hh.1 kx X W _ hx hv tk h).1
      · cases h
    | range =>
      simp only at h
      split at h
      · rename_i x p e es pos
        simp only [Bool.and_eq_true, decide_eq_true_eq, Bool.not_eq_true'] at h
        obtain ⟨⟨⟨⟨⟨⟨⟨h1, h2⟩, h3⟩, h4⟩, h5⟩, h6⟩, h7⟩, h8⟩ := h
        obtain ⟨g1, g2⟩ := hv.gl h2
        have hm := hx.bl x h3
        subst h1
        have A := GAll kx X W (e :: es) hx hv tk (by simp only [okA, Bool.and_eq_true, Bool.not_eq_true']; exact ⟨⟨h4, h5⟩, h6⟩)
        match es, h7 with
        | [], _ =>
          obtain rfl := okA_nil h6
          exact di_range1 g1 hm A (by rw [star_cons h4]; rfl)
        | [f], _ =>
          obtain ⟨p2, q2, rfl, s2, w3, w4⟩ := okA_cons h6
          obtain rfl := okA_nil w4
          exact di_range2 g1 hm A (by rw [star_cons h4, star_cons s2]; rfl) (by rw [star_cons s2]; rfl)
        | _ :: _ :: _, h7 => simp at h7
      · cases h
    | enm =>
      simp only at h
      split at h
      · rename_i x p e es pos
        simp only [Bool.and_eq_true, decide_eq_true_eq, Bool.not_eq_true'] at h
        obtain ⟨⟨⟨⟨⟨⟨⟨h1, h2⟩, h3⟩, h4⟩, h5⟩, h6⟩, h7⟩, h8⟩ := h
        obtain ⟨g1, g2⟩ := hv.gl h2
        have hm := hx.bl x h3
        subst h1
        obtain rfl := isEmp_nil h7
        obtain ⟨ets, ek, ep, rfl⟩ := isTup_ok h8
        have A := GAll kx X W [e] hx hv tk (by simp only [okA, Bool.and_eq_true, Bool.not_eq_true']; exact ⟨⟨h4, h5⟩, h6⟩)
        obtain rfl := okA_nil h6
        exact di_enm hx.hK g1 hm A (by rw [star_cons h4]; rfl)
      · cases h
    | zp =>
      simp only at h
      split at h
      · rename_i x p e es pos
        simp only [Bool.and_eq_true, decide_eq_true_eq, Bool.not_eq_true'] at h
        obtain ⟨⟨⟨⟨⟨⟨⟨⟨h1, h2⟩, h3⟩, h4⟩, h5⟩, h6⟩, h7⟩, h8⟩, h9⟩ := h
        obtain ⟨g1, g2⟩ := hv.gl h2
        have hm := hx.bl x h3
        subst h1
        obtain ⟨ets, ek, ep, rfl⟩ := isTup_ok h8
        have A := GAll kx X W (e :: es) hx hv tk (by simp only [okA, Bool.and_eq_true, Bool.not_eq_true']; exact ⟨⟨h4, h5⟩, h6⟩)
        match es, h7 with
        | [f], _ =>
          obtain ⟨p2, q2, rfl, s2, w3, w4⟩ := okA_cons h6
          obtain rfl := okA_nil w4
          exact di_zp hx.hK g1 hm A (star_cons h4) (star_plain h9).1
      · cases h
    | rv =>
      simp only at h
      split at h
      · rename_i x p e es pos
        simp only [Bool.and_eq_true, decide_eq_true_eq, Bool.not_eq_true'] at h
        obtain ⟨⟨⟨⟨⟨⟨h1, h2⟩, h3⟩, h4⟩, h5⟩, h6⟩, h7⟩ := h
        obtain ⟨g1, g2⟩ := hv.gl h2
        have hm := hx.bl x h3
        subst h1
        obtain rfl := isEmp_nil h7
        have A := GAll kx X W [e] hx hv tk (by simp only [okA, Bool.and_eq_true, Bool.not_eq_true']; exact ⟨⟨h4, h5⟩, h6⟩)
        obtain rfl := okA_nil h6
        exact di_rv hx.hK g1 hm A (by rw [star_cons h4]; rfl)
      · cases h
    | rvr =>
      simp only at h
      split at h
      · rename_i x p y p2 e pos2 pos
        simp only [Bool.and_eq_true, decide_eq_true_eq, Bool.not_eq_true'] at h
        obtain ⟨⟨⟨⟨⟨⟨⟨h1, h2⟩, h3⟩, h4⟩, h5⟩, h6⟩, h7⟩, h8⟩ := h
        obtain ⟨g1, g2⟩ := hv.gl h2
        obtain ⟨gy1, gy2⟩ := hv.gl h5
        have hm := hx.bl x h3
        have hm2 := hx.bl y h6
        subst h1 h4
        exact di_rvr g1 hm gy1 hm2 (hh.1 kx X W _ hx hv tk h8).1 (star_cons h7)
      · cases h
    | keys =>
      simp only at h
      split at h
      · exact di_keys (hh.1 kx X W _ hx hv tk h).1
      · cases h
    | items =>
      simp only at h
      split at h
      · simp only [Bool.and_eq_true, decide_eq_true_eq, Bool.not_eq_true'] at h
        obtain ⟨⟨⟨⟨h1, h2⟩, h3⟩, h4⟩, h5⟩ := h
        subst h1
        obtain ⟨ets, ek, ep, rfl⟩ := isTup_ok h4
        exact di_items (hh.1 kx X W _ hx hv tk h5).1 (base_of h2) h3
      · cases h
  | _ => simp [okI] at h
/-- what a comprehension needs, seen once -/
theorem comp_parts (hx : Sx Z T G ft k X) (hv : Ev kx k X) {elt : PyE} {tp : Bool} {is : List Nat} {kd : ItK} {as cond : PyE} {e : Expr} (hel : Gd Z T G ft k elt) (has : Gd Z T G ft k as) (hco : Gd Z T G ft k cond) (tk : Takes X W) (h : okE Z T kx (.comp elt tp is kd as cond) e = true) :
    kx.hot = false ∧ ∃ el tg iter ifs scope pos, e = .ListComp el [⟨tg, iter, ifs, 0⟩] scope pos ∧ PI X tg iter (iG G W kd (evA T ft as)) ∧ BlkOk X.N X.env.scope scope (ownOf kx.N is) ∧ (ownOf kx.N is).map (·.2) = is ∧
    (∀ (s : Shared) (H : Hp) (C : Addr) (cl : List (Str × Addr)) (fp : List Addr), PG (X.blk s H scope (compEnvC scope cl C X.env) fp) tg (gT X.K tp is)) ∧
    (∀ (s : Shared) (H : Hp) (C : Addr) (cl : List (Str × Addr)) (fp : List Addr), PTs (X.blk s H scope (compEnvC scope cl C X.env) fp) ifs (liftT G W0 (tst (ev T ft cond)))) ∧
    (∀ (s : Shared) (H : Hp) (C : Addr) (cl : List (Str × Addr)) (fp : List Addr), PE (X.blk s H scope (compEnvC scope cl C X.env) fp) el (lift G W0 (ev T ft elt))) ∧ (∀ x, foldedSetIterable iter X.env x = pure x) := by
  simp only [okE] at h
  split at h
  · rename_i el tg iter ifs scope pos
    simp only [Bool.and_eq_true, decide_eq_true_eq, Bool.not_eq_true'] at h
    obtain ⟨⟨⟨⟨⟨⟨⟨h0, h1⟩, h2⟩, h3⟩, h4⟩, h5⟩, h6⟩, h7⟩ := h
    refine ⟨h0, el, tg, iter, ifs, scope, pos, rfl, okI_ok hx hv tk has h5, blkOk_by (by rw [hv.N, hv.sc]; exact h2), h3, fun s H C cl fp => ?_, fun s H C cl fp => ?_, fun s H C cl fp => ?_, fold_of h1⟩
    · exact tgtB_ok (hx.blk s H scope _ fp) (hv.blk s H scope cl C fp) h0 h4
    · split at h7
      · split at h7
        · exact pts_true
        · cases h7
      · exact pts_one (hco.ge (kx.blk scope) _ W0 _ (hx.blk s H scope _ fp) (hv.blk s H scope cl C fp) takes0 h7).2
      · cases h7
    · exact (hel.ge (kx.blk scope) _ W0 _ (hx.blk s H scope _ fp) (hv.blk s H scope cl C fp) takes0 h6).1
  · cases h
theorem g_comp {elt : PyE} (tp : Bool) (is : List Nat) (kd : ItK) {as cond : PyE} (hel : Gd Z T G ft k elt) (has : Gd Z T G ft k as) (hco : Gd Z T G ft k cond) : Gd Z T G ft k (.comp elt tp is kd as cond) := Gd.of (fun kx X W e hx hv tk h => by
  obtain ⟨h0, el, tg, iter, ifs, scope, pos, rfl, c1, c2, c3, c4, c5, c6, c7⟩ := comp_parts hx hv hel has hco tk h
  exact both hx (de_comp (hv.calm h0) hx.hN hx.hK c1 c2 c3 c4 c5 c6 c7) rfl) (fun _ _ => rfl) (fun _ _ _ => rfl) (fun _ _ h => by cases h)

theorem g_lock (i : Nat) (fs : List Nat) {a : PyE} (ha : Gd Z T G ft k a) : Gd Z T G ft k (.lock i fs a) := Gd.of (fun kx X W e hx hv tk h => by
  simp only [okE, Bool.and_eq_true, Bool.not_eq_true'] at h
  exact both hx (de_lock (ha.ge kx X W e hx hv tk h.2).1) h.1.1) (fun _ _ => rfl) (fun _ _ _ => rfl) (fun _ _ h => by cases h)

/-- THE SOUNDNESS of expressions -/
theorem good (Z : Tb) (T : Tab) (G : Cfg) (ft : Fns) (k : Nat) : ∀ p : PyE, Gd Z T G ft k p
  | .c v => g_c v
  | .var i => g_var i
  | .bin o a b => g_bin o (good Z T G ft k a) (good Z T G ft k b)
  | .neg a => g_neg (good Z T G ft k a)
  | .cmp o a b => g_cmp o (good Z T G ft k a) (good Z T G ft k b)
  | .inK n a ks => g_inK n ks (good Z T G ft k a)
  | .isN n a => g_isN n (good Z T G ft k a)
  | .isB n a b => g_isB n (good Z T G ft k a) (good Z T G ft k b)
  | .chain o o' a b c => g_chain o o' (good Z T G ft k a) (good Z T G ft k b) (good Z T G ft k c)
  | .and a b => g_and (good Z T G ft k a) (good Z T G ft k b)
  | .or a b => g_or (good Z T G ft k a) (good Z T G ft k b)
  | .not a => g_not (good Z T G ft k a)
  | .ite t a b => g_ite (good Z T G ft k t) (good Z T G ft k a) (good Z T G ft k b)
  | .nil => g_nil
  | .cons a b => g_cons (good Z T G ft k a) (good Z T G ft k b)
  | .tup a => g_tup (good Z T G ft k a)
  | .lst a => g_lst (good Z T G ft k a)
  | .dnewK => g_dnewK
  | .dnewT => g_dnewT
  | .disp a => g_disp (good Z T G ft k a)
  | .idx a b => g_idx (good Z T G ft k a) (good Z T G ft k b)
  | .sl a hl lo hh hi => g_sl hl hh (good Z T G ft k a) (good Z T G ft k lo) (good Z T G ft k hi)
  | .fld a f => g_fld f (good Z T G ft k a)
  | .call f a ds => g_call f ds (good Z T G ft k a)
  | .new c f a ds => g_new c f ds (good Z T G ft k a)
  | .meth a m n as => g_meth m n (good Z T G ft k a) (good Z T G ft k as)
  | .bi b a => g_bi b (good Z T G ft k a)
  | .bm m a as => g_bm m (good Z T G ft k a) (good Z T G ft k as)
  | .isC j a => g_isC j (good Z T G ft k a)
  | .lock i fs a => g_lock i fs (good Z T G ft k a)
  | .comp elt tp is kd as cond => g_comp tp is kd (good Z T G ft k elt) (good Z T G ft k as) (good Z T G ft k cond)
end
end Nw

set_option Elab.async false
set_option linter.all false
set_option maxRecDepth 100000
set_option maxHeartbeats 4000000
namespace Nw
open PySem L2

/-! statements: the checker -/
def Kx.hotter (kx : Kx) : Kx := { kx with hot := true }
def lcOk (kx : Kx) (x : Str) (px : Pos) : Expr → Bool
  | .ListComp _ _ scope pos => kx.isLoc x && decide (kx.sc.kind = .function) && (px.line == pos.line) && !(scope.names.any fun (n, k) => n == x && (k == .local || k == .cell))
  | _ => false
mutual
def okS (Z : Tb) (T : Tab) : Kx → PyS → Stmt → Bool
  | _, .never, _ => true
  | kx, .skip, st => match st with
    | .Pass _ => true
    | .Expr (.Constant (.str _) _ _) _ => true
    | _ => false
  | kx, .expr a, st => match st with
    | .Expr e _ => okE Z T kx a e && !compish e
    | _ => false
  | kx, .asg i a, st => match st with
    | .Assign [.Name x px] e _ => decide (kx.N[i]? = some x) && kx.loc x && okE Z T kx a e && (!compish e || kx.isCell x || lcOk kx x px e)
    | _ => false
  | kx, .asgT is a, st => match st with
    | .Assign [.Tuple es _ _] e _ => !kx.hot && namesT es is kx && okE Z T kx a e && !compish e && !tuplish e
    | _ => false
  | kx, .asgL is a, st => match st with
    | .Assign [.Tuple es _ _] e _ => !kx.hot && namesT es is kx && okE Z T kx a e && !compish e && !tuplish e
    | _ => false
  | kx, .setI o i a, st => match st with
    | .Assign [.Subscript o' i' _] e _ => !slicish i' && okE Z T kx a e && okE Z T kx o o' && okE Z T kx i i'
    | _ => false
  | kx, .setF o f a, st => match st with
    | .Assign [.Attribute o' x _] e _ => decide (Z.NM[f]? = some x) && okE Z T kx a e && okE Z T kx o o'
    | _ => false
  | kx, .augV i b a, st => match st with
    | .AugAssign (.Name x _) op e _ => decide (op = augPy b) && augOk b && decide (kx.N[i]? = some x) && kx.loc x && okE Z T kx a e
    | _ => false
  | kx, .augF o f b a, st => match st with
    | .AugAssign (.Attribute o' x _) op e _ => decide (op = augPy b) && augOk b && decide (Z.NM[f]? = some x) && okE Z T kx o o' && okE Z T kx a e
    | _ => false
  | kx, .ite c p q, st => match st with
    | .If c' as bs _ => okE Z T kx c c' && okB Z T kx p as && okB Z T kx q bs
    | _ => false
  | kx, .ret a, st => match st with
    | .Return (some e) _ => okE Z T kx a e
    | .Return none _ => (match a with | .c .non => true | _ => false)
    | _ => false
  | kx, .for_ tp is k as b, st => match st with
    | .For tg iter body [] _ => !kx.hot && !setish iter && tgtB kx tp is tg && okI Z T kx k as iter tg && okB Z T kx b body
    | _ => false
  | kx, .whl c b, st => match st with
    | .While c' body [] _ => !kx.hot && okE Z T kx c c' && okB Z T kx b body
    | _ => false
  | _, .brk, st => match st with
    | .Break _ => true
    | _ => false
  | _, .cnt, st => match st with
    | .Continue _ => true
    | _ => false
  | kx, .raise k a, st => match st with
    | .Raise (some (.Call (.Name x _) (e :: es) [] _)) none _ => !kx.hot && kx.gl x && decide (Z.exs.lookup x = some k) && Z.exr.contains k && nostar (e :: es) && okA Z T kx a (e :: es)
    | _ => false
  | kx, .try1 b k h, st => match st with
    | .Try body [.ExceptHandler (some (.Name x _)) none (s0 :: suite) _] [] [] _ => kx.gl x && decide (Z.exs.lookup x = some k) && okB Z T kx b body && okB Z T kx.hotter h (s0 :: suite)
    | _ => false
  | kx, .lockS _ _ b, st => okS Z T kx b st
  | _, .seq _ _, _ => false
def okB (Z : Tb) (T : Tab) : Kx → PyS → List Stmt → Bool
  | _, .never, _ => true
  | _, .skip, sts => isEmp sts
  | kx, .seq a b, sts => match sts with
    | st :: sts => okS Z T kx a st && okB Z T kx b sts
    | [] => false
  | _, _, _ => false
end

section
variable {Z : Tb} {T : Tab} {G : Cfg} {ft : Fns} {k : Nat} {X : Cx} {kx : Kx} {W : WX}

theorem liftA_mono {m : Env → Store → Res (List Val)} {σ : St} {H : Hp} {Q Q' : List V → Hp → Prop} (h : liftA G W m σ H Q) (i : ∀ xs H', Q xs H' → Q' xs H') : liftA G W m σ H Q' := by
  obtain ⟨μ, env, S, s, e, h⟩ := h
  exact ⟨μ, env, S, s, e, h.imp fun vs μ1 S1 H1 u k s1 q xs r => i _ _ (q xs r)⟩
/-- what statements need, too -/
structure Es (kx : Kx) (k : Nat) (X : Cx) : Prop where
  ev : Ev kx k X
  pass : kx.hot = false → PassesOwn (model X.prog X.w) X.A X.env X.xe
  stk : X.stack = X.env :: X.outer
  frm : X.env.frame = some X.env.locals
theorem Sx.tr (h : Sx Z T G ft k X) (pn : List (Addr × PySem.Obj)) (xe : Value → Shared → Prop) : Sx Z T G ft k (X.tr pn xe) :=
  ⟨h.hK, h.hNM, h.hN, h.hu, h.fld, h.bl, h.fns, h.cls, h.cst, fun m n c fds h1 h2 => ⟨(h.mts m n c fds h1 h2).ok⟩, h.exs, h.exr, h.cat, h.gc, h.cfn, h.isi⟩
theorem Es.tr (h : Es kx k X) {pn : List (Addr × PySem.Obj)} {xe : Value → Shared → Prop} (p : PassesOwn (model X.prog X.w) X.A X.env xe) : Es kx k (X.tr pn xe) :=
  ⟨⟨h.ev.N, h.ev.sc, h.ev.fn, h.ev.cool⟩, fun _ => p, h.stk, h.frm⟩
theorem Sx.suite (h : Sx Z T G ft k X) (a : Addr) (pn : List (Addr × PySem.Obj)) : Sx Z T G ft k (X.suite a pn) :=
  ⟨h.hK, h.hNM, h.hN, h.hu, h.fld, h.bl, h.fns, h.cls, h.cst, fun m n c fds h1 h2 => ⟨(h.mts m n c fds h1 h2).ok⟩, h.exs, h.exr, h.cat, h.gc, h.cfn, h.isi⟩
theorem Es.suite (h : Es kx k X) (a : Addr) (pn : List (Addr × PySem.Obj)) : Es kx.hotter k (X.suite a pn) :=
  ⟨⟨h.ev.N, h.ev.sc, h.ev.fn, fun z => Bool.noConfusion (show true = false from z)⟩, fun z => Bool.noConfusion (show true = false from z), h.stk, h.frm⟩

theorem ds_never {st : Stmt} : PS X st (liftS G W (ex T ft .never)) := ⟨fun pins s σ H D I ⟨μ, env, S, sm, e, h⟩ => by simp only [ex] at h; exact h.elim⟩
theorem dss_never {sts : List Stmt} : PSs X sts (liftS G W (ex T ft .never)) := ⟨fun pins s σ H D I ⟨μ, env, S, sm, e, h⟩ => by simp only [ex] at h; exact h.elim⟩
theorem ds_raise {x : Str} {p pos pos' : Pos} {e : Expr} {es : List Expr} {c : Nat} {a : PyE} (hc : X.calm = true) (tk : Takes X W) {C : Addr} (hC : G.ca c = C) {bmB : List Value} {B newId initId : String} (F : ExcBaseFacts B newId initId bmB) (q : PySem.W.excIn X.K C bmB newId = true) (gC : X.mg x = some (.ref C))
    (kC : PySem.W.keepIn X.K (.ref C) = true) (r : Raises X (.ref C)) (hg : Gl X x) (ha : PA X (e :: es) (liftA G W (evA T ft a))) (hdb : (x == ("__debug__" : Str)) = false)
    (he : starEach (e :: es) X.env = (false, eval e X.env) :: starEach es X.env) (hpl : (backTo pos (starEach es X.env)).any (·.1) = false) :
    PS X (.Raise (some (.Call (.Name x p) (e :: es) [] pos)) none pos') (liftS G W (ex T ft (.raise c a))) := by
  refine (ps_raise hc tk (pmk_ownA F q gC kC r hg ha hdb he hpl)).imp fun D σ H h => ?_
  have h2 := oneSA (f := fun vs env S1 => if vs.length ≤ line then .ex ⟨c, []⟩ env S1 else .no) (by simp only [liftS, ex] at h; exact h)
  refine liftA_mono h2 fun xs H1 ⟨μ, env, vs, S, s, e, rs, q⟩ => ?_
  split at q
  · rename_i hl
    refine ⟨?_, ?_⟩
    · rw [← rs.length, sizeLine_eq]
      exact hl
    · rw [← hC]
      exact q μ H1 σ none (Up.refl _) (Keep.refl _) s e (.inl ⟨rfl, rfl⟩)
  · exact q.elim
theorem AfterO.noEx {W' : WX} {μ : List Addr} {H : Hp} {o : Out} {D : Ends} (h : AfterO G W μ H (noEx o) D) : AfterO G W' μ H o D := by
  cases o with
  | nx e S => exact h
  | rt v S => exact h
  | bk e S => exact h
  | ct e S => exact h
  | ex x e S => exact h.elim
  | no => exact h.elim
theorem ds_try {x : Str} {c : Nat} {body suite : List Stmt} {b0 : Stmt} {np pos pos' : Pos} {pb ph : PyS} (hs : X.stack = X.env :: X.outer) (hf : X.env.frame = some X.env.locals) (hn : Names X x (.ref (G.ca c))) (tk : Takes X W)
    (hcat : ∀ d b, T.catches c d = some b → PySem.W.exmOne X.K (.ref (G.ca d)) (.ref (G.ca c)) = some b)
    (hb : ∀ (W : WX) (pn : List (Addr × PySem.Obj)) (xe : Value → Shared → Prop), Takes (X.tr pn xe) W → PassesOwn (model X.prog X.w) X.A X.env xe → PSs (X.tr pn xe) body (liftS G W (ex T ft pb)))
    (hsu : ∀ (a : Addr) (pn : List (Addr × PySem.Obj)), PSs (X.suite a pn) (b0 :: suite) (liftS G W0 (ex T ft ph))) :
    PS X (.Try body [.ExceptHandler (some (.Name x np)) none (b0 :: suite) pos'] [] [] pos) (liftS G W (ex T ft (.try1 pb c ph))) := by
  refine (ps_try_only (tb := fun W => liftS G W (ex T ft pb)) (ts := fun _ _ _ => liftS G W0 (ex T ft ph)) hs hf hn tk hb (fun a oe cls d pn _ _ => hsu a _)).imp fun D σ H ⟨μ, env, S, s, e, h⟩ => ?_
  simp only [ex] at h
  refine ⟨μ, env, S, s, e, ?_⟩
  cases eo : ex T ft pb env S with
  | nx e' S' => rw [eo] at h; exact h
  | rt v S' => rw [eo] at h; exact h
  | bk e' S' => rw [eo] at h; exact h
  | ct e' S' => rw [eo] at h; exact h
  | no => rw [eo] at h; exact h
  | ex x' e' S' =>
    rw [eo] at h
    unfold tryV at h
    simp only at h
    intro μ' H' σ' d u kp s' r' rx
    split at h
    · rename_i hct
      exact ⟨true, hcat _ _ hct, fun _ a _ => ⟨μ', e', S', s', r', (h.later u kp).noEx⟩, fun z => Bool.noConfusion z⟩
    · rename_i hct
      exact ⟨false, hcat _ _ hct, fun z => Bool.noConfusion z, fun _ => h μ' H' σ' d u kp s' r' rx⟩
    · exact h.elim

def GS (Z : Tb) (T : Tab) (G : Cfg) (ft : Fns) (k : Nat) (p : PyS) : Prop := ∀ kx X W st, Sx Z T G ft k X → Es kx k X → Takes X W → okS Z T kx p st = true → PS X st (liftS G W (ex T ft p))
def GB (Z : Tb) (T : Tab) (G : Cfg) (ft : Fns) (k : Nat) (p : PyS) : Prop := ∀ kx X W sts, Sx Z T G ft k X → Es kx k X → Takes X W → okB Z T kx p sts = true → PSs X sts (liftS G W (ex T ft p))
structure GSB (Z : Tb) (T : Tab) (G : Cfg) (ft : Fns) (k : Nat) (p : PyS) : Prop where
  s : GS Z T G ft k p
  b : GB Z T G ft k p
theorem GSB.of {p : PyS} (s : GS Z T G ft k p) (hb : ∀ kx sts, okB Z T kx p sts = false) : GSB Z T G ft k p :=
  ⟨s, fun kx X W sts _ _ _ h => (by rw [hb] at h; exact Bool.noConfusion h)⟩
/-- an expression -/
theorem gE {p : PyE} {e : Expr} (hx : Sx Z T G ft k X) (hv : Es kx k X) (tk : Takes X W) (h : okE Z T kx p e = true) : PE X e (lift G W (ev T ft p)) := ((good Z T G ft k p).ge kx X W e hx hv.ev tk h).1
theorem gT' {p : PyE} {e : Expr} (hx : Sx Z T G ft k X) (hv : Es kx k X) (tk : Takes X W) (h : okE Z T kx p e = true) : PT X e (liftT G W (tst (ev T ft p))) := ((good Z T G ft k p).ge kx X W e hx hv.ev tk h).2

theorem s_never : GSB Z T G ft k .never := ⟨fun _ _ _ _ _ _ _ _ => ds_never, fun _ _ _ _ _ _ _ _ => dss_never⟩
theorem s_skip : GSB Z T G ft k .skip where
  s := fun kx X W st hx hv tk h => by
    unfold okS at h
    split at h
    · exact ds_pass
    · exact ds_doc
    · cases h
  b := fun kx X W sts hx hv tk h => by
    simp only [okB] at h
    rw [isEmp_nil h]
    exact dss_nil
theorem s_seq {a b : PyS} (ha : GSB Z T G ft k a) (hb : GSB Z T G ft k b) : GSB Z T G ft k (.seq a b) := ⟨fun kx X W st hx hv tk h => by simp [okS] at h,
  fun kx X W sts hx hv tk h => by
    simp only [okB] at h
    split at h
    · simp only [Bool.and_eq_true] at h
      exact dss_cons (ha.s kx X W _ hx hv tk h.1) (hb.b kx X W _ hx hv tk h.2)
    · cases h⟩
theorem s_expr (a : PyE) : GSB Z T G ft k (.expr a) := .of (fun kx X W st hx hv tk h => by
  simp only [okS] at h
  split at h
  · simp only [Bool.and_eq_true, Bool.not_eq_true'] at h
    exact ds_expr (gE hx hv tk h.1) (sw_of h.2)
  · cases h) (fun _ _ => by simp only [okB])
theorem lcOk_ok {x : Str} {px : Pos} {e : Expr} (h : lcOk kx x px e = true) : ∃ el gs scope pos, e = .ListComp el gs scope pos ∧ kx.isLoc x = true ∧ kx.sc.kind = .function ∧ (px.line == pos.line) = true ∧ (scope.names.any fun (n, k) => n == x && (k == .local || k == .cell)) = false := by
  unfold lcOk at h
  split at h
  · simp only [Bool.and_eq_true, decide_eq_true_eq, Bool.not_eq_true'] at h
    exact ⟨_, _, _, _, rfl, h.1.1.1, h.1.1.2, h.1.2, h.2⟩
  · cases h
theorem okE_comp {a : PyE} {el : Expr} {gs : List Comprehension} {scope : Scope} {pos : Pos} (h : okE Z T kx a (.ListComp el gs scope pos) = true) : a = .nil ∨ ∃ elt tp is kd as cond, a = .comp elt tp is kd as cond := by
  cases a with
  | nil => exact .inl rfl
  | comp elt tp is kd as cond => exact .inr ⟨_, _, _, _, _, _, rfl⟩
  | lock i fs b => simp [okE, compish] at h
  | _ => simp [okE, cE, varE, gcB] at h
theorem Ev.isLoc (h : Ev kx k X) {x : Str} (v : kx.isLoc x = true) : X.env.scope.names.lookup x = some .local := by
  rw [h.lk x]
  unfold Kx.isLoc at v
  split at v
  · assumption
  · cases v
theorem Ev.isCell (h : Ev kx k X) {x : Str} (v : kx.isCell x = true) : X.env.scope.names.lookup x = some .cell := by
  rw [h.lk x]
  unfold Kx.isCell at v
  split at v
  · assumption
  · cases v
theorem sw_cell {e : Expr} {x : Str} {p : Pos} {l : Nat} {env : PySem.Env} (h : env.scope.names.lookup x = some .cell) : swapsWith e (some (.Name x p)) l env = pure false := by
  have hk : (env.kindOf x == some .local) = false := by
    have : env.kindOf x = some .cell := h
    rw [this]; rfl
  unfold swapsWith
  cases e <;> first | rfl | simp only [hk, Bool.and_false, Bool.false_and]
theorem s_asg (i : Nat) (a : PyE) : GSB Z T G ft k (.asg i a) := .of (fun kx X W st hx hv tk h => by
  simp only [okS] at h
  split at h
  · rename_i x px e pos
    simp only [Bool.and_eq_true, decide_eq_true_eq, Bool.or_eq_true, Bool.not_eq_true'] at h
    obtain ⟨⟨⟨h1, h2⟩, h3⟩, h4⟩ := h
    obtain ⟨l1, l2⟩ := hv.ev.loc h2
    rcases h4 with (h4 | h4) | h4
    · exact ds_asg hx.hN (hv.ev.ix h1) l1 (gE hx hv tk h3) (sw_of h4) l2
    · exact ds_asg hx.hN (hv.ev.ix h1) l1 (gE hx hv tk h3) (sw_cell (hv.ev.isCell h4)) l2
    · obtain ⟨el, gs, scope, cpos, rfl, q1, q2, q3, q4⟩ := lcOk_ok h4
      rcases okE_comp h3 with rfl | ⟨elt, tp, is, kd, as, cond, rfl⟩
      · exact ⟨fun pins s σ H D I ⟨μ, env, S, sm, e, h⟩ => by simp only [ex, ev] at h; exact h.elim⟩
      · obtain ⟨h0, el', tg, iter, ifs, scope', pos', he, c1, c2, c3, c4, c5, c6, c7⟩ := comp_parts hx hv.ev (good Z T G ft k elt) (good Z T G ft k as) (good Z T G ft k cond) tk h3
        cases he
        have hl := hv.ev.isLoc q1
        exact ds_asgLc (hv.ev.calm h0) hx.hN (hv.ev.ix h1) hl (sw_true (by rw [hv.ev.sc]; exact q2) hl q3 q4) hx.hK c1 c2 c3 c4 c5 c6 c7
  · cases h) (fun _ _ => by simp only [okB])
theorem s_asgT (is : List Nat) (a : PyE) : GSB Z T G ft k (.asgT is a) := .of (fun kx X W st hx hv tk h => by
  simp only [okS] at h
  split at h
  · rename_i es kt pt e pos
    simp only [Bool.and_eq_true, Bool.not_eq_true'] at h
    obtain ⟨⟨⟨⟨h0, h1⟩, h2⟩, h3⟩, h4⟩ := h
    exact ds_asgT hx.hK (gE hx hv tk h2) (tgtB_ok (tp := true) hx hv.ev h0 h1) (sws_of h3) (sst_v h4) (asg_one rfl)
  · cases h) (fun _ _ => by simp only [okB])
theorem s_asgL (is : List Nat) (a : PyE) : GSB Z T G ft k (.asgL is a) := .of (fun kx X W st hx hv tk h => by
  simp only [okS] at h
  split at h
  · rename_i es kt pt e pos
    simp only [Bool.and_eq_true, Bool.not_eq_true'] at h
    obtain ⟨⟨⟨⟨h0, h1⟩, h2⟩, h3⟩, h4⟩ := h
    exact ds_asgL hx.hK (gE hx hv tk h2) (tgtL_ok hx hv.ev h0 h1) (sws_of h3) (sst_v h4) (asg_one rfl)
  · cases h) (fun _ _ => by simp only [okB])
theorem s_setI (o i a : PyE) : GSB Z T G ft k (.setI o i a) := .of (fun kx X W st hx hv tk h => by
  simp only [okS] at h
  split at h
  · rename_i o' i' tp e pos
    simp only [Bool.and_eq_true, Bool.not_eq_true'] at h
    obtain ⟨⟨⟨h1, h2⟩, h3⟩, h4⟩ := h
    have hu := hx.hu
    refine ds_setI (by omega) hx.hK (gE hx hv tk h2) (gE hx hv tk h3) (gE hx hv tk h4) (sub_of h1) ?_ (sst_t rfl) (asg_one rfl)
    unfold swapsWithSole swapsWith
    cases e <;> rfl
  · cases h) (fun _ _ => by simp only [okB])
theorem s_setF (o : PyE) (f : Nat) (a : PyE) : GSB Z T G ft k (.setF o f a) := .of (fun kx X W st hx hv tk h => by
  simp only [okS] at h
  split at h
  · rename_i o' x tp e pos
    simp only [Bool.and_eq_true, decide_eq_true_eq] at h
    obtain ⟨⟨h1, h2⟩, h3⟩ := h
    obtain ⟨n1, n2⟩ := hx.nm h1
    subst n1
    refine ds_setF hx.hK n2 (fun c hc => ⟨hx.fld.cls c f hc, (hx.fld.fld c f hc).1⟩) (gE hx hv tk h2) (gE hx hv tk h3) ?_
    unfold swapsWith
    cases e <;> rfl
  · cases h) (fun _ _ => by simp only [okB])
theorem s_augV (i : Nat) (b : BinO) (a : PyE) : GSB Z T G ft k (.augV i b a) := .of (fun kx X W st hx hv tk h => by
  simp only [okS] at h
  split at h
  · simp only [Bool.and_eq_true, decide_eq_true_eq] at h
    obtain ⟨⟨⟨⟨h1, h2⟩, h3⟩, h4⟩, h5⟩ := h
    subst h1
    obtain ⟨l1, l2⟩ := hv.ev.loc h4
    exact ds_augV h2 hx.hK hx.hN (hv.ev.ix h3) l1 (gE hx hv tk h5) l2
  · cases h) (fun _ _ => by simp only [okB])
theorem s_augF (o : PyE) (f : Nat) (b : BinO) (a : PyE) : GSB Z T G ft k (.augF o f b a) := .of (fun kx X W st hx hv tk h => by
  simp only [okS] at h
  split at h
  · simp only [Bool.and_eq_true, decide_eq_true_eq] at h
    obtain ⟨⟨⟨⟨h1, h2⟩, h3⟩, h4⟩, h5⟩ := h
    subst h1
    obtain ⟨n1, n2⟩ := hx.nm h3
    subst n1
    exact ds_augF h2 hx.hK n2 (fun c hc => ⟨hx.fld.cls c f hc, (hx.fld.fld c f hc).1⟩) (gE hx hv tk h4) (gE hx hv tk h5)
  · cases h) (fun _ _ => by simp only [okB])
theorem s_ite (c : PyE) {p q : PyS} (hp : GSB Z T G ft k p) (hq : GSB Z T G ft k q) : GSB Z T G ft k (.ite c p q) := .of (fun kx X W st hx hv tk h => by
  simp only [okS] at h
  split at h
  · simp only [Bool.and_eq_true] at h
    obtain ⟨⟨h1, h2⟩, h3⟩ := h
    exact ds_if (gT' hx hv tk h1) (hp.b kx X W _ hx hv tk h2) (hq.b kx X W _ hx hv tk h3)
  · cases h) (fun _ _ => by simp only [okB])
theorem s_ret (a : PyE) : GSB Z T G ft k (.ret a) := .of (fun kx X W st hx hv tk h => by
  simp only [okS] at h
  split at h
  · exact ds_ret (gE hx hv tk h)
  · split at h
    · exact ds_retN
    · cases h
  · cases h) (fun _ _ => by simp only [okB])
theorem s_for (tp : Bool) (is : List Nat) (kd : ItK) (as : PyE) {b : PyS} (hb : GSB Z T G ft k b) : GSB Z T G ft k (.for_ tp is kd as b) := .of (fun kx X W st hx hv tk h => by
  simp only [okS] at h
  split at h
  · simp only [Bool.and_eq_true, Bool.not_eq_true'] at h
    obtain ⟨⟨⟨⟨h0, h1⟩, h2⟩, h3⟩, h4⟩ := h
    exact ds_for (hv.pass h0) (hv.ev.calm h0) hx.hK (okI_ok hx hv.ev tk (good Z T G ft k as) h3) (tgtB_ok hx hv.ev h0 h2) (hb.b kx X W _ hx hv tk h4) (fold_of h1)
  · cases h) (fun _ _ => by simp only [okB])
theorem s_whl (c : PyE) {b : PyS} (hb : GSB Z T G ft k b) : GSB Z T G ft k (.whl c b) := .of (fun kx X W st hx hv tk h => by
  simp only [okS] at h
  split at h
  · simp only [Bool.and_eq_true, Bool.not_eq_true'] at h
    obtain ⟨⟨h0, h1⟩, h2⟩ := h
    exact ds_whl (hv.pass h0) (gT' hx hv tk h1) (hb.b kx X W _ hx hv tk h2)
  · cases h) (fun _ _ => by simp only [okB])
theorem s_brk : GSB Z T G ft k .brk := .of (fun kx X W st hx hv tk h => by
  simp only [okS] at h
  split at h
  · exact ds_brk
  · cases h) (fun _ _ => by simp only [okB])
theorem s_cnt : GSB Z T G ft k .cnt := .of (fun kx X W st hx hv tk h => by
  simp only [okS] at h
  split at h
  · exact ds_cnt
  · cases h) (fun _ _ => by simp only [okB])
theorem s_raise (c : Nat) (a : PyE) : GSB Z T G ft k (.raise c a) := .of (fun kx X W st hx hv tk h => by
  simp only [okS] at h
  split at h
  · simp only [Bool.and_eq_true, decide_eq_true_eq, Bool.not_eq_true'] at h
    obtain ⟨⟨⟨⟨⟨h0, h1⟩, h2⟩, h3⟩, h4⟩, h5⟩ := h
    obtain ⟨g1, g2⟩ := hv.ev.gl h1
    obtain ⟨q1, q2, B, newId, initId, bmB, F, q3⟩ := hx.exr c h3
    obtain ⟨s1, s2⟩ := nostar_hd h4
    exact ds_raise (hv.ev.calm h0) tk rfl F q3 (hx.exs _ _ h2) q1 q2 g1 ((good Z T G ft k a).ga kx X W _ hx hv.ev tk h5) g2 (star_cons s1) (star_plain s2).1
  · cases h) (fun _ _ => by simp only [okB])
theorem s_try (c : Nat) {b h : PyS} (hb : GSB Z T G ft k b) (hh : GSB Z T G ft k h) : GSB Z T G ft k (.try1 b c h) := .of (fun kx X W st hx hv tk h => by
  simp only [okS] at h
  split at h
  · simp only [Bool.and_eq_true, decide_eq_true_eq] at h
    obtain ⟨⟨⟨h1, h2⟩, h3⟩, h4⟩ := h
    obtain ⟨g1, g2⟩ := hv.ev.gl h1
    exact ds_try hv.stk hv.frm ⟨g1, g2, .inl (hx.exs _ _ h2)⟩ tk (fun d b e => hx.cat _ _ _ e) (fun W pn xe tk' p => hb.b kx _ W _ (hx.tr pn xe) (hv.tr p) tk' h3) (fun a pn => hh.b kx.hotter _ W0 _ (hx.suite a pn) (hv.suite a pn) takes0 h4)
  · cases h) (fun _ _ => by simp only [okB])

theorem s_lock (i : Nat) (fs : List Nat) {b : PyS} (hb : GSB Z T G ft k b) : GSB Z T G ft k (.lockS i fs b) := .of (fun kx X W st hx hv tk h => by
  simp only [okS] at h
  exact ds_lock (hb.s kx X W st hx hv tk h)) (fun _ _ => by simp only [okB])

theorem goodS (Z : Tb) (T : Tab) (G : Cfg) (ft : Fns) (k : Nat) : ∀ p : PyS, GSB Z T G ft k p
  | .skip => s_skip
  | .seq a b => s_seq (goodS Z T G ft k a) (goodS Z T G ft k b)
  | .expr a => s_expr a
  | .asg i a => s_asg i a
  | .asgT is a => s_asgT is a
  | .asgL is a => s_asgL is a
  | .setI o i a => s_setI o i a
  | .setF o f a => s_setF o f a
  | .augV i b a => s_augV i b a
  | .augF o f b a => s_augF o f b a
  | .ite c p q => s_ite c (goodS Z T G ft k p) (goodS Z T G ft k q)
  | .ret a => s_ret a
  | .for_ tp is kd as b => s_for tp is kd as (goodS Z T G ft k b)
  | .whl c b => s_whl c (goodS Z T G ft k b)
  | .brk => s_brk
  | .cnt => s_cnt
  | .raise c a => s_raise c a
  | .try1 b c h => s_try c (goodS Z T G ft k b) (goodS Z T G ft k h)
  | .lockS i fs b => s_lock i fs (goodS Z T G ft k b)
  | .never => s_never
end
end Nw

set_option Elab.async false
set_option linter.all false
set_option maxRecDepth 100000
set_option maxHeartbeats 4000000
namespace Nw
open PySem L2

/-! defs -/
def namesIn (sc : Scope) (ps : List Str) : Bool := ps.all fun x => decide (sc.names.lookup x = some .local) || decide (sc.names.lookup x = some .cell)
def scOk (N ps : List Str) (sc : Scope) : Bool := decide (sc.kind = .function) && !sc.isCoroutine && !sc.isGenerator && decide N.Nodup && decide (N.take ps.length = ps) && namesIn sc ps && sc.names.all (fun y => decide (y.2 ≠ .free))
theorem scOk_ok {N ps : List Str} {sc : Scope} (h : scOk N ps sc = true) : FnScope N ps sc := by
  unfold scOk namesIn at h
  simp only [Bool.and_eq_true, decide_eq_true_eq, Bool.not_eq_true', List.all_eq_true, Bool.or_eq_true] at h
  obtain ⟨⟨⟨⟨⟨⟨h1, h2⟩, h3⟩, h4⟩, h5⟩, h6⟩, h7⟩ := h
  exact ⟨h1, h2, h3, h4, h5, h6, h7⟩
/-- the whole check of a def of the text -/
def okD (Z : Tb) (T : Tab) (d : Df) (N ps : List Str) (st : Stmt) : Bool :=
  scOk N ps (defScope st) && decide (ps.length = d.np) && decide (N.length = d.nn) && okB Z T ⟨N, defScope st, fun _ => true, false⟩ d.body (defBody st)
/-- a def as it stands behind the top -/
structure Fd (K : PySem.W.Frag) (x qual : Str) (st : Stmt) (f : Addr) (fd : FuncData) : Prop where
  ex : ∃ (oc : Value) (od : Option Addr) (dV kV doc pm : Value) (an : Option Addr) (cdv ct : Value) (osl : Array (Option Value)),
    fd = PySem.W.fnOf x qual (defArgs st) (defBody st) (defScope st) dV kV doc pm an cdv ct ∧ K.lookup f = some ⟨oc, od, .func fd, osl⟩ ∧ PySem.W.codeIn K cdv qual = true
theorem fd_mk {K : PySem.W.Frag} {x qual : Str} {st : Stmt} {f : Addr} {oc : Value} {od an : Option Addr} {osl : Array (Option Value)} {dV kV doc pm cdv ct : Value} (l : K.lookup f = some ⟨oc, od, .func (PySem.W.fnOf x qual (defArgs st) (defBody st) (defScope st) dV kV doc pm an cdv ct), osl⟩)
    (c : PySem.W.codeIn K cdv qual = true) : Fd K x qual st f (PySem.W.fnOf x qual (defArgs st) (defBody st) (defScope st) dV kV doc pm an cdv ct) := ⟨⟨oc, od, dV, kV, doc, pm, an, cdv, ct, osl, rfl, l, c⟩⟩
structure DefOk (K : PySem.W.Frag) (Z : Tb) (T : Tab) (d : Df) (f : Addr) (fd : FuncData) (ps : List Str) : Prop where
  ex : ∃ x qual st N, Fd K x qual st f fd ∧ okD Z T d N ps st = true
/-- all that is known of a law's text -/
structure LawF (mg : Str → Option Value) (Z : Tb) (T : Tab) (D : List Df) (G : Cfg) (fa : Nat → Addr) (fd : Nat → FuncData) (ps : Nat → List Str) : Prop where
  hNM : G.NM = Z.NM
  fld : ClsOk G T
  bl : ∀ x, Z.bl.contains x = true → mg x = none
  df : ∀ i d, D[i]? = some d → DefOk G.K Z T d (fa i) (fd i) (ps i)
  fns : ∀ x f, Z.fns.lookup x = some f → mg x = some (.ref (fa f)) ∧ PySem.W.keepIn G.K (.ref (fa f)) = true ∧ ∀ ds, dsOk Z f ds = true → DefsOk G.K (fd f) (ps f) ds
  cls : ∀ x c f, Z.cls.lookup x = some (c, f) → mg x = some (.ref (G.ca c)) ∧ Mk G.K (G.ca c) (fa f) ∧ ∀ ds, dsOk Z f ds = true → DefsOk G.K (fd f) (ps f) ds
  cst : ∀ x ks, Z.cst.lookup x = some ks → ∃ p, mg x = some (.ref p) ∧ ∀ H, SqT G.K H p (ks.map V.str)
  mts : ∀ m n c fds, Z.mts.contains (m, n) = true → T.mt c m = some fds → Cls G.K (G.ca c) ∧ Meth G.K (G.ca c) (G.nm m) (fa fds.1) ∧ DefsOk G.K (fd fds.1) (ps fds.1) (fds.2.drop n)
  exs : ∀ x c, Z.exs.lookup x = some c → mg x = some (.ref (G.ca c))
  exr : ∀ c, Z.exr.contains c = true → PySem.W.keepIn G.K (.ref (G.ca c)) = true ∧ PySem.W.subIn G.K (.ref (G.ca c)) (.type "BaseException") = some true ∧ PySem.W.typeIn G.K (.ref (G.ca c)) = some (.type "type") ∧
    ∃ B newId initId bmB, ExcBaseFacts B newId initId bmB ∧ PySem.W.excIn G.K (G.ca c) bmB newId = true
  cat : ∀ j c b, T.catches j c = some b → PySem.W.exmOne G.K (.ref (G.ca c)) (.ref (G.ca j)) = some b
  gc : ∀ x v, Z.gc.lookup x = some v → ∃ u, mg x = some u ∧ RelV (cV v) u ∧ cOk v = true
  cfn : ∀ x m f, Z.cfn.lookup (x, m) = some f → ∃ C, mg x = some (.ref C) ∧ ClX.CRead G.K C (.type "type") ∧ ClX.CVal G.K C (.type "type") m (.ref (fa f)) (.ref (fa f)) ∧ PySem.W.keepIn G.K (.ref (fa f)) = true ∧ ∀ ds, dsOk Z f ds = true → DefsOk G.K (fd f) (ps f) ds
  isi : ∀ y j, Z.isc.lookup y = some j → mg y = some (.ref (G.ca j)) ∧ ∀ c b, T.isI j c = some b → InsI G.K (G.ca c) ∧ PySem.W.kitOne G.K (.ref (G.ca c)) (.ref (G.ca j)) = some b

section
variable {P : Program} {w : World} {mg : Str → Option Value} {base : Heap} {Z : Tb} {T : Tab} {D : List Df} {G : Cfg} {fa : Nat → Addr} {fd : Nat → FuncData} {ps : Nat → List Str}

theorem renv_start {μ : List Addr} {H : Hp} {N : List Str} {vs : List Val} {xs : List V} {n : Nat} (r : RVs μ H vs xs) (h : N.length - xs.length = n) : REnv μ H (vs.map some ++ List.replicate n none) (L2.start N xs) := by
  unfold L2.start
  rw [h]
  have hl := r.length
  refine ⟨by simp [hl], fun i v hv => ?_⟩
  by_cases hi : i < vs.length
  · rw [List.getElem?_append_left (by simpa using hi), List.getElem?_map] at hv
    rw [List.getElem?_append_left (by simpa [← hl] using hi), List.getElem?_map]
    cases e : vs[i]? with
    | none => rw [e] at hv; cases hv
    | some a =>
      rw [e] at hv
      cases hv
      obtain ⟨x, hx, rx⟩ := r.get e
      exact ⟨x, by rw [hx]; rfl, rx⟩
  · rw [List.getElem?_append_right (by simpa using Nat.le_of_not_lt hi), List.getElem?_replicate] at hv
    split at hv <;> cases hv
theorem out_run {E : XK} {μ : List Addr} {H : Hp} {o : Out} {Q : VK} (h : After G (WofE E) [] μ H (fin o) (Kv Q)) : AfterO G (WofE E) μ H o { nx := fun _ H' => Q .non H', rt := Q } := by
  cases o with
  | nx e S => exact fun μ' H' σ' u k s r => h μ' H' u k s _ .non
  | rt v S => exact fun μ' H' x u k s r => h μ' H' u k s _ r
  | bk e S => exact h.elim
  | ct e S => exact h.elim
  | ex x e S => exact fun μ' H' σ' d u k s r rx => h μ' H' d u k s rx
  | no => exact h.elim
theorem run_some {n i : Nat} {d : Df} {vs : List Val} {S : Store} (h : D[i]? = some d) (hl : vs.length = d.np) : run T D (n + 1) i vs S = fin (ex T (run T D n) d.body (vs.map some ++ List.replicate (d.nn - d.np) none) S) := by
  simp only [run, h, if_pos hl]
theorem run_no {n i : Nat} {vs : List Val} {S : Store} (h : D[i]? = none) : run T D n i vs S = .no := by
  cases n with
  | zero => rfl
  | succ n => simp only [run, h]
theorem run_len {n i : Nat} {d : Df} {vs : List Val} {S : Store} (h : D[i]? = some d) (hl : ¬ vs.length = d.np) : run T D n i vs S = .no := by
  cases n with
  | zero => rfl
  | succ n => simp only [run, h, if_neg hl]

theorem room_hu {k : Nat} {A : Around} (r : Room k A) : A.units + 65 < cLine := by have := r.un; omega
/-- EVERY def, by the fuel -/
theorem all_ok (L : LawF mg Z T D G fa fd ps) : ∀ n i, FnOk P w G.K mg base (L2.CX P w) (2 * n) (fa i) (fd i) (ps i) (SpF G (run T D n) i) := by
  intro n
  induction n with
  | zero =>
    intro i
    exact ⟨fun vs H Q E ⟨μ, vs', S, s, r, h⟩ => h.elim, fun A outer s H args us vs Q E _ _ _ _ ⟨μ, vs', S, sm, r, h⟩ => h.elim⟩
  | succ n ih =>
    intro i
    cases hd : D[i]? with
    | none => exact ⟨fun vs H Q E ⟨μ, vs', S, s, r, h⟩ => (by rw [run_no hd] at h; exact h.elim), fun A outer s H args us vs Q E _ _ _ _ ⟨μ, vs', S, sm, r, h⟩ => (by rw [run_no hd] at h; exact h.elim)⟩
    | some d =>
      obtain ⟨x, qual, st, N, F, hok⟩ := (L.df i d hd).ex
      obtain ⟨oc, od, dV, kV, doc, pm, an, cdv, ct, osl, e, lk, hcd⟩ := F.ex
      unfold okD at hok
      simp only [Bool.and_eq_true, decide_eq_true_eq] at hok
      obtain ⟨⟨⟨k1, k2⟩, k3⟩, k4⟩ := hok
      have SC := scOk_ok k1
      rw [e] at lk ⊢
      refine fn_of (k := 2 * n + 1) lk hcd SC (fun vs H Q E ⟨μ, vs', S, s, r, h⟩ => ?_) (fun A outer s H vs Q E hr ⟨μ, vs', S, sm, r, h⟩ => ?_)
      · by_cases hl : vs'.length = d.np
        · rw [← r.length, hl, k2]
        · rw [run_len hd hl] at h; exact h.elim
      · by_cases hl : vs'.length = d.np
        · rw [run_some hd hl] at h
          have h2 := out_run h
          refine ⟨liftS G (WofE E) (ex T (run T D n) d.body), ?_, μ, _, S, sm, renv_start r ?_, h2⟩
          · have hu := room_hu hr
            exact (goodS Z T G (run T D n) (2 * n) d.body).b ⟨N, defScope st, fun _ => true, false⟩ _ (WofE E) _
              ⟨rfl, L.hNM, SC.nd, hu, L.fld, L.bl,
                fun y f hy => let ⟨q1, q2, q3⟩ := L.fns y f hy; ⟨_, _, _, q1, q2, ih f, q3⟩,
                fun y c f hy => let ⟨q1, q2, q3⟩ := L.cls y c f hy; ⟨_, _, _, q1, q2, ih f, q3⟩, L.cst,
                fun m n' c fds h1 h2 => let ⟨q1, q2, q3⟩ := L.mts m n' c fds h1 h2; ⟨_, _, _, q1, q2, ih fds.1, q3⟩, L.exs,
                fun c hc => let ⟨q1, q2, q3, q4⟩ := L.exr c hc; ⟨q1, raises_own q2 q3, q4⟩, L.cat, L.gc, fun y m f hy => let ⟨C, q1, q2, q3, q4, q5⟩ := L.cfn y m f hy; ⟨C, _, _, _, q1, q2, q3, q4, ih f, q5⟩, L.isi⟩
              ⟨⟨rfl, rfl, rfl, fun _ => ⟨hr, rfl⟩⟩, fun _ => passes_of rfl, rfl, rfl⟩ (takes_of rfl rfl rfl rfl) k4
          · rw [← r.length, hl, k3]
        · rw [run_len hd hl] at h; exact h.elim
end
end Nw

set_option Elab.async false
set_option linter.all false
set_option maxRecDepth 100000
set_option maxHeartbeats 4000000
namespace Nw
open PySem L2

/-! the law's end -/
def spLaw (K : PySem.W.Frag) : Sp := fun vs H Q _ => ∃ (a : Addr) (ns : List Int), vs = [.ref a] ∧ Lk K H a (ns.map V.int) ∧ ns.length ≤ 63 ∧ ∀ H', Q (.bl true) H'
theorem lk_of {K : PySem.W.Frag} {H : Hp} {a : Addr} {xs : List V} (hO : Only H) (h : SqL K H a xs) : Lk K H a xs := by
  rcases h with (h | h) | h
  · rcases hO a with n | ⟨o, ys, n⟩
    · rw [n] at h; cases h
    · rw [n] at h; cases h
  · exact .inl h
  · exact .inr h
theorem sim_law {G : Cfg} {H : Hp} {a : Addr} {ns : List Int} (h : Lk G.K H a (ns.map V.int)) : Sim G [a] [.lst true (ns.map .int)] H where
  len := rfl
  ob := fun i o e => by
    match i with
    | 0 => cases e; exact ⟨a, rfl, _, h, RVs.of_ints ns⟩
    | i + 1 => cases e
  inj := fun i j oi oj b ei ej ni nj _ _ => by
    match i with
    | 0 => cases ei; cases ni
    | i + 1 => cases ei
structure LawAt (mg : Str → Option Value) (K : PySem.W.Frag) (Z : Tb) (T : Tab) (D : List Df) (iL : Nat) (x : Str) (f : Addr) : Prop where
  ex : ∃ (G : Cfg) (fa : Nat → Addr) (fd : Nat → FuncData) (ps : Nat → List Str), G.K = K ∧ LawF mg Z T D G fa fd ps ∧ fa iL = f ∧ ps iL = [x] ∧ ∀ (s : Shared) (u : Value), BindsTo s (fd iL) ⟨[u], []⟩ [(x, u)]
theorem law_ok {P : Program} {w : World} {mg : Str → Option Value} {K : PySem.W.Frag} {Z : Tb} {T : Tab} {D : List Df} {iL n : Nat} {x : Str} {f : Addr} (L : LawAt mg K Z T D iL x f)
    (HL : ∀ ns : List Int, ns.length ≤ 63 → ∃ S, run T D n iL [.obj 0] [.lst true (ns.map .int)] = .ok (.bl true) S) :
    ∃ fd : FuncData, (∀ (s : Shared) (u : Value), BindsTo s fd ⟨[u], []⟩ [(x, u)]) ∧ ∀ base : Heap, K.In base → base.Ns mainGlobals mg → FnOk P w K mg base (L2.CX P w) (2 * n) f fd [x] (spLaw K) := by
  obtain ⟨G, fa, fd, ps, rfl, LF, rfl, hp, hb⟩ := L.ex
  refine ⟨fd iL, hb, fun base _ _ => ?_⟩
  rw [← hp]
  refine (all_ok LF n iL).imp fun vs H Q E ⟨a, ns, e1, e2, e3, q⟩ => ?_
  subst e1
  obtain ⟨S, hr⟩ := HL ns e3
  refine ⟨[a], [.obj 0], [.lst true (ns.map .int)], sim_law e2, .one (.obj (by rfl)), ?_⟩
  rw [hr]
  intro μ' H' u k s v rv
  cases rv
  exact q H'
theorem law_walk {l : PySem.W.OpenLaw} {q : Program} {loose : List Str} {XP : (Str → Option Value) → Heap → Prop} {YP : World → Heap → Prop} {d : DefRec} {K : Params → PySem.W.Frag} {Z : Tb} {T : Tab} {D : List Df} {iL : Nat} {x : Str} (n : Nat) (hr : Room (2 * n) callerA)
    (hn : l.most = some 63) (hdf : d.params.defaults = [])
    (HL : ∀ ns : List Int, ns.length ≤ 63 → ∃ S, run T D n iL [.obj 0] [.lst true (ns.map .int)] = .ok (.bl true) S)
    (hY : ∀ (w : World) (h : Heap), YP w h → (K w.params).In h)
    (F : ∀ (w : World) (mg : Str → Option Value) (fa : Addr) (h : Heap), (K w.params).In h → h.Ns mainGlobals mg → mg d.name = some (.ref fa) → LawAt mg (K w.params) Z T D iL x fa) :
    PySem.W.WalkO q loose XP YP l.row.toRowW d [] (fun f vs => PySem.call f vs) :=
  L2.walk_of (n := 63) (k := 2 * n) (x := x) (CX := fun w => L2.CX l.prog w) (sp := fun w => spLaw (K w.params)) hn (by decide) hdf hr hY (fun w mg fa h k1 k2 k3 => law_ok (F w mg fa h k1 k2 k3) HL)
    (fun _ _ a ns hl hO hS => ⟨a, ns, rfl, lk_of hO hS, hl, fun _ => rfl⟩) fun w H s e s' ⟨_, _, _, _, _, _, _, _, _, _, _, _, z⟩ => z

theorem ds_none {K : PySem.W.Frag} {Z : Tb} {fd : FuncData} {ps : List Str} {f : Nat} (h : (Z.dss.any fun p => p.1 == f) = false) (B : Binds K fd ps []) : ∀ ds, dsOk Z f ds = true → DefsOk K fd ps ds := by
  intro ds hd
  unfold dsOk at hd
  simp only [Bool.or_eq_true] at hd
  rcases hd with hd | hd
  · rw [isEmp_nil hd]
    exact ⟨rfl, [], B, .nil⟩
  · obtain ⟨p, hp, hq⟩ := List.any_eq_true.mp hd
    have := List.any_eq_false.mp h p hp
    simp only [Bool.and_eq_true] at hq
    exact absurd hq.1 this
theorem defs_nil {K : PySem.W.Frag} {fd : FuncData} {ps : List Str} (B : Binds K fd ps []) (n : Nat) : DefsOk K fd ps (([] : List Val).drop n) := by
  rw [List.drop_nil]
  exact ⟨rfl, [], B, .nil⟩
theorem sqt_of {K : PySem.W.Frag} {H : Hp} {p : Addr} {qd : Option Addr} {its : Array Value} {n : Nat} {sl : Array (Option Value)} {ks : List Str} (h : K.lookup p = some ⟨.type "tuple", qd, .seq its n, sl⟩) (hz : its.size ≤ sizeLine) (hv : Vals (ks.map V.str) its.toList) : SqT K H p (ks.map V.str) :=
  .inr ⟨_, its, n, h, rfl, rfl, hz, hv⟩
/-- the defaults that calls fill up with -/
theorem ds_some {K : PySem.W.Frag} {Z : Tb} {fd : FuncData} {ps : List Str} {f : Nat} (h : ∀ p ∈ Z.dss, p.1 = f → DefsOk K fd ps p.2) (B : Binds K fd ps []) : ∀ ds, dsOk Z f ds = true → DefsOk K fd ps ds := by
  intro ds hd
  unfold dsOk at hd
  simp only [Bool.or_eq_true] at hd
  rcases hd with hd | hd
  · rw [isEmp_nil hd]
    exact ⟨rfl, [], B, .nil⟩
  · obtain ⟨p, hp, hq⟩ := List.any_eq_true.mp hd
    simp only [Bool.and_eq_true, beq_iff_eq] at hq
    rw [← dsEq_eq hq.2]
    exact h p hp hq.1
theorem binds_full {K : PySem.W.Frag} {fd : FuncData} {ps : List Str} (h : ∃ us, Vals [] us ∧ Binds K fd ps us) : Binds K fd ps [] := by
  obtain ⟨us, h1, h2⟩ := h
  cases h1
  exact h2
theorem defs_of {K : PySem.W.Frag} {fd : FuncData} {ps : List Str} {ds : List Val} {dvs : List V} (h : ∃ us, Vals dvs us ∧ Binds K fd ps us) (e : ds.map cV = dvs) (hc : ds.all cOk = true) : DefsOk K fd ps ds := by
  obtain ⟨us, h1, h2⟩ := h
  exact ⟨hc, us, h2, by rw [e]; exact h1⟩
/-- what an except clause takes -/
theorem exm_gen {K : PySem.W.Frag} {x j : Addr} {b : Bool} (h1 : PySem.W.subIn K (.ref j) (.type "BaseException") = some true) (h2 : PySem.W.isClsIn K j = true) (h3 : PySem.W.typeIn K (.ref j) = some (.type "type")) (h4 : PySem.W.subIn K (.ref x) (.ref j) = some b) :
    PySem.W.exmOne K (.ref x) (.ref j) = some b := by
  have g1 : (PySem.W.subIn K (.ref j) (.type "BaseException") == some true) = true := by rw [h1]; rfl
  have h2' : (PySem.W.clsIn K j).isSome = true := h2
  have g2 : ((PySem.W.clsIn K j).isSome && PySem.W.typeIn K (.ref j) == some (.type "type")) = true := by rw [h2', h3]; rfl
  unfold PySem.W.exmOne
  rw [if_pos g1]
  show (if _ then _ else _) = _
  rw [if_pos g2]
  exact h4
theorem kit_gen {K : PySem.W.Frag} {x j : Addr} {b : Bool} (h1 : (x == j) = false) (h2 : PySem.W.isClsIn K j = true) (h3 : PySem.W.typeIn K (.ref j) = some (.type "type")) (h4 : PySem.W.subIn K (.ref x) (.ref j) = some b) :
    PySem.W.kitOne K (.ref x) (.ref j) = some b := by
  have h0 : ((Value.ref x) == (Value.ref j)) = false := by
    have : x ≠ j := by simpa using h1
    rw [beq_eq_false_iff_ne]
    intro e; injection e with e; exact this e
  have h2' : (PySem.W.clsIn K j).isSome = true := h2
  have g2 : ((PySem.W.clsIn K j).isSome && PySem.W.typeIn K (.ref j) == some (.type "type")) = true := by rw [h2', h3]; rfl
  unfold PySem.W.kitOne
  rw [if_neg (by rw [h0]; decide)]
  show (if _ then _ else _) = _
  rw [if_pos g2]
  exact h4
theorem kit_self {K : PySem.W.Frag} {x : Addr} : PySem.W.kitOne K (.ref x) (.ref x) = some true := by
  unfold PySem.W.kitOne
  rw [if_pos (by simp)]
/-! tables, by their rows -/
def AllP {α β : Type} (P : α → β → Prop) : List (α × β) → Prop
  | [] => True
  | (a, b) :: r => P a b ∧ AllP P r
theorem AllP.get {α β : Type} [BEq α] [LawfulBEq α] {P : α → β → Prop} : ∀ {l : List (α × β)}, AllP P l → ∀ x y, l.lookup x = some y → P x y
  | [], _, _, _, h => by cases h
  | (a, b) :: r, ⟨h1, h2⟩, x, y, h => by
    rw [List.lookup_cons] at h
    split at h
    · rename_i e
      cases h
      rw [eq_of_beq e]
      exact h1
    · exact h2.get x y h
def AllQ {α : Type} (P : α → Prop) : List α → Prop
  | [] => True
  | a :: r => P a ∧ AllQ P r
theorem AllQ.mem {α : Type} {P : α → Prop} : ∀ {l : List α}, AllQ P l → ∀ x, x ∈ l → P x
  | [], _, _, h => by cases h
  | a :: r, ⟨h1, h2⟩, x, h => by
    rcases List.mem_cons.mp h with rfl | h
    · exact h1
    · exact h2.mem x h
theorem AllQ.has {α : Type} [BEq α] [LawfulBEq α] {P : α → Prop} {l : List α} (h : AllQ P l) : ∀ x, l.contains x = true → P x := fun x hx => h.mem x (List.contains_iff_mem.mp hx)
def AllI (P : Nat → Df → Prop) : Nat → List Df → Prop
  | _, [] => True
  | n, d :: r => P n d ∧ AllI P (n + 1) r
theorem AllI.get {P : Nat → Df → Prop} : ∀ {l : List Df} {n : Nat}, AllI P n l → ∀ i d, l[i]? = some d → P (n + i) d
  | [], _, _, _, _, h => by cases h
  | a :: r, n, ⟨h1, h2⟩, i, d, h => by
    cases i with
    | zero => cases h; exact h1
    | succ i => rw [show n + (i + 1) = n + 1 + i by omega]; exact h2.get i d h
theorem AllI.get0 {P : Nat → Df → Prop} {l : List Df} (h : AllI P 0 l) (i : Nat) (d : Df) (e : l[i]? = some d) : P i d := by
  have := h.get i d e
  rwa [Nat.zero_add] at this
end Nw

set_option Elab.async false
set_option maxRecDepth 100000
namespace Nw.k54
open PySem L2 Nw
/-! the defs of the text, as terms -/
def b0_1 : PyS :=
  (.seq .skip .skip)
def b0 : PyS :=
  (.seq (.whl (.c (.bl true)) b0_1) .skip)
def b1_1 : PyS :=
  (.seq (.setF (.var 0) 2 (.var 3)) (.seq (.setF (.var 0) 3 (.c (.int 0))) .skip))
def b1_2 : PyS :=
  (.seq (.setF (.var 0) 1 (.var 2)) b1_1)
def b1 : PyS :=
  (.seq (.setF (.var 0) 0 (.var 1)) b1_2)
def b2_1 : PyS :=
  (.seq (.augF (.var 0) 3 .add (.c (.int 1))) (.seq (.ret (.idx (.fld (.var 0) 0) (.bin .sub (.fld (.var 0) 3) (.c (.int 1))))) .skip))
def b2 : PyS :=
  (.seq (.ite (.cmp .eq (.fld (.var 0) 3) (.bi .len (.cons (.fld (.var 0) 0) .nil))) (.seq (.ret (.c .non)) .skip) .skip) b2_1)
def b3 : PyS :=
  (.seq (.ret (.c (.bl false))) .skip)
def b4 : PyS :=
  (.seq (.ret (.c (.str "out"))) .skip)
def b5 : PyS :=
  (.seq (.ret (.c (.str "out"))) .skip)
def b6 : PyS :=
  (.seq (.ret (.bi .list_ (.cons (.sl (.fld (.var 0) 0) true (.fld (.var 0) 3) false .nil) .nil))) .skip)
def b7 : PyS :=
  (.seq (.expr (.call 1 (.cons (.var 0) (.cons (.var 1) (.cons (.var 2) .nil))) [.non])) (.seq (.setF (.var 0) 4 (.bin .sub (.var 3) (.c (.int 1)))) .skip))
def b8_1 : PyS :=
  (.seq (.setF (.var 0) 3 (.c (.int 0))) (.seq (.ret (.c (.str "on"))) .skip))
def b8_2 : PyS :=
  (.seq (.augF (.var 0) 4 .sub (.c (.int 1))) b8_1)
def b8 : PyS :=
  (.seq (.ite (.cmp .eq (.fld (.var 0) 4) (.c (.int 0))) (.seq (.ret (.c (.str "out"))) .skip) .skip) b8_2)
def b9 : PyS :=
  (.seq (.ite (.cmp .gt (.fld (.var 0) 4) (.c (.int 0))) (.seq (.ret (.bi .list_ (.cons (.fld (.var 0) 0) .nil))) .skip) .skip) (.seq (.ret (.call 6 (.cons (.var 0) .nil) [])) .skip))
def b10 : PyS :=
  (.seq (.ret (.c (.bl true))) .skip)
def b11_1 : PyS :=
  (.seq (.setF (.var 0) 5 (.var 3)) (.seq (.setF (.var 0) 6 (.var 4)) .skip))
def b11 : PyS :=
  (.seq (.expr (.call 1 (.cons (.var 0) (.cons (.var 1) (.cons (.var 2) .nil))) [.non])) b11_1)
def b12 : PyS :=
  (.seq (.ite (.and (.cmp .eq (.idx (.var 1) (.c (.int 0))) (.c (.str "faults"))) (.cmp .mem (.fld (.var 0) 5) (.tup (.cons (.c (.str "any")) (.cons (.idx (.idx (.var 1) (.c (.int 1))) (.c (.int 0))) .nil))))) (.seq (.ret (.c (.str "caught"))) .skip) .skip) (.seq (.ret (.c (.str "out"))) .skip))
def b13 : PyS :=
  (.seq (.ret (.bin .add (.call 6 (.cons (.var 0) .nil) []) (.bi .list_ (.cons (.fld (.var 0) 6) .nil)))) .skip)
def b14_1 : PyS :=
  (.seq (.setF (.var 0) 7 (.c (.bl false))) (.seq (.setF (.var 0) 8 (.c .non)) .skip))
def b14_2 : PyS :=
  (.seq (.setF (.var 0) 6 (.var 3)) b14_1)
def b14 : PyS :=
  (.seq (.expr (.call 1 (.cons (.var 0) (.cons (.var 1) (.cons (.var 2) .nil))) [.non])) b14_2)
def b15_1 : PyS :=
  (.seq (.setF (.var 0) 7 (.c (.bl true))) (.seq (.setF (.var 0) 8 (.var 1)) .skip))
def b15_2 : PyS :=
  (.seq (.setF (.var 0) 3 (.c (.int 0))) b15_1)
def b15 : PyS :=
  (.seq (.setF (.var 0) 0 (.fld (.var 0) 6)) b15_2)
def b16 : PyS :=
  (.seq (.ret (.fld (.var 0) 7)) .skip)
def b17 : PyS :=
  (.seq (.ret (.ite (.fld (.var 0) 7) (.c (.str "out")) (.c (.str "clean")))) .skip)
def b18 : PyS :=
  (.seq (.ret (.ite (.fld (.var 0) 7) (.c (.str "out")) (.c (.str "clean")))) .skip)
def b19 : PyS :=
  (.seq (.ite (.fld (.var 0) 7) (.seq (.ret (.call 6 (.cons (.var 0) .nil) [])) .skip) .skip) (.seq (.ret (.bin .add (.call 6 (.cons (.var 0) .nil) []) (.bi .list_ (.cons (.fld (.var 0) 6) .nil)))) .skip))
def b20 : PyS :=
  (.seq (.expr (.call 1 (.cons (.var 0) (.cons (.var 1) (.cons (.var 2) (.cons (.var 3) .nil)))) [])) (.seq (.setF (.var 0) 6 (.var 4)) .skip))
def b21 : PyS :=
  (.seq (.ret (.ite (.cmp .eq (.var 1) (.tup (.cons (.c (.str "strike")) (.cons (.fld (.var 0) 2) .nil)))) (.c (.str "late")) (.c (.str "out")))) .skip)
def b22 : PyS :=
  (.seq (.ret (.bin .add (.call 6 (.cons (.var 0) .nil) []) (.bi .list_ (.cons (.fld (.var 0) 6) .nil)))) .skip)
def b23_1 : PyS :=
  (.seq (.setF (.var 0) 8 (.c .non)) (.seq (.setF (.var 0) 10 (.c .non)) .skip))
def b23_2 : PyS :=
  (.seq (.setF (.var 0) 9 (.var 4)) b23_1)
def b23 : PyS :=
  (.seq (.expr (.call 1 (.cons (.var 0) (.cons (.var 1) (.cons (.var 2) (.cons (.var 3) .nil)))) [])) b23_2)
def b24 : PyS :=
  (.seq (.ret (.ite (.isN false (.fld (.var 0) 10)) (.c (.str "join")) (.c (.str "leave")))) .skip)
def b25 : PyS :=
  (.seq (.ret (.c (.str "halt"))) .skip)
def b26_1 : PyS :=
  (.seq (.setF (.var 0) 18 (.c (.int 1))) (.seq (.setF (.var 0) 19 (.c .non)) .skip))
def b26_2 : PyS :=
  (.seq (.setF (.var 0) 17 (.c (.int 0))) b26_1)
def b26_3 : PyS :=
  (.seq (.setF (.var 0) 16 (.c (.bl false))) b26_2)
def b26_4 : PyS :=
  (.seq (.setF (.var 0) 15 (.c .non)) b26_3)
def b26_5 : PyS :=
  (.seq (.setF (.var 0) 14 (.c .non)) b26_4)
def b26_6 : PyS :=
  (.seq (.setF (.var 0) 13 .dnewK) b26_5)
def b26_7 : PyS :=
  (.seq (.setF (.var 0) 12 .dnewK) b26_6)
def b26 : PyS :=
  (.seq (.setF (.var 0) 11 (.lst (.cons (.new 0 1 (.cons (.var 1) (.cons (.c (.int 0)) (.cons (.c (.int 0)) .nil))) []) .nil))) b26_7)
def b27 : PyS :=
  (.seq (.ite (.or (.bi (.isi .int) (.cons (.var 1) .nil)) (.bm .startswith (.var 1) (.cons (.c (.str ":")) .nil))) (.seq (.ret (.var 1)) .skip) .skip) (.seq (.ret (.bm .get2 (.fld (.var 0) 12) (.cons (.var 1) (.cons (.c (.int 0)) .nil)))) .skip))
def b28 : PyS :=
  (.seq (.expr (.call 0 (.cons (.c (.int 0)) .nil) [])) .skip)
def b29 : PyS :=
  (.seq (.expr (.call 0 (.cons (.c (.int 1)) .nil) [])) .skip)
def b30_1 : PyS :=
  (.seq (.ite (.meth (.var 2) 20 0 .nil) (.seq .brk .skip) .skip) .skip)
def b30_2 : PyS :=
  (.seq (.ite (.cmp .mem (.fld (.var 2) 2) (.fld (.var 0) 13)) (.seq (.asg 1 (.fld (.var 2) 2)) .skip) .skip) b30_1)
def b30_3 : PyS :=
  (.seq (.for_ false [2] .rv (.cons (.fld (.var 0) 11) .nil) b30_2) (.seq (.ret (.var 1)) .skip))
def b30 : PyS :=
  (.seq (.asg 1 (.c .non)) b30_3)
def b31 : PyS :=
  (.seq (.ret (.comp (.fld (.var 1) 2) false [1] .val (.cons (.fld (.var 0) 11) .nil) (.isN true (.fld (.var 1) 2)))) .skip)
def b32 : PyS :=
  (.seq (.ret (.fld (.var 0) 15)) .skip)
def b33 : PyS :=
  (.seq (.expr (.call 0 (.cons (.c (.int 2)) .nil) [])) .skip)
def b34 : PyS :=
  (.seq (.ret (.fld (.var 0) 19)) .skip)
def b35 : PyS :=
  (.seq (.setF (.var 0) 15 (.c .non)) (.seq (.setF (.var 0) 16 (.c (.bl true))) .skip))
def b36 : PyS :=
  (.seq (.ite (.cmp .mem (.idx (.fld (.var 0) 15) (.c (.int 0))) (.tup (.cons (.c (.str "take")) (.cons (.c (.str "ask")) .nil)))) (.seq (.setI (.fld (.var 0) 12) (.idx (.fld (.var 0) 15) (.c (.int 3))) (.var 1)) .skip) .skip) (.seq (.setF (.var 0) 15 (.c .non)) .skip))
def b37 : PyS :=
  (.seq (.expr (.call 0 (.cons (.c (.int 3)) .nil) [])) .skip)
def b38 : PyS :=
  (.seq (.setF (.var 0) 15 (.c .non)) (.seq (.setF (.idx (.fld (.var 0) 11) (.neg (.c (.int 1)))) 10 (.var 1)) .skip))
def b39_1 : PyS :=
  (.seq (.ite (.isN true (.fld (.var 0) 14)) (.seq (.asg 1 (.meth (.var 0) 22 0 .nil)) .skip) (.seq (.asg 1 (.meth (.var 0) 23 0 .nil)) .skip)) .skip)
def b39_2 : PyS :=
  (.seq (.ite (.or (.inK false (.idx (.var 1) (.c (.int 0))) ["wait", "hear", "take", "ask"]) (.cmp .mem (.idx (.var 1) (.c (.int 0))) (.tup (.cons (.c (.str "join")) (.cons (.c (.str "halt")) .nil))))) (.seq (.setF (.var 0) 15 (.var 1)) .skip) .skip) (.seq (.ret (.var 1)) .skip))
def b39_3 : PyS :=
  (.seq (.whl (.isN false (.var 1)) b39_1) b39_2)
def b39_4 : PyS :=
  (.seq (.asg 1 (.c .non)) b39_3)
def b39 : PyS :=
  (.seq (.ite (.fld (.var 0) 16) (.seq (.setF (.var 0) 14 (.tup (.cons (.c (.str "strike")) (.cons (.meth (.var 0) 21 0 .nil) .nil)))) (.seq (.setF (.var 0) 16 (.c (.bl false))) .skip)) .skip) b39_4)
def b40_1 : PyS :=
  (.seq (.expr (.bm .pop2 (.fld (.var 0) 13) (.cons (.fld (.var 1) 2) (.cons (.c .non) .nil)))) (.seq (.ret (.var 1)) .skip))
def b40 : PyS :=
  (.seq (.asg 1 (.bm .pop0 (.fld (.var 0) 11) .nil)) b40_1)
def b41_1 : PyS :=
  (.seq (.setF (.var 0) 14 (.c .non)) (.seq (.ret (.tup (.cons (.c (.str "ended")) (.cons (.c (.int 0)) (.cons (.var 1) .nil))))) .skip))
def b41 : PyS :=
  (.seq (.setF (.var 0) 19 (.var 1)) b41_1)
def b42_1 : PyS :=
  (.seq (.ite (.isC 4 (.var 1)) (.seq (.setF (.var 0) 14 (.fld (.var 1) 8)) .skip) .skip) .skip)
def b42_2 : PyS :=
  (.seq (.ite (.cmp .eq (.var 3) (.c (.str "out"))) (.seq (.expr (.meth (.var 0) 31 0 .nil)) b42_1) .skip) (.seq (.ret (.c .non)) .skip))
def b42_3 : PyS :=
  (.seq (.ite (.and (.cmp .eq (.var 3) (.c (.str "out"))) (.cmp .eq (.bi .len (.cons (.fld (.var 0) 11) .nil)) (.c (.int 1)))) (.seq (.ret (.meth (.var 0) 30 1 (.cons (.tup (.cons (.c (.str "value")) (.cons (.fld (.var 0) 17) .nil))) .nil))) .skip) .skip) b42_2)
def b42_4 : PyS :=
  (.seq (.ite (.cmp .eq (.var 3) (.c (.str "clean"))) (.seq (.expr (.meth (.var 1) 29 1 (.cons (.c .non) .nil))) (.seq (.ret (.tup (.cons (.c (.str "clean")) (.cons (.fld (.var 1) 1) .nil)))) .skip)) .skip) b42_3)
def b42_5 : PyS :=
  (.seq (.ite (.cmp .eq (.var 3) (.c (.str "leave"))) (.seq (.ret (.meth (.var 0) 28 1 (.cons (.var 1) .nil))) .skip) .skip) b42_4)
def b42_6 : PyS :=
  (.seq (.ite (.cmp .eq (.var 3) (.c (.str "join"))) (.seq (.ret (.meth (.var 0) 27 1 (.cons (.tup (.cons (.c (.str "join")) (.cons (.fld (.var 1) 1) (.cons (.fld (.var 1) 2) .nil)))) .nil))) .skip) .skip) b42_5)
def b42_7 : PyS :=
  (.seq (.asg 3 (.meth (.var 1) 26 0 .nil)) b42_6)
def b42_8 : PyS :=
  (.seq (.ite (.isN true (.var 2)) (.seq (.ret (.meth (.var 0) 25 1 (.cons (.var 2) .nil))) .skip) .skip) b42_7)
def b42_9 : PyS :=
  (.seq (.asg 2 (.meth (.var 1) 24 0 .nil)) b42_8)
def b42 : PyS :=
  (.seq (.asg 1 (.idx (.fld (.var 0) 11) (.neg (.c (.int 1))))) b42_9)
def b43_1 : PyS :=
  (.seq (.ite (.cmp .ne (.fld (.var 1) 10) (.tup .nil)) (.seq (.setF (.var 0) 14 (.tup (.cons (.c (.str "faults")) (.cons (.fld (.var 1) 10) .nil)))) .skip) (.seq (.ite (.and (.isN true (.fld (.var 1) 8)) (.cmp .ne (.fld (.var 1) 8) (.tup (.cons (.c (.str "strike")) (.cons (.fld (.var 1) 2) .nil))))) (.seq (.setF (.var 0) 14 (.fld (.var 1) 8)) .skip) .skip) .skip)) (.seq (.ret (.tup (.cons (.c (.str "left")) (.cons (.fld (.var 1) 1) (.cons (.fld (.var 1) 2) .nil))))) .skip))
def b43 : PyS :=
  (.seq (.expr (.meth (.var 0) 31 0 .nil)) b43_1)
def b44_1 : PyS :=
  (.seq (.setF (.var 1) 8 (.var 2)) (.seq (.ret (.tup (.cons (.c (.str "halt")) (.cons (.fld (.var 1) 1) (.cons (.fld (.var 1) 2) (.cons (.tup .nil) .nil)))))) .skip))
def b44_2 : PyS :=
  (.seq (.ite (.cmp .eq (.idx (.var 2) (.c (.int 0))) (.c (.str "faults"))) (.seq (.ret (.tup (.cons (.c (.str "halt")) (.cons (.fld (.var 1) 1) (.cons (.fld (.var 1) 2) (.cons (.idx (.var 2) (.c (.int 1))) .nil)))))) .skip) .skip) b44_1)
def b44_3 : PyS :=
  (.seq (.ite (.cmp .eq (.var 3) (.c (.str "caught"))) (.seq (.ret (.tup (.cons (.c (.str "caught")) (.cons (.fld (.var 1) 1) (.cons (.idx (.var 2) (.c (.int 1))) .nil))))) .skip) .skip) (.seq (.ret (.tup (.cons (.c (.str "late")) (.cons (.fld (.var 1) 1) (.cons (.fld (.var 1) 2) .nil))))) .skip))
def b44_4 : PyS :=
  (.seq (.expr (.bm .append (.fld (.var 0) 11) (.cons (.new 0 1 (.cons (.fld (.var 1) 6) (.cons (.fld (.var 1) 1) .nil)) [.non]) .nil))) b44_3)
def b44_5 : PyS :=
  (.seq (.expr (.meth (.var 0) 31 0 .nil)) b44_4)
def b44_6 : PyS :=
  (.seq (.ite (.cmp .eq (.var 3) (.c (.str "halt"))) (.seq (.setF (.var 1) 3 (.bi .len (.cons (.fld (.var 1) 0) .nil))) b44_2) .skip) b44_5)
def b44_7 : PyS :=
  (.seq (.ite (.cmp .eq (.var 3) (.c (.str "clean"))) (.seq (.expr (.meth (.var 1) 29 1 (.cons (.var 2) .nil))) (.seq (.ret (.tup (.cons (.c (.str "clean")) (.cons (.fld (.var 1) 1) .nil)))) .skip)) .skip) b44_6)
def b44_8 : PyS :=
  (.seq (.setF (.var 0) 14 (.c .non)) b44_7)
def b44_9 : PyS :=
  (.seq (.ite (.cmp .eq (.var 3) (.c (.str "out"))) (.seq (.expr (.meth (.var 0) 31 0 .nil)) (.seq (.ret (.c .non)) .skip)) .skip) b44_8)
def b44_10 : PyS :=
  (.seq (.ite (.and (.cmp .eq (.var 3) (.c (.str "out"))) (.cmp .eq (.bi .len (.cons (.fld (.var 0) 11) .nil)) (.c (.int 1)))) (.seq (.ite (.cmp .eq (.idx (.var 2) (.c (.int 0))) (.c (.str "faults"))) (.seq (.ret (.meth (.var 0) 30 1 (.cons (.var 2) .nil))) .skip) .skip) (.seq (.ret (.meth (.var 0) 30 1 (.cons (.tup (.cons (.idx (.fld (.var 0) 13) (.c (.int 0))) .nil)) .nil))) .skip)) .skip) b44_9)
def b44_11 : PyS :=
  (.seq (.asg 3 (.meth (.var 1) 32 1 (.cons (.var 2) .nil))) b44_10)
def b44_12 : PyS :=
  (.seq (.asg 2 (.fld (.var 0) 14)) b44_11)
def b44 : PyS :=
  (.seq (.asg 1 (.idx (.fld (.var 0) 11) (.neg (.c (.int 1))))) b44_12)
def b45_1 : PyS :=
  (.seq (.setF (.var 0) 14 (.tup (.cons (.c (.str "strike")) (.cons (.var 2) .nil)))) (.seq (.ret (.c .non)) .skip))
def b45_2 : PyS :=
  (.seq (.ite (.isN false (.var 2)) (.seq (.ret (.var 1)) .skip) .skip) b45_1)
def b45 : PyS :=
  (.seq (.asg 2 (.meth (.var 0) 21 0 .nil)) b45_2)
def b46_1 : PyS :=
  (.seq (.ite (.cmp .eq (.var 2) (.c (.str "let"))) (.seq (.setI (.fld (.var 0) 12) (.idx (.var 1) (.c (.int 2))) (.meth (.var 0) 33 1 (.cons (.idx (.var 1) (.c (.int 3))) .nil))) .skip) (.seq (.ite (.cmp .eq (.var 2) (.c (.str "give"))) (.seq (.setF (.var 0) 17 (.meth (.var 0) 33 1 (.cons (.idx (.var 1) (.c (.int 2))) .nil))) .skip) (.seq (.ret (.meth (.var 0) 35 1 (.cons (.var 1) .nil))) .skip)) .skip)) (.seq (.ret (.tup (.cons (.c (.str "did")) (.cons (.var 3) .nil)))) .skip))
def b46_2 : PyS :=
  (.seq (.ite (.cmp .eq (.var 2) (.c (.str "off"))) (.seq (.asg 4 (.meth (.var 0) 34 1 (.cons (.idx (.var 1) (.c (.int 2))) .nil))) (.seq (.ret (.tup (.cons (.var 2) (.cons (.var 3) (.cons (.ite (.isN false (.var 4)) (.idx (.var 1) (.c (.int 2))) (.var 4)) .nil))))) .skip)) .skip) b46_1)
def b46_3 : PyS :=
  (.seq (.ite (.cmp .eq (.var 2) (.c (.str "begin"))) (.seq (.ret (.tup (.cons (.var 2) (.cons (.var 3) (.cons (.idx (.var 1) (.c (.int 2))) (.cons (.idx (.var 1) (.c (.int 3))) (.cons (.meth (.var 0) 34 1 (.cons (.idx (.var 1) (.c (.int 4))) .nil)) (.cons (.idx (.var 1) (.c (.int 5))) .nil)))))))) .skip) .skip) b46_2)
def b46_4 : PyS :=
  (.seq (.ite (.cmp .eq (.var 2) (.c (.str "send"))) (.seq (.ret (.tup (.cons (.var 2) (.cons (.var 3) (.cons (.idx (.var 1) (.c (.int 2))) (.cons (.meth (.var 0) 33 1 (.cons (.idx (.var 1) (.c (.int 3))) .nil)) .nil)))))) .skip) .skip) b46_3)
def b46_5 : PyS :=
  (.seq (.ite (.cmp .eq (.var 2) (.c (.str "ring"))) (.seq (.ret (.var 1)) .skip) .skip) b46_4)
def b46_6 : PyS :=
  (.seq (.ite (.cmp .eq (.var 2) (.c (.str "raise"))) (.seq (.setF (.var 0) 14 (.tup (.cons (.c (.str "faults")) (.cons (.tup (.cons (.idx (.var 1) (.c (.int 2))) .nil)) .nil)))) (.seq (.ret (.var 1)) .skip)) .skip) b46_5)
def b46_7 : PyS :=
  (.seq (.ite (.inK false (.var 2) ["wait", "hear", "take", "ask"]) (.seq (.ret (.meth (.var 0) 27 1 (.cons (.var 1) .nil))) .skip) .skip) b46_6)
def b46_8 : PyS :=
  (.seq (.asg 3 (.idx (.var 1) (.c (.int 1)))) b46_7)
def b46 : PyS :=
  (.seq (.asg 2 (.idx (.var 1) (.c (.int 0)))) b46_8)
def b47_1 : PyS :=
  (.seq (.ite (.and (.isC 6 (.var 2)) (.cmp .eq (.fld (.var 2) 9) (.var 1))) (.seq (.ret (.fld (.var 2) 2)) .skip) .skip) .skip)
def b47 : PyS :=
  (.seq (.for_ false [2] .rv (.cons (.fld (.var 0) 11) .nil) b47_1) (.seq (.ret (.c .non)) .skip))
def b48_1 : PyS :=
  (.seq (.expr (.bm .append (.fld (.var 0) 11) (.cons (.new 5 20 (.cons (.idx (.var 1) (.c (.int 3))) (.cons (.var 3) (.cons (.var 4) (.cons (.idx (.var 1) (.c (.int 4))) .nil)))) []) .nil))) (.seq (.ret (.tup (.cons (.var 2) (.cons (.var 3) (.cons (.var 4) (.cons (.idx (.var 1) (.c (.int 2))) .nil)))))) .skip))
def b48_2 : PyS :=
  (.seq (.ite (.cmp .eq (.var 2) (.c (.str "group"))) (.seq (.expr (.bm .append (.fld (.var 0) 11) (.cons (.new 6 23 (.cons (.idx (.var 1) (.c (.int 3))) (.cons (.var 3) (.cons (.var 4) (.cons (.idx (.var 1) (.c (.int 2))) .nil)))) []) .nil))) (.seq (.ret (.tup (.cons (.var 2) (.cons (.var 3) (.cons (.var 4) .nil))))) .skip)) .skip) b48_1)
def b48_3 : PyS :=
  (.seq (.augF (.var 0) 18 .add (.c (.int 1))) b48_2)
def b48_4 : PyS :=
  (.seq (.ite (.cmp .eq (.var 2) (.c (.str "when"))) (.seq (.ite (.cmp .eq (.meth (.var 0) 33 1 (.cons (.idx (.var 1) (.c (.int 2))) .nil)) (.meth (.var 0) 33 1 (.cons (.idx (.var 1) (.c (.int 3))) .nil))) (.seq (.expr (.bm .append (.fld (.var 0) 11) (.cons (.new 0 1 (.cons (.idx (.var 1) (.c (.int 4))) (.cons (.var 3) .nil)) [.non]) .nil))) .skip) .skip) .skip) (.seq (.ite (.cmp .eq (.var 2) (.c (.str "repeat"))) (.seq (.expr (.bm .append (.fld (.var 0) 11) (.cons (.new 1 7 (.cons (.idx (.var 1) (.c (.int 3))) (.cons (.var 3) (.cons (.idx (.var 1) (.c (.int 2))) .nil))) []) .nil))) .skip) (.seq (.ite (.cmp .eq (.var 2) (.c (.str "keep"))) (.seq (.expr (.bm .append (.fld (.var 0) 11) (.cons (.new 2 1 (.cons (.idx (.var 1) (.c (.int 2))) (.cons (.var 3) .nil)) [.non]) .nil))) .skip) (.seq (.ite (.cmp .eq (.var 2) (.c (.str "try"))) (.seq (.expr (.bm .append (.fld (.var 0) 11) (.cons (.new 3 11 (.cons (.idx (.var 1) (.c (.int 2))) (.cons (.var 3) (.cons (.idx (.var 1) (.c (.int 3))) (.cons (.idx (.var 1) (.c (.int 4))) .nil)))) []) .nil))) .skip) (.seq (.expr (.bm .append (.fld (.var 0) 11) (.cons (.new 4 14 (.cons (.idx (.var 1) (.c (.int 2))) (.cons (.var 3) (.cons (.idx (.var 1) (.c (.int 3))) .nil))) []) .nil))) .skip)) .skip)) .skip)) .skip)) (.seq (.ret (.tup (.cons (.c (.str "did")) (.cons (.var 3) .nil)))) .skip))
def b48_5 : PyS :=
  (.seq (.ite (.cmp .mem (.var 2) (.tup (.cons (.c (.str "group")) (.cons (.c (.str "limit")) .nil)))) (.seq (.asg 4 (.fld (.var 0) 18)) b48_3) .skip) b48_4)
def b48_6 : PyS :=
  (.seq (.asg 3 (.idx (.var 1) (.c (.int 1)))) b48_5)
def b48 : PyS :=
  (.seq (.asg 2 (.idx (.var 1) (.c (.int 0)))) b48_6)
def b49 : PyS :=
  (.seq (.expr (.call 0 (.cons (.c (.int 4)) .nil) [])) .skip)
def b50 : PyS :=
  (.seq (.ite (.cmp .lt (.var 1) (.bi .len (.cons (.var 0) .nil))) (.seq (.ret (.idx (.var 0) (.var 1))) .skip) .skip) (.seq (.ret (.c (.int 0))) .skip))
def b51 : PyS :=
  (.seq (.asg 2 (.bin .mod (.bin .mul (.bin .add (.bin .add (.var 0) (.bin .mul (.c (.int 7919)) (.var 1))) (.bin .mul (.bin .mul (.c (.int 104729)) (.var 1)) (.var 1))) (.c (.int 48271))) (.c (.int 2147483647)))) (.seq (.ret (.bin .mod (.bin .mul (.var 2) (.bin .add (.bin .add (.bin .mod (.var 2) (.c (.int 65537))) (.var 1)) (.c (.int 1)))) (.c (.int 2147483647)))) .skip))
def b52_1 : PyS :=
  (.seq (.asg 5 (.idx (.lst (.cons (.c (.str "group")) (.cons (.c (.str "limit")) (.cons (.c (.str "keep")) (.cons (.c (.str "try")) (.cons (.c (.str "do")) (.cons (.c (.str "when")) (.cons (.c (.str "repeat")) (.cons (.c (.str "group")) (.cons (.c (.str "limit")) (.cons (.c (.str "do")) .nil))))))))))) (.bin .mod (.var 4) (.c (.int 10))))) (.seq (.expr (.bm .append (.var 2) (.cons (.tup (.cons (.var 5) (.cons (.var 3) (.cons (.bin .fdiv (.var 4) (.c (.int 16))) .nil)))) .nil))) .skip))
def b52_2 : PyS :=
  (.seq (.asg 4 (.call 51 (.cons (.idx (.var 0) (.var 3)) (.cons (.bin .add (.var 3) (.bin .mul (.c (.int 50)) (.var 1))) .nil)) [])) b52_1)
def b52_3 : PyS :=
  (.seq (.for_ false [3] .range (.cons (.c (.int 1)) (.cons (.bi .min2 (.cons (.bi .len (.cons (.var 0) .nil)) (.cons (.c (.int 8)) .nil))) .nil)) b52_2) (.seq (.ret (.var 2)) .skip))
def b52 : PyS :=
  (.seq (.asg 2 (.lst .nil)) b52_3)
def b53_1 : PyS :=
  (.seq (.ite (.cmp .eq (.var 3) (.c (.str "group"))) (.seq (.asg 6 (.tup (.cons (.var 3) (.cons (.var 4) (.cons (.idx (.lst (.cons (.c (.str "ga")) (.cons (.c (.str "gb")) .nil))) (.bin .mod (.var 5) (.c (.int 2)))) (.cons (.var 2) .nil)))))) .skip) (.seq (.ite (.cmp .eq (.var 3) (.c (.str "limit"))) (.seq (.asg 6 (.tup (.cons (.var 3) (.cons (.var 4) (.cons (.bin .add (.c (.int 1)) (.bin .mod (.var 5) (.c (.int 99)))) (.cons (.var 2) (.cons (.bin .mul (.tup (.cons (.tup (.cons (.c (.str "ring")) (.cons (.bin .add (.c (.int 100)) (.var 4)) (.cons (.c (.str "late")) .nil)))) .nil)) (.bin .mod (.bin .fdiv (.var 5) (.c (.int 100))) (.c (.int 2)))) .nil))))))) .skip) (.seq (.ite (.cmp .eq (.var 3) (.c (.str "keep"))) (.seq (.asg 6 (.tup (.cons (.var 3) (.cons (.var 4) (.cons (.var 2) .nil))))) .skip) (.seq (.ite (.cmp .eq (.var 3) (.c (.str "try"))) (.seq (.asg 6 (.tup (.cons (.var 3) (.cons (.var 4) (.cons (.var 2) (.cons (.idx (.lst (.cons (.c (.str "boom")) (.cons (.c (.str "oops")) (.cons (.c (.str "any")) .nil)))) (.bin .mod (.var 5) (.c (.int 3)))) (.cons (.tup (.cons (.tup (.cons (.c (.str "ring")) (.cons (.bin .add (.c (.int 100)) (.var 4)) (.cons (.c (.str "caught")) .nil)))) .nil)) .nil))))))) .skip) (.seq (.ite (.cmp .eq (.var 3) (.c (.str "do"))) (.seq (.asg 6 (.tup (.cons (.var 3) (.cons (.var 4) (.cons (.var 2) (.cons (.tup (.cons (.tup (.cons (.c (.str "ring")) (.cons (.bin .add (.c (.int 100)) (.var 4)) (.cons (.c (.str "clean")) .nil)))) .nil)) .nil)))))) .skip) (.seq (.ite (.cmp .eq (.var 3) (.c (.str "when"))) (.seq (.asg 6 (.tup (.cons (.var 3) (.cons (.var 4) (.cons (.c (.str "x")) (.cons (.c (.int 0)) (.cons (.var 2) .nil))))))) .skip) (.seq (.asg 6 (.tup (.cons (.var 3) (.cons (.var 4) (.cons (.c (.int 1)) (.cons (.var 2) .nil)))))) .skip)) .skip)) .skip)) .skip)) .skip)) .skip)) (.seq (.asg 2 (.tup (.cons (.var 6) (.cons (.tup (.cons (.c (.str "ring")) (.cons (.bin .add (.c (.int 200)) (.var 4)) (.cons (.c (.str "behind")) .nil)))) .nil)))) .skip))
def b53_2 : PyS :=
  (.seq (.for_ true [3, 4, 5] .rv (.cons (.var 0) .nil) b53_1) (.seq (.ret (.var 2)) .skip))
def b53 : PyS :=
  (.seq (.asg 2 (.var 1)) b53_2)
def b54_1 : PyS :=
  (.seq (.ite (.cmp .mem (.var 3) (.tup (.cons (.c (.str "group")) (.cons (.c (.str "limit")) .nil)))) (.seq (.expr (.bm .append (.var 1) (.cons (.tup (.cons (.var 2) (.cons (.c (.bl false)) .nil))) .nil))) (.seq (.asg 2 (.bin .add (.var 2) (.c (.int 1)))) .skip)) (.seq (.expr (.bm .append (.var 1) (.cons (.tup (.cons (.c .non) (.cons (.cmp .eq (.var 3) (.c (.str "keep"))) .nil))) .nil))) .skip)) .skip)
def b54_2 : PyS :=
  (.seq (.for_ true [3, 4, 5] .val (.cons (.var 0) .nil) b54_1) (.seq (.ret (.var 1)) .skip))
def b54_3 : PyS :=
  (.seq (.asg 2 (.c (.int 1))) b54_2)
def b54 : PyS :=
  (.seq (.asg 1 (.lst (.cons (.tup (.cons (.c (.int 0)) (.cons (.c (.bl false)) .nil))) .nil))) b54_3)
def b56_1 : PyS :=
  (.seq (.ite (.cmp .ne (.meth (.var 0) 36 0 .nil) (.var 6)) (.seq (.ret (.c (.bl false))) .skip) .skip) .skip)
def b56_2 : PyS :=
  (.seq (.asg 2 (.bin .add (.var 2) (.bi .int_ (.cons (.cmp .mem (.var 3) (.tup (.cons (.c (.str "group")) (.cons (.c (.str "limit")) .nil)))) .nil)))) b56_1)
def b56_3 : PyS :=
  (.seq (.ite (.cmp .eq (.var 3) (.c (.str "limit"))) (.seq (.asg 6 (.tup (.cons (.var 3) (.cons (.var 4) (.cons (.var 2) (.cons (.bin .add (.c (.int 1)) (.bin .mod (.var 5) (.c (.int 99)))) .nil)))))) .skip) .skip) b56_2)
def b56_4 : PyS :=
  (.seq (.ite (.cmp .eq (.var 3) (.c (.str "group"))) (.seq (.asg 6 (.tup (.cons (.var 3) (.cons (.var 4) (.cons (.var 2) .nil))))) .skip) .skip) b56_3)
def b56_5 : PyS :=
  (.seq (.asg 6 (.tup (.cons (.c (.str "did")) (.cons (.var 4) .nil)))) b56_4)
def b56_6 : PyS :=
  (.seq (.for_ true [3, 4, 5] .val (.cons (.var 1) .nil) b56_5) (.seq (.ret (.c (.bl true))) .skip))
def b56 : PyS :=
  (.seq (.asg 2 (.c (.int 1))) b56_6)
def b57_1 : PyS :=
  (.seq (.ite (.or (.isN true (.meth (.var 0) 38 1 (.cons (.var 6) .nil))) (.cmp .ne (.meth (.var 0) 36 0 .nil) (.tup (.cons (.c (.str "left")) (.cons (.var 1) (.cons (.var 2) .nil)))))) (.seq (.ret (.c .non)) .skip) .skip) (.seq (.ret (.var 6)) .skip))
def b57_2 : PyS :=
  (.seq (.asg 6 (.idx (.lst (.cons (.var 3) (.cons (.bin .add (.var 3) (.tup (.cons (.c (.str "lost")) .nil))) (.cons (.bin .add (.tup (.cons (.c (.str "first")) .nil)) (.var 3)) (.cons (.tup (.cons (.c (.str "oops")) .nil)) (.cons (.var 3) (.cons (.tup .nil) .nil))))))) (.bin .mod (.bin .fdiv (.var 4) (.c (.int 7))) (.c (.int 6))))) b57_1)
def b57_3 : PyS :=
  (.seq (.ite (.or (.cmp .ne (.meth (.var 0) 36 0 .nil) (.var 5)) (.cmp .ne (.meth (.var 0) 37 0 .nil) (.var 5))) (.seq (.ret (.c .non)) .skip) .skip) b57_2)
def b57 : PyS :=
  (.seq (.asg 5 (.tup (.cons (.c (.str "halt")) (.cons (.var 1) (.cons (.var 2) (.cons (.var 3) .nil)))))) b57_3)
def b58_1 : PyS :=
  (.seq (.ite (.isN false (.var 3)) (.seq (.ret (.c .non)) .skip) .skip) .skip)
def b58_2 : PyS :=
  (.seq (.ite (.and (.cmp .eq (.var 5) (.c (.str "try"))) (.cmp .eq (.idx (.lst (.cons (.c (.str "boom")) (.cons (.c (.str "oops")) (.cons (.idx (.var 3) (.c (.int 0))) .nil)))) (.bin .mod (.var 7) (.c (.int 3)))) (.idx (.var 3) (.c (.int 0))))) (.seq (.ite (.or (.cmp .ne (.meth (.var 0) 36 0 .nil) (.tup (.cons (.c (.str "caught")) (.cons (.var 6) (.cons (.var 3) .nil))))) (.cmp .ne (.meth (.var 0) 36 0 .nil) (.tup (.cons (.c (.str "ring")) (.cons (.bin .add (.c (.int 100)) (.var 6)) (.cons (.c (.str "caught")) .nil)))))) (.seq (.ret (.c .non)) .skip) .skip) (.seq (.ret (.tup (.cons (.c (.str "ring")) (.cons (.bin .add (.c (.int 200)) (.var 6)) (.cons (.c (.str "behind")) .nil))))) .skip)) .skip) .skip)
def b58_3 : PyS :=
  (.seq (.ite (.cmp .eq (.var 3) (.tup .nil)) (.seq (.ret (.tup (.cons (.c (.str "ring")) (.cons (.bin .add (.c (.int 200)) (.var 6)) (.cons (.c (.str "behind")) .nil))))) .skip) .skip) b58_2)
def b58_4 : PyS :=
  (.seq (.ite (.cmp .eq (.var 5) (.c (.str "group"))) (.seq (.asg 3 (.call 57 (.cons (.var 0) (.cons (.var 6) (.cons (.idx (.idx (.var 2) (.bin .add (.var 4) (.c (.int 1)))) (.c (.int 0))) (.cons (.var 3) (.cons (.var 7) .nil))))) [])) b58_1) .skip) b58_3)
def b58_5 : PyS :=
  (.seq (.ite (.cmp .eq (.var 5) (.c (.str "do"))) (.seq (.ite (.or (.cmp .ne (.meth (.var 0) 36 0 .nil) (.tup (.cons (.c (.str "clean")) (.cons (.var 6) .nil)))) (.cmp .ne (.meth (.var 0) 36 0 .nil) (.tup (.cons (.c (.str "ring")) (.cons (.bin .add (.c (.int 100)) (.var 6)) (.cons (.c (.str "clean")) .nil)))))) (.seq (.ret (.c .non)) .skip) .skip) .skip) .skip) b58_4)
def b58_6 : PyS :=
  (.seq (.asgT [5, 6, 7] (.idx (.var 1) (.var 4))) b58_5)
def b58 : PyS :=
  (.seq (.for_ false [4] .rvr (.cons (.bi .len (.cons (.var 1) .nil)) .nil) b58_6) (.seq (.ret (.tup (.cons (.c (.str "ended")) (.cons (.c (.int 0)) (.cons (.tup (.cons (.c (.str "faults")) (.cons (.var 3) .nil))) .nil))))) .skip))
def b59_1 : PyS :=
  (.seq (.ite (.cmp .eq (.idx (.var 5) (.c (.int 0))) (.c (.str "ended"))) (.seq (.ret (.cmp .eq (.meth (.var 4) 39 0 .nil) (.idx (.var 5) (.c (.int 2))))) .skip) .skip) (.seq (.ret (.and (.isN false (.meth (.var 4) 39 0 .nil)) (.isN false (.meth (.var 4) 37 0 .nil)))) .skip))
def b59_2 : PyS :=
  (.seq (.ite (.or (.isN false (.var 5)) (.cmp .ne (.meth (.var 4) 36 0 .nil) (.var 5))) (.seq (.ret (.c (.bl false))) .skip) .skip) b59_1)
def b59_3 : PyS :=
  (.seq (.asg 5 (.call 58 (.cons (.var 4) (.cons (.var 2) (.cons (.call 54 (.cons (.var 2) .nil) []) (.cons (.tup (.cons (.var 3) .nil)) .nil)))) [])) b59_2)
def b59_4 : PyS :=
  (.seq (.ite (.or (.not (.call 56 (.cons (.var 4) (.cons (.var 2) .nil)) [])) (.cmp .ne (.meth (.var 4) 36 0 .nil) (.tup (.cons (.c (.str "raise")) (.cons (.c (.int 90)) (.cons (.var 3) .nil)))))) (.seq (.ret (.c (.bl false))) .skip) .skip) b59_3)
def b59_5 : PyS :=
  (.seq (.asg 4 (.new 7 26 (.cons (.call 53 (.cons (.var 2) (.cons (.tup (.cons (.tup (.cons (.c (.str "raise")) (.cons (.c (.int 90)) (.cons (.var 3) .nil)))) (.cons (.tup (.cons (.c (.str "hear")) (.cons (.c (.int 91)) (.cons (.c (.str "bell")) .nil)))) .nil))) .nil)) []) .nil) [])) b59_4)
def b59_6 : PyS :=
  (.seq (.asg 3 (.idx (.lst (.cons (.c (.str "boom")) (.cons (.c (.str "oops")) .nil))) (.bin .mod (.call 51 (.cons (.call 50 (.cons (.var 0) (.cons (.c (.int 0)) .nil)) []) (.cons (.var 1) .nil)) []) (.c (.int 2))))) b59_5)
def b59 : PyS :=
  (.seq (.asg 2 (.call 52 (.cons (.var 0) (.cons (.var 1) .nil)) [])) b59_6)
def b60 : PyS :=
  (.seq (.ret (.bi .all_ (.cons (.comp (.call 59 (.cons (.var 0) (.cons (.var 1) .nil)) []) false [1] .range (.cons (.c (.int 6)) .nil) (.c (.bl true))) .nil))) .skip)
def D : List Df := [⟨1, 1, b0⟩, ⟨4, 4, b1⟩, ⟨1, 1, b2⟩, ⟨1, 1, b3⟩, ⟨1, 1, b4⟩, ⟨2, 2, b5⟩, ⟨1, 1, b6⟩, ⟨4, 4, b7⟩, ⟨1, 1, b8⟩, ⟨1, 1, b9⟩, ⟨1, 1, b10⟩, ⟨5, 5, b11⟩, ⟨2, 2, b12⟩, ⟨1, 1, b13⟩, ⟨4, 4, b14⟩, ⟨2, 2, b15⟩, ⟨1, 1, b16⟩, ⟨1, 1, b17⟩, ⟨2, 2, b18⟩, ⟨1, 1, b19⟩, ⟨5, 5, b20⟩, ⟨2, 2, b21⟩, ⟨1, 1, b22⟩, ⟨5, 5, b23⟩, ⟨1, 1, b24⟩, ⟨2, 2, b25⟩, ⟨2, 2, b26⟩, ⟨2, 2, b27⟩, ⟨3, 3, b28⟩, ⟨2, 2, b29⟩, ⟨1, 3, b30⟩, ⟨1, 2, b31⟩, ⟨1, 1, b32⟩, ⟨1, 1, b33⟩, ⟨1, 1, b34⟩, ⟨1, 1, b35⟩, ⟨2, 2, b36⟩, ⟨2, 2, b37⟩, ⟨2, 2, b38⟩, ⟨1, 2, b39⟩, ⟨1, 2, b40⟩, ⟨2, 2, b41⟩, ⟨1, 4, b42⟩, ⟨2, 2, b43⟩, ⟨1, 4, b44⟩, ⟨2, 3, b45⟩, ⟨2, 5, b46⟩, ⟨2, 3, b47⟩, ⟨2, 5, b48⟩, ⟨1, 1, b49⟩, ⟨2, 2, b50⟩, ⟨2, 3, b51⟩, ⟨2, 6, b52⟩, ⟨2, 7, b53⟩, ⟨1, 6, b54⟩, ⟨1, 6, b54⟩, ⟨2, 7, b56⟩, ⟨5, 7, b57⟩, ⟨4, 8, b58⟩, ⟨2, 6, b59⟩, ⟨1, 2, b60⟩]
def mtT : List ((Nat × Nat) × (Nat × List Val)) := [((4, 29), (15, [])), ((7, 25), (46, [])), ((7, 31), (40, [])), ((7, 30), (41, [])), ((7, 35), (48, [])), ((7, 23), (42, [])), ((7, 22), (44, [])), ((7, 34), (47, [])), ((0, 20), (3, [])), ((1, 20), (3, [])), ((2, 20), (10, [])), ((3, 20), (3, [])), ((4, 20), (16, [])), ((5, 20), (3, [])), ((6, 20), (3, [])), ((7, 38), (38, [])), ((7, 28), (43, [])), ((0, 32), (5, [])), ((1, 32), (5, [])), ((2, 32), (5, [])), ((3, 32), (12, [])), ((4, 32), (18, [])), ((5, 32), (21, [])), ((6, 32), (25, [])), ((0, 24), (2, [])), ((1, 24), (2, [])), ((2, 24), (2, [])), ((3, 24), (2, [])), ((4, 24), (2, [])), ((5, 24), (2, [])), ((6, 24), (2, [])), ((7, 39), (34, [])), ((0, 26), (4, [])), ((1, 26), (8, [])), ((2, 26), (4, [])), ((3, 26), (4, [])), ((4, 26), (17, [])), ((5, 26), (4, [])), ((6, 26), (24, [])), ((7, 36), (39, [])), ((7, 21), (30, [])), ((7, 33), (27, [])), ((7, 37), (32, [])), ((7, 27), (45, []))]
def fT : List (Nat × Nat) := [(0, 1), (0, 3), (0, 0), (0, 2), (1, 4), (1, 1), (1, 3), (1, 0), (1, 2), (2, 1), (2, 3), (2, 0), (2, 2), (3, 5), (3, 1), (3, 6), (3, 3), (3, 0), (3, 2), (4, 7), (4, 8), (4, 1), (4, 6), (4, 3), (4, 0), (4, 2), (5, 1), (5, 6), (5, 3), (5, 0), (5, 2), (6, 8), (6, 1), (6, 9), (6, 10), (6, 3), (6, 0), (6, 2), (7, 19), (7, 11), (7, 18), (7, 17), (7, 13), (7, 12), (7, 14), (7, 16), (7, 15)]
def caT : List ((Nat × Nat) × Bool) := []
def isT : List ((Nat × Nat) × Bool) := [((4, 0), false), ((4, 1), false), ((4, 2), false), ((4, 3), false), ((4, 4), true), ((4, 5), false), ((4, 6), false), ((4, 7), false), ((6, 0), false), ((6, 1), false), ((6, 2), false), ((6, 3), false), ((6, 4), false), ((6, 5), false), ((6, 6), true), ((6, 7), false)]
def T : Tab := ⟨fun c m => mtT.lookup (c, m), fun c f => fT.contains (c, f), fun j c => caT.lookup (j, c), fun j c => isT.lookup (j, c)⟩
theorem r0 (n : Nat) (x0 : Val) (S : Store) : run T D (n + 1) 0 [x0] S = fin (ex T (run T D n) b0 [some x0] S) := rfl
theorem r1 (n : Nat) (x0 x1 x2 x3 : Val) (S : Store) : run T D (n + 1) 1 [x0, x1, x2, x3] S = fin (ex T (run T D n) b1 [some x0, some x1, some x2, some x3] S) := rfl
theorem r2 (n : Nat) (x0 : Val) (S : Store) : run T D (n + 1) 2 [x0] S = fin (ex T (run T D n) b2 [some x0] S) := rfl
theorem r3 (n : Nat) (x0 : Val) (S : Store) : run T D (n + 1) 3 [x0] S = fin (ex T (run T D n) b3 [some x0] S) := rfl
theorem r4 (n : Nat) (x0 : Val) (S : Store) : run T D (n + 1) 4 [x0] S = fin (ex T (run T D n) b4 [some x0] S) := rfl
theorem r5 (n : Nat) (x0 x1 : Val) (S : Store) : run T D (n + 1) 5 [x0, x1] S = fin (ex T (run T D n) b5 [some x0, some x1] S) := rfl
theorem r6 (n : Nat) (x0 : Val) (S : Store) : run T D (n + 1) 6 [x0] S = fin (ex T (run T D n) b6 [some x0] S) := rfl
theorem r7 (n : Nat) (x0 x1 x2 x3 : Val) (S : Store) : run T D (n + 1) 7 [x0, x1, x2, x3] S = fin (ex T (run T D n) b7 [some x0, some x1, some x2, some x3] S) := rfl
theorem r8 (n : Nat) (x0 : Val) (S : Store) : run T D (n + 1) 8 [x0] S = fin (ex T (run T D n) b8 [some x0] S) := rfl
theorem r9 (n : Nat) (x0 : Val) (S : Store) : run T D (n + 1) 9 [x0] S = fin (ex T (run T D n) b9 [some x0] S) := rfl
theorem r10 (n : Nat) (x0 : Val) (S : Store) : run T D (n + 1) 10 [x0] S = fin (ex T (run T D n) b10 [some x0] S) := rfl
theorem r11 (n : Nat) (x0 x1 x2 x3 x4 : Val) (S : Store) : run T D (n + 1) 11 [x0, x1, x2, x3, x4] S = fin (ex T (run T D n) b11 [some x0, some x1, some x2, some x3, some x4] S) := rfl
theorem r12 (n : Nat) (x0 x1 : Val) (S : Store) : run T D (n + 1) 12 [x0, x1] S = fin (ex T (run T D n) b12 [some x0, some x1] S) := rfl
theorem r13 (n : Nat) (x0 : Val) (S : Store) : run T D (n + 1) 13 [x0] S = fin (ex T (run T D n) b13 [some x0] S) := rfl
theorem r14 (n : Nat) (x0 x1 x2 x3 : Val) (S : Store) : run T D (n + 1) 14 [x0, x1, x2, x3] S = fin (ex T (run T D n) b14 [some x0, some x1, some x2, some x3] S) := rfl
theorem r15 (n : Nat) (x0 x1 : Val) (S : Store) : run T D (n + 1) 15 [x0, x1] S = fin (ex T (run T D n) b15 [some x0, some x1] S) := rfl
theorem r16 (n : Nat) (x0 : Val) (S : Store) : run T D (n + 1) 16 [x0] S = fin (ex T (run T D n) b16 [some x0] S) := rfl
theorem r17 (n : Nat) (x0 : Val) (S : Store) : run T D (n + 1) 17 [x0] S = fin (ex T (run T D n) b17 [some x0] S) := rfl
theorem r18 (n : Nat) (x0 x1 : Val) (S : Store) : run T D (n + 1) 18 [x0, x1] S = fin (ex T (run T D n) b18 [some x0, some x1] S) := rfl
theorem r19 (n : Nat) (x0 : Val) (S : Store) : run T D (n + 1) 19 [x0] S = fin (ex T (run T D n) b19 [some x0] S) := rfl
theorem r20 (n : Nat) (x0 x1 x2 x3 x4 : Val) (S : Store) : run T D (n + 1) 20 [x0, x1, x2, x3, x4] S = fin (ex T (run T D n) b20 [some x0, some x1, some x2, some x3, some x4] S) := rfl
theorem r21 (n : Nat) (x0 x1 : Val) (S : Store) : run T D (n + 1) 21 [x0, x1] S = fin (ex T (run T D n) b21 [some x0, some x1] S) := rfl
theorem r22 (n : Nat) (x0 : Val) (S : Store) : run T D (n + 1) 22 [x0] S = fin (ex T (run T D n) b22 [some x0] S) := rfl
theorem r23 (n : Nat) (x0 x1 x2 x3 x4 : Val) (S : Store) : run T D (n + 1) 23 [x0, x1, x2, x3, x4] S = fin (ex T (run T D n) b23 [some x0, some x1, some x2, some x3, some x4] S) := rfl
theorem r24 (n : Nat) (x0 : Val) (S : Store) : run T D (n + 1) 24 [x0] S = fin (ex T (run T D n) b24 [some x0] S) := rfl
theorem r25 (n : Nat) (x0 x1 : Val) (S : Store) : run T D (n + 1) 25 [x0, x1] S = fin (ex T (run T D n) b25 [some x0, some x1] S) := rfl
theorem r26 (n : Nat) (x0 x1 : Val) (S : Store) : run T D (n + 1) 26 [x0, x1] S = fin (ex T (run T D n) b26 [some x0, some x1] S) := rfl
theorem r27 (n : Nat) (x0 x1 : Val) (S : Store) : run T D (n + 1) 27 [x0, x1] S = fin (ex T (run T D n) b27 [some x0, some x1] S) := rfl
theorem r28 (n : Nat) (x0 x1 x2 : Val) (S : Store) : run T D (n + 1) 28 [x0, x1, x2] S = fin (ex T (run T D n) b28 [some x0, some x1, some x2] S) := rfl
theorem r29 (n : Nat) (x0 x1 : Val) (S : Store) : run T D (n + 1) 29 [x0, x1] S = fin (ex T (run T D n) b29 [some x0, some x1] S) := rfl
theorem r30 (n : Nat) (x0 : Val) (S : Store) : run T D (n + 1) 30 [x0] S = fin (ex T (run T D n) b30 [some x0, none, none] S) := rfl
theorem r31 (n : Nat) (x0 : Val) (S : Store) : run T D (n + 1) 31 [x0] S = fin (ex T (run T D n) b31 [some x0, none] S) := rfl
theorem r32 (n : Nat) (x0 : Val) (S : Store) : run T D (n + 1) 32 [x0] S = fin (ex T (run T D n) b32 [some x0] S) := rfl
theorem r33 (n : Nat) (x0 : Val) (S : Store) : run T D (n + 1) 33 [x0] S = fin (ex T (run T D n) b33 [some x0] S) := rfl
theorem r34 (n : Nat) (x0 : Val) (S : Store) : run T D (n + 1) 34 [x0] S = fin (ex T (run T D n) b34 [some x0] S) := rfl
theorem r35 (n : Nat) (x0 : Val) (S : Store) : run T D (n + 1) 35 [x0] S = fin (ex T (run T D n) b35 [some x0] S) := rfl
theorem r36 (n : Nat) (x0 x1 : Val) (S : Store) : run T D (n + 1) 36 [x0, x1] S = fin (ex T (run T D n) b36 [some x0, some x1] S) := rfl
theorem r37 (n : Nat) (x0 x1 : Val) (S : Store) : run T D (n + 1) 37 [x0, x1] S = fin (ex T (run T D n) b37 [some x0, some x1] S) := rfl
theorem r38 (n : Nat) (x0 x1 : Val) (S : Store) : run T D (n + 1) 38 [x0, x1] S = fin (ex T (run T D n) b38 [some x0, some x1] S) := rfl
theorem r39 (n : Nat) (x0 : Val) (S : Store) : run T D (n + 1) 39 [x0] S = fin (ex T (run T D n) b39 [some x0, none] S) := rfl
theorem r40 (n : Nat) (x0 : Val) (S : Store) : run T D (n + 1) 40 [x0] S = fin (ex T (run T D n) b40 [some x0, none] S) := rfl
theorem r41 (n : Nat) (x0 x1 : Val) (S : Store) : run T D (n + 1) 41 [x0, x1] S = fin (ex T (run T D n) b41 [some x0, some x1] S) := rfl
theorem r42 (n : Nat) (x0 : Val) (S : Store) : run T D (n + 1) 42 [x0] S = fin (ex T (run T D n) b42 [some x0, none, none, none] S) := rfl
theorem r43 (n : Nat) (x0 x1 : Val) (S : Store) : run T D (n + 1) 43 [x0, x1] S = fin (ex T (run T D n) b43 [some x0, some x1] S) := rfl
theorem r44 (n : Nat) (x0 : Val) (S : Store) : run T D (n + 1) 44 [x0] S = fin (ex T (run T D n) b44 [some x0, none, none, none] S) := rfl
theorem r45 (n : Nat) (x0 x1 : Val) (S : Store) : run T D (n + 1) 45 [x0, x1] S = fin (ex T (run T D n) b45 [some x0, some x1, none] S) := rfl
theorem r46 (n : Nat) (x0 x1 : Val) (S : Store) : run T D (n + 1) 46 [x0, x1] S = fin (ex T (run T D n) b46 [some x0, some x1, none, none, none] S) := rfl
theorem r47 (n : Nat) (x0 x1 : Val) (S : Store) : run T D (n + 1) 47 [x0, x1] S = fin (ex T (run T D n) b47 [some x0, some x1, none] S) := rfl
theorem r48 (n : Nat) (x0 x1 : Val) (S : Store) : run T D (n + 1) 48 [x0, x1] S = fin (ex T (run T D n) b48 [some x0, some x1, none, none, none] S) := rfl
theorem r49 (n : Nat) (x0 : Val) (S : Store) : run T D (n + 1) 49 [x0] S = fin (ex T (run T D n) b49 [some x0] S) := rfl
theorem r50 (n : Nat) (x0 x1 : Val) (S : Store) : run T D (n + 1) 50 [x0, x1] S = fin (ex T (run T D n) b50 [some x0, some x1] S) := rfl
theorem r51 (n : Nat) (x0 x1 : Val) (S : Store) : run T D (n + 1) 51 [x0, x1] S = fin (ex T (run T D n) b51 [some x0, some x1, none] S) := rfl
theorem r52 (n : Nat) (x0 x1 : Val) (S : Store) : run T D (n + 1) 52 [x0, x1] S = fin (ex T (run T D n) b52 [some x0, some x1, none, none, none, none] S) := rfl
theorem r53 (n : Nat) (x0 x1 : Val) (S : Store) : run T D (n + 1) 53 [x0, x1] S = fin (ex T (run T D n) b53 [some x0, some x1, none, none, none, none, none] S) := rfl
theorem r54 (n : Nat) (x0 : Val) (S : Store) : run T D (n + 1) 54 [x0] S = fin (ex T (run T D n) b54 [some x0, none, none, none, none, none] S) := rfl
theorem r56 (n : Nat) (x0 x1 : Val) (S : Store) : run T D (n + 1) 56 [x0, x1] S = fin (ex T (run T D n) b56 [some x0, some x1, none, none, none, none, none] S) := rfl
theorem r57 (n : Nat) (x0 x1 x2 x3 x4 : Val) (S : Store) : run T D (n + 1) 57 [x0, x1, x2, x3, x4] S = fin (ex T (run T D n) b57 [some x0, some x1, some x2, some x3, some x4, none, none] S) := rfl
theorem r58 (n : Nat) (x0 x1 x2 x3 : Val) (S : Store) : run T D (n + 1) 58 [x0, x1, x2, x3] S = fin (ex T (run T D n) b58 [some x0, some x1, some x2, some x3, none, none, none, none] S) := rfl
theorem r59 (n : Nat) (x0 x1 : Val) (S : Store) : run T D (n + 1) 59 [x0, x1] S = fin (ex T (run T D n) b59 [some x0, some x1, none, none, none, none] S) := rfl
theorem r60 (n : Nat) (x0 : Val) (S : Store) : run T D (n + 1) 60 [x0] S = fin (ex T (run T D n) b60 [some x0, none] S) := rfl
end Nw.k54

set_option Elab.async false
set_option linter.all false
set_option maxRecDepth 100000
set_option maxHeartbeats 4000000
namespace Nw
open PySem L2

/-! ## what a run ends with -/
def Res.wp {α : Type} (r : Res α) (P : α → Store → Prop) (E : Exn → Store → Prop) : Prop := match r with
  | .ok a S => P a S
  | .ex e S => E e S
  | .no => False
structure Po where
  nx : Env → Store → Prop
  rt : Val → Store → Prop
  bk : Env → Store → Prop
  ct : Env → Store → Prop
  ex : Exn → Env → Store → Prop
def Out.wp (o : Out) (Q : Po) : Prop := match o with
  | .nx e S => Q.nx e S
  | .rt v S => Q.rt v S
  | .bk e S => Q.bk e S
  | .ct e S => Q.ct e S
  | .ex x e S => Q.ex x e S
  | .no => False
abbrev noX : Exn → Store → Prop := fun _ _ => False
section
variable {α β : Type} {P P' : α → Store → Prop} {E E' : Exn → Store → Prop} {S : Store} {Q Q' : Po} {env : Env} {G : Tab} {ft : Fns}
theorem Res.wp.mono {r : Res α} (h : r.wp P E) (hp : ∀ a S, P a S → P' a S) (he : ∀ e S, E e S → E' e S) : r.wp P' E' := by
  cases r with
  | ok a S => exact hp _ _ h
  | ex e S => exact he _ _ h
  | no => exact h
/-- a call's promise, used -/
theorem Res.wp.then {r : Res α} (h : r.wp P noX) (hp : ∀ a S, P a S → P' a S) : r.wp P' E' := h.mono hp fun _ _ z => z.elim
theorem Out.wp.mono {o : Out} (h : o.wp Q) (h1 : ∀ e S, Q.nx e S → Q'.nx e S) (h2 : ∀ v S, Q.rt v S → Q'.rt v S) (h3 : ∀ e S, Q.bk e S → Q'.bk e S) (h4 : ∀ e S, Q.ct e S → Q'.ct e S) (h5 : ∀ x e S, Q.ex x e S → Q'.ex x e S) : o.wp Q' := by
  cases o with
  | nx e S => exact h1 _ _ h
  | rt v S => exact h2 _ _ h
  | bk e S => exact h3 _ _ h
  | ct e S => exact h4 _ _ h
  | ex x e S => exact h5 _ _ _ h
  | no => exact h
@[simp] theorem wp_bind {r : Res β} {f : β → Store → Res α} : (r.bind f).wp P E ↔ r.wp (fun a S => (f a S).wp P E) E := by cases r <;> exact Iff.rfl
@[simp] theorem wp_ok {a : α} : (Res.ok a S).wp P E ↔ P a S := Iff.rfl
@[simp] theorem wp_ex {e : Exn} : (Res.ex e S : Res α).wp P E ↔ E e S := Iff.rfl
@[simp] theorem wp_no : (Res.no : Res α).wp P E ↔ False := Iff.rfl
theorem wp_ofO {o : Option α} : (Res.ofO o S).wp P E ↔ ∃ a, o = some a ∧ P a S := by
  cases o with
  | none => simp [Res.ofO]
  | some a => simp [Res.ofO]
@[simp] theorem wp_out {r : Res α} {f : α → Store → Out} : (r.out env f).wp Q ↔ r.wp (fun a S => (f a S).wp Q) (fun e S => Q.ex e env S) := by cases r <;> exact Iff.rfl
@[simp] theorem wp_seq {o : Out} {k : Env → Store → Out} : (seqV o k).wp Q ↔ o.wp { Q with nx := fun e S => (k e S).wp Q } := by cases o <;> exact Iff.rfl
@[simp] theorem wp_nx {e : Env} : (Out.nx e S).wp Q ↔ Q.nx e S := Iff.rfl
@[simp] theorem wp_rt {v : Val} : (Out.rt v S).wp Q ↔ Q.rt v S := Iff.rfl
@[simp] theorem wp_bk {e : Env} : (Out.bk e S).wp Q ↔ Q.bk e S := Iff.rfl
@[simp] theorem wp_ct {e : Env} : (Out.ct e S).wp Q ↔ Q.ct e S := Iff.rfl
@[simp] theorem wp_xx {x : Exn} {e : Env} : (Out.ex x e S).wp Q ↔ Q.ex x e S := Iff.rfl
@[simp] theorem wp_nno : (Out.no).wp Q ↔ False := Iff.rfl
@[simp] theorem wp_fin {o : Out} {P : Val → Store → Prop} : (fin o).wp P E ↔ o.wp { nx := fun _ S => P .non S, rt := P, bk := fun _ _ => False, ct := fun _ _ => False, ex := fun x _ S => E x S } := by cases o <;> exact Iff.rfl
@[simp] theorem wp_ifS {b : Bool} {t f : Out} : (ifS (.bl b) S t f).wp Q ↔ (b = true → t.wp Q) ∧ (b = false → f.wp Q) := by
  cases b <;> simp [ifS, tru]
@[simp] theorem ifV_and {p q : Bool} : ifV (.bl p) S (.ok (Val.bl q) S) (.ok (Val.bl p) S) = .ok (.bl (p && q)) S := by cases p <;> rfl
@[simp] theorem ifV_or {p q : Bool} : ifV (.bl p) S (.ok (Val.bl p) S) (.ok (Val.bl q) S) = .ok (.bl (p || q)) S := by cases p <;> rfl
@[simp] theorem ifV_not {p : Bool} : ifV (.bl p) S (.ok (Val.bl false) S) (.ok (Val.bl true) S) = .ok (.bl (!p)) S := by cases p <;> rfl
theorem wp_ifV {b : Bool} {t f : Res α} : (ifV (.bl b) S t f).wp P E ↔ (b = true → t.wp P E) ∧ (b = false → f.wp P E) := by
  cases b <;> simp [ifV, tru]
theorem ifV_true {t f : Res α} : ifV (.bl true) S t f = t := rfl
theorem ifV_false {t f : Res α} : ifV (.bl false) S t f = f := rfl

/-! operators, by kinds -/
@[simp] theorem add_int {i j : Int} : binV .add S (.int i) (.int j) = .ok (.int (i + j)) S := rfl
@[simp] theorem sub_int {i j : Int} : binV .sub S (.int i) (.int j) = .ok (.int (i - j)) S := rfl
theorem wp_ite {c : Prop} [Decidable c] {r : Res α} : (if c then r else .no).wp P E ↔ c ∧ r.wp P E := by
  by_cases h : c <;> simp [h]
@[simp] theorem wp_mul {i j : Int} {P : Val → Store → Prop} : (binV .mul S (.int i) (.int j)).wp P E ↔ (i.natAbs < 2 ^ 64 ∨ j.natAbs < 2 ^ 64) ∧ P (.int (i * j)) S := wp_ite
@[simp] theorem wp_fdiv {i j : Int} {P : Val → Store → Prop} : (binV .fdiv S (.int i) (.int j)).wp P E ↔ (0 < j ∧ j < 1073741824) ∧ P (.int (i / j)) S := wp_ite
@[simp] theorem wp_mod {i j : Int} {P : Val → Store → Prop} : (binV .mod S (.int i) (.int j)).wp P E ↔ 0 < j ∧ P (.int (i % j)) S := wp_ite
@[simp] theorem wp_pow {i j : Int} {P : Val → Store → Prop} : (binV .pow S (.int i) (.int j)).wp P E ↔ (0 ≤ j ∧ j ≤ 1000000 ∧ i.natAbs < 2 ^ 64) ∧ P (.int (i ^ j.toNat)) S := wp_ite
@[simp] theorem wp_addS {a b : Str} {P : Val → Store → Prop} : (binV .add S (.str a) (.str b)).wp P E ↔ a.length + b.length ≤ line ∧ P (.str (a ++ b)) S := wp_ite
@[simp] theorem wp_addT {a b : List Val} {P : Val → Store → Prop} : (binV .add S (.tup a) (.tup b)).wp P E ↔ a.length + b.length ≤ line ∧ P (.tup (a ++ b)) S := wp_ite
theorem wp_addL {i j : Nat} {xs ys : List Val} {P : Val → Store → Prop} (h1 : S[i]? = some (.lst false xs)) (h2 : S[j]? = some (.lst false ys)) (hl : xs.length + ys.length ≤ line) (h : P (.obj S.length) (S ++ [.lst false (xs ++ ys)])) : (binV .add S (.obj i) (.obj j)).wp P E := by
  show (addV S (.obj i) (.obj j)).wp P E
  simp only [addV, h1, h2, if_pos hl, wp_ok]
  exact h
@[simp] theorem eqv_bb {a b : Bool} : PyData.eqv (.bool a) (.bool b) = (a == b) := by cases a <;> cases b <;> rfl
@[simp] theorem pcmp_lt {i j : Int} : cmpV .lt S (.int i) (.int j) = some (decide (i < j)) := rfl
@[simp] theorem pcmp_le {i j : Int} : cmpV .le S (.int i) (.int j) = some (decide (i ≤ j)) := rfl
@[simp] theorem pcmp_gt {i j : Int} : cmpV .gt S (.int i) (.int j) = some (decide (j < i)) := rfl
@[simp] theorem pcmp_ge {i j : Int} : cmpV .ge S (.int i) (.int j) = some (decide (j ≤ i)) := rfl
@[simp] theorem pcmp_mem {x y : Val} : cmpV .mem S x y = memV S x y := rfl
@[simp] theorem pcmp_nmem {x y : Val} : cmpV .nmem S x y = (memV S x y).map not := rfl
@[simp] theorem pcmp_eq {x y : Val} : cmpV .eq S x y = eqD S x y := rfl
@[simp] theorem pcmp_ne {x y : Val} : cmpV .ne S x y = (eqD S x y).map not := rfl
end
def optR {α β : Type} (o : Option α) (k : α → Res β) : Res β := match o with
  | some a => k a
  | none => .no
@[simp] theorem optR_some {α β : Type} (a : α) (k : α → Res β) : optR (some a) k = k a := rfl
@[simp] theorem optR_none {α β : Type} (k : α → Res β) : optR none k = .no := rfl
def optO {α : Type} (o : Option α) (k : α → Out) : Out := match o with
  | some a => k a
  | none => .no
@[simp] theorem optO_some {α : Type} (a : α) (k : α → Out) : optO (some a) k = k a := rfl
@[simp] theorem optO_none {α : Type} (k : α → Out) : optO none k = .no := rfl
/-! equations, one a form -/
section
variable {G : Tab} {ft : Fns} {env : Env} {S : Store}
@[simp] theorem ev_c {v : Val} : ev G ft (.c v) env S = .ok v S := by first | (simp only [ev]; done) | (conv => lhs; unfold ev)
@[simp] theorem ev_var {i : Nat} : ev G ft (.var i) env S = Res.ofO (env[i]?.getD none) S := by first | (simp only [ev]; done) | (conv => lhs; unfold ev)
@[simp] theorem ev_bin {o : BinO} {a : PyE} {b : PyE} : ev G ft (.bin o a b) env S = (ev G ft a env S).bind fun x S1 => (ev G ft b env S1).bind fun y S2 => binV o S2 x y := by first | (simp only [ev]; done) | (conv => lhs; unfold ev)
@[simp] theorem ev_neg {a : PyE} : ev G ft (.neg a) env S = (ev G ft a env S).bind fun x S1 => negV x S1 := by first | (simp only [ev]; done) | (conv => lhs; unfold ev)
@[simp] theorem ev_cmp {o : CmpO} {a : PyE} {b : PyE} : ev G ft (.cmp o a b) env S = (ev G ft a env S).bind fun x S1 => (ev G ft b env S1).bind fun y S2 => Res.ofO ((cmpV o S2 x y).map .bl) S2 := by first | (simp only [ev]; done) | (conv => lhs; unfold ev)
@[simp] theorem ev_inK {n : Bool} {a : PyE} {ks : List Str} : ev G ft (.inK n a ks) env S = (ev G ft a env S).bind fun x S1 => if flat x then .ok (.bl (xorB n (ks.any fun k => eqF (.str k) x))) S1 else .no := by first | (simp only [ev]; done) | (conv => lhs; unfold ev)
@[simp] theorem ev_isN {n : Bool} {a : PyE} : ev G ft (.isN n a) env S = (ev G ft a env S).bind fun x S1 => .ok (.bl (xorB n (isNon x))) S1 := by first | (simp only [ev]; done) | (conv => lhs; unfold ev)
@[simp] theorem ev_isC {j : Nat} {a : PyE} : ev G ft (.isC j a) env S = (ev G ft a env S).bind fun x S1 => Res.ofO ((isCV G j S1 x).map .bl) S1 := by first | (simp only [ev]; done) | (conv => lhs; unfold ev)
@[simp] theorem ev_isB {n : Bool} {a : PyE} {b : PyE} : ev G ft (.isB n a b) env S = (ev G ft a env S).bind fun x S1 => (ev G ft b env S1).bind fun y S2 => isBV n x y S2 := by first | (simp only [ev]; done) | (conv => lhs; unfold ev)
@[simp] theorem ev_chain {o : CmpO} {o' : CmpO} {a : PyE} {b : PyE} {c : PyE} : ev G ft (.chain o o' a b c) env S = (ev G ft a env S).bind fun x S1 => (ev G ft b env S1).bind fun y S2 => chainV o x y S2 ((ev G ft c env S2).bind fun z S3 => Res.ofO ((cmpV o' S3 y z).map .bl) S3) := by first | (simp only [ev]; done) | (conv => lhs; unfold ev)
@[simp] theorem ev_and {a : PyE} {b : PyE} : ev G ft (.and a b) env S = (ev G ft a env S).bind fun x S1 => ifV x S1 (ev G ft b env S1) (.ok x S1) := by first | (simp only [ev]; done) | (conv => lhs; unfold ev)
@[simp] theorem ev_or {a : PyE} {b : PyE} : ev G ft (.or a b) env S = (ev G ft a env S).bind fun x S1 => ifV x S1 (.ok x S1) (ev G ft b env S1) := by first | (simp only [ev]; done) | (conv => lhs; unfold ev)
@[simp] theorem ev_not {a : PyE} : ev G ft (.not a) env S = (ev G ft a env S).bind fun x S1 => ifV x S1 (.ok (.bl false) S1) (.ok (.bl true) S1) := by first | (simp only [ev]; done) | (conv => lhs; unfold ev)
@[simp] theorem ev_ite {t : PyE} {a : PyE} {b : PyE} : ev G ft (.ite t a b) env S = (ev G ft t env S).bind fun x S1 => ifV x S1 (ev G ft a env S1) (ev G ft b env S1) := by first | (simp only [ev]; done) | (conv => lhs; unfold ev)
@[simp] theorem ev_tup {a : PyE} : ev G ft (.tup a) env S = (evA G ft a env S).bind fun xs S1 => if xs.length ≤ line then .ok (.tup xs) S1 else .no := by first | (simp only [ev]; done) | (conv => lhs; unfold ev)
@[simp] theorem ev_lst {a : PyE} : ev G ft (.lst a) env S = (evA G ft a env S).bind fun xs S1 => if xs.length ≤ line then .ok (.obj S1.length) (S1 ++ [.lst false xs]) else .no := by first | (simp only [ev]; done) | (conv => lhs; unfold ev)
@[simp] theorem ev_dnewK  : ev G ft (.dnewK) env S = .ok (.obj S.length) (S ++ [.dK false []]) := by first | (simp only [ev]; done) | (conv => lhs; unfold ev)
@[simp] theorem ev_dnewT  : ev G ft (.dnewT) env S = .ok (.obj S.length) (S ++ [.dT false []]) := by first | (simp only [ev]; done) | (conv => lhs; unfold ev)
@[simp] theorem ev_disp {a : PyE} : ev G ft (.disp a) env S = evP G ft a env S.length [] (S ++ [.dK false []]) := by first | (simp only [ev]; done) | (conv => lhs; unfold ev)
@[simp] theorem ev_idx {a : PyE} {b : PyE} : ev G ft (.idx a b) env S = (ev G ft a env S).bind fun x S1 => (ev G ft b env S1).bind fun y S2 => Res.ofO (ixV S2 x y) S2 := by first | (simp only [ev]; done) | (conv => lhs; unfold ev)
@[simp] theorem ev_sl {a : PyE} {hl : Bool} {lo : PyE} {hh : Bool} {hi : PyE} : ev G ft (.sl a hl lo hh hi) env S = (ev G ft a env S).bind fun x S1 => (if hl then (ev G ft lo env S1).bind optI else .ok none S1).bind fun l S2 => (if hh then (ev G ft hi env S2).bind optI else .ok none S2).bind fun h S3 => slV S3 x l h := by first | (simp only [ev]; done) | (conv => lhs; unfold ev)
@[simp] theorem ev_fld {a : PyE} {f : Nat} : ev G ft (.fld a f) env S = (ev G ft a env S).bind fun x S1 => fldV G f x S1 := by first | (simp only [ev]; done) | (conv => lhs; unfold ev)
@[simp] theorem ev_call {f : Nat} {a : PyE} {ds : List Val} : ev G ft (.call f a ds) env S = (evA G ft a env S).bind fun vs S1 => ft f (vs ++ ds) S1 := by first | (simp only [ev]; done) | (conv => lhs; unfold ev)
@[simp] theorem ev_new {k : Nat} {f : Nat} {a : PyE} {ds : List Val} : ev G ft (.new k f a ds) env S = (evA G ft a env S).bind fun vs S1 => (ft f (.obj S1.length :: (vs ++ ds)) (S1 ++ [.ins k []])).bind fun r S2 => newV (.obj S1.length) r S2 := by first | (simp only [ev]; done) | (conv => lhs; unfold ev)
@[simp] theorem ev_meth {a : PyE} {m : Nat} {n : Nat} {as : PyE} : ev G ft (.meth a m n as) env S = (ev G ft a env S).bind fun x S1 => optR (methV G m x S1) fun p => (evA G ft as env S1).bind fun vs S2 => ft p.1 (x :: (vs ++ p.2.drop n)) S2 := by
  simp only [ev]
  refine congrArg _ (funext fun x => funext fun S1 => ?_)
  cases methV G m x S1 <;> rfl
@[simp] theorem ev_bi {b : Bi} {a : PyE} : ev G ft (.bi b a) env S = (evA G ft a env S).bind fun vs S1 => biV b S1 vs := by first | (simp only [ev]; done) | (conv => lhs; unfold ev)
@[simp] theorem ev_bm {m : Bm} {a : PyE} {as : PyE} : ev G ft (.bm m a as) env S = (ev G ft a env S).bind fun x S1 => optR (bmGo m S1 x) fun k => (evA G ft as env S1).bind fun vs S2 => bmV m k S2 x vs := by
  simp only [ev]
  refine congrArg _ (funext fun x => funext fun S1 => ?_)
  cases bmGo m S1 x <;> rfl
@[simp] theorem ev_comp {elt : PyE} {tp : Bool} {is : List Nat} {k : ItK} {as : PyE} {cond : PyE} : ev G ft (.comp elt tp is k as cond) env S = (evA G ft as env S).bind fun vs S1 => compV tp is k env (ev G ft cond) (ev G ft elt) vs S1 := by first | (simp only [ev]; done) | (conv => lhs; unfold ev)
@[simp] theorem ex_skip  : ex G ft (.skip) env S = .nx env S := by first | (simp only [ex]; done) | (conv => lhs; unfold ex)
@[simp] theorem ex_seq {a : PyS} {b : PyS} : ex G ft (.seq a b) env S = seqV (ex G ft a env S) (ex G ft b) := by first | (simp only [ex]; done) | (conv => lhs; unfold ex)
@[simp] theorem ex_expr {e : PyE} : ex G ft (.expr e) env S = (ev G ft e env S).out env fun _ S1 => .nx env S1 := by first | (simp only [ex]; done) | (conv => lhs; unfold ex)
@[simp] theorem ex_asg {i : Nat} {e : PyE} : ex G ft (.asg i e) env S = (ev G ft e env S).out env fun v S1 => .nx (env.set i (some v)) S1 := by first | (simp only [ex]; done) | (conv => lhs; unfold ex)
@[simp] theorem ex_asgT {is : List Nat} {e : PyE} : ex G ft (.asgT is e) env S = (ev G ft e env S).out env fun v S1 => ofNx ((tgt true is v env).map fun e' => (e', S1)) := by first | (simp only [ex]; done) | (conv => lhs; unfold ex)
@[simp] theorem ex_asgL {is : List Nat} {e : PyE} : ex G ft (.asgL is e) env S = (ev G ft e env S).out env fun v S1 => ofNx (((lst? S1 v).bind fun xs => tgt true is (.tup xs) env).map fun e' => (e', S1)) := by first | (simp only [ex]; done) | (conv => lhs; unfold ex)
@[simp] theorem ex_setI {o : PyE} {i : PyE} {e : PyE} : ex G ft (.setI o i e) env S = (ev G ft e env S).out env fun v S1 => (ev G ft o env S1).out env fun x S2 => (ev G ft i env S2).out env fun k S3 => ofNx ((setIV S3 x k v).map fun S4 => (env, S4)) := by first | (simp only [ex]; done) | (conv => lhs; unfold ex)
@[simp] theorem ex_setF {o : PyE} {f : Nat} {e : PyE} : ex G ft (.setF o f e) env S = (ev G ft e env S).out env fun v S1 => (ev G ft o env S1).out env fun x S2 => setFV G f env v x S2 := by first | (simp only [ex]; done) | (conv => lhs; unfold ex)
@[simp] theorem ex_augV {i : Nat} {o : BinO} {e : PyE} : ex G ft (.augV i o e) env S = (Res.ofO (env[i]?.getD none) S).out env fun x S0 => (ev G ft e env S0).out env fun y S1 => (augV o S1 x y).out env fun z S2 => .nx (env.set i (some z)) S2 := by first | (simp only [ex]; done) | (conv => lhs; unfold ex)
@[simp] theorem ex_augF {a : PyE} {f : Nat} {o : BinO} {e : PyE} : ex G ft (.augF a f o e) env S = (ev G ft a env S).out env fun x S1 => optO (augF1 G f x S1) fun p => (ev G ft e env S1).out env fun y S2 => (augV o S2 p.2.2 y).out env fun z S3 => augF2 f env p.1 p.2.1 z S3 := by
  simp only [ex]
  refine congrArg _ (funext fun x => funext fun S1 => ?_)
  cases augF1 G f x S1 <;> rfl
@[simp] theorem ex_ite {c : PyE} {a : PyS} {b : PyS} : ex G ft (.ite c a b) env S = (ev G ft c env S).out env fun v S1 => ifS v S1 (ex G ft a env S1) (ex G ft b env S1) := by first | (simp only [ex]; done) | (conv => lhs; unfold ex)
@[simp] theorem ex_ret {e : PyE} : ex G ft (.ret e) env S = (ev G ft e env S).out env fun v S1 => .rt v S1 := by first | (simp only [ex]; done) | (conv => lhs; unfold ex)
@[simp] theorem ex_for_ {tp : Bool} {is : List Nat} {k : ItK} {as : PyE} {b : PyS} : ex G ft (.for_ tp is k as b) env S = (evA G ft as env S).out env fun vs S1 => forV tp is k (ex G ft b) env vs S1 := by first | (simp only [ex]; done) | (conv => lhs; unfold ex)
@[simp] theorem ex_whl {c : PyE} {b : PyS} : ex G ft (.whl c b) env S = whlW (ev G ft c) (ex G ft b) whileBound env S := by first | (simp only [ex]; done) | (conv => lhs; unfold ex)
@[simp] theorem ex_brk  : ex G ft (.brk) env S = .bk env S := by first | (simp only [ex]; done) | (conv => lhs; unfold ex)
@[simp] theorem ex_cnt  : ex G ft (.cnt) env S = .ct env S := by first | (simp only [ex]; done) | (conv => lhs; unfold ex)
@[simp] theorem ex_raise {k : Nat} {a : PyE} : ex G ft (.raise k a) env S = (evA G ft a env S).out env fun vs S1 => if vs.length ≤ line then .ex ⟨k, []⟩ env S1 else .no := by first | (simp only [ex]; done) | (conv => lhs; unfold ex)
@[simp] theorem ex_try1 {b : PyS} {k : Nat} {h : PyS} : ex G ft (.try1 b k h) env S = tryV G k (ex G ft h) (ex G ft b env S) := by first | (simp only [ex]; done) | (conv => lhs; unfold ex)
@[simp] theorem evA_nil : evA G ft .nil env S = .ok [] S := by simp only [evA]
@[simp] theorem evA_cons {a b : PyE} : evA G ft (.cons a b) env S = (ev G ft a env S).bind fun x S1 => (evA G ft b env S1).bind fun xs S2 => .ok (x :: xs) S2 := by simp only [evA]
end
end Nw

set_option Elab.async false
set_option linter.all false
set_option maxRecDepth 100000
set_option maxHeartbeats 4000000
namespace Nw
open PySem L2

/-! ## the store grows -/
def Le (S S' : Store) : Prop := ∀ (i : Nat) o, S[i]? = some o → S'[i]? = some o
theorem Le.refl (S : Store) : Le S S := fun _ _ h => h
theorem Le.trans {S T U : Store} (h : Le S T) (k : Le T U) : Le S U := fun i o e => k i o (h i o e)
theorem Le.app (S T : Store) : Le S (S ++ T) := fun i o e => by
  rw [List.getElem?_append_left (List.getElem?_eq_some_iff.mp e).1]; exact e
theorem Le.len {S S' : Store} (h : Le S S') : S.length ≤ S'.length := by
  rcases Nat.lt_or_ge S'.length S.length with g | g
  · have e := h S'.length _ (List.getElem?_eq_getElem g)
    rw [List.getElem?_eq_none (Nat.le_refl _)] at e
    cases e
  · exact g
theorem Le.set {S S' : Store} (h : Le S S') {d : Nat} {o : Obj} (hd : S.length ≤ d) : Le S (S'.set d o) := fun i u e => by
  have hi := (List.getElem?_eq_some_iff.mp e).1
  rw [List.getElem?_set_ne (by omega)]
  exact h i u e
theorem at_end (S : Store) (o : Obj) : (S ++ [o])[S.length]? = some o := by simp

/-! ## loops -/
section
variable {Q : Po} {env : Env} {S : Store} {tp : Bool} {is : List Nat} {kd : ItK} {vs : List Val}
theorem wp_forW {body : Env → Store → Out} {w : Walk} (Inv : Nat → Env → Store → Prop) (items : List Val)
    (hwk : ∀ k env S, Inv k env S → walkAt S w k = some items[k]?)
    (hs : ∀ k x env S, items[k]? = some x → Inv k env S → ∃ e, tgt tp is x env = some e ∧ (body e S).wp { Q with nx := Inv (k + 1), ct := Inv (k + 1), bk := Q.nx })
    (he : ∀ env S, Inv items.length env S → Q.nx env S) : ∀ (n k : Nat) (env : Env) (S : Store), items.length < n + k → k ≤ items.length → Inv k env S → (forW body tp is w n k env S).wp Q := by
  intro n
  induction n with
  | zero => intro k env S h1 h2 h3; omega
  | succ n ih =>
    intro k env S h1 h2 h3
    unfold forW
    rw [hwk k env S h3]
    cases e : items[k]? with
    | none =>
      have : k = items.length := by have := List.getElem?_eq_none_iff.mp e; omega
      subst this
      exact he env S h3
    | some x =>
      have hk := (List.getElem?_eq_some_iff.mp e).1
      obtain ⟨e', h4, h5⟩ := hs k x env S e h3
      simp only [h4]
      cases eb : body e' S with
      | nx e2 S2 => rw [eb] at h5; exact ih (k + 1) e2 S2 (by omega) (by omega) h5
      | ct e2 S2 => rw [eb] at h5; exact ih (k + 1) e2 S2 (by omega) (by omega) h5
      | bk e2 S2 => rw [eb] at h5; exact h5
      | rt v S2 => rw [eb] at h5; exact h5
      | ex x e2 S2 => rw [eb] at h5; exact h5
      | no => rw [eb] at h5; exact h5
theorem wp_for {body : Env → Store → Out} {w : Walk} {n : Nat} (Inv : Nat → Env → Store → Prop) (items : List Val) (hw : mkWalk kd S vs = some (w, n)) (hn : items.length ≤ n) (h0 : Inv 0 env S)
    (hwk : ∀ k env S, Inv k env S → walkAt S w k = some items[k]?)
    (hs : ∀ k x env S, items[k]? = some x → Inv k env S → ∃ e, tgt tp is x env = some e ∧ (body e S).wp { Q with nx := Inv (k + 1), ct := Inv (k + 1), bk := Q.nx })
    (he : ∀ env S, Inv items.length env S → Q.nx env S) : (forV tp is kd body env vs S).wp Q := by
  unfold forV
  rw [hw]
  exact wp_forW Inv items hwk hs he (n + 1) 0 env S (by omega) (Nat.zero_le _) h0
theorem wp_whl {c : Env → Store → Res Val} {body : Env → Store → Out} (Inv : Nat → Env → Store → Prop) (m : Nat) (hm : m < whileBound) (h0 : Inv m env S)
    (hs : ∀ k env S, Inv k env S → (c env S).wp (fun v S1 => ∃ b, tru S1 v = some b ∧ (b = true → ∃ j, k = j + 1 ∧ (body env S1).wp { Q with nx := Inv j, ct := Inv j, bk := Q.nx }) ∧ (b = false → Q.nx env S1)) (fun e S => Q.ex e env S)) : (whlW c body whileBound env S).wp Q := by
  have key : ∀ (n m : Nat) (env : Env) (S : Store), m < n → Inv m env S → (whlW c body n env S).wp Q := by
    intro n
    induction n with
    | zero => intro m env S h; omega
    | succ n ih =>
      intro m env S h h0
      unfold whlW
      rw [wp_out]
      refine (hs m env S h0).mono (fun v S1 ⟨b, hb, h1, h2⟩ => ?_) fun _ _ z => z
      unfold ifS
      rw [hb]
      cases b with
      | false => exact h2 rfl
      | true =>
        obtain ⟨j, rfl, h3⟩ := h1 rfl
        simp only
        cases eb : body env S1 with
        | nx e2 S2 => rw [eb] at h3; exact ih j e2 S2 (by omega) h3
        | ct e2 S2 => rw [eb] at h3; exact ih j e2 S2 (by omega) h3
        | bk e2 S2 => rw [eb] at h3; exact h3
        | rt v S2 => rw [eb] at h3; exact h3
        | ex x e2 S2 => rw [eb] at h3; exact h3
        | no => rw [eb] at h3; exact h3
  exact key whileBound m env S hm h0

/-- a comprehension whose turns only add to the store; g: what a turn gives -/
theorem compW_ok {α : Type} {turn : Val → Store → Res (Option Val)} {w : Walk} {d : Nat} (xs : List α) (f : α → Val) (g : α → Option Val) (S0 : Store) (hd : S0.length ≤ d)
    (hwk : ∀ S k, Le S0 S → walkAt S w k = some (xs.map f)[k]?)
    (ht : ∀ x ∈ xs, ∀ S, Le S0 S → ∃ S', turn (f x) S = .ok (g x) S' ∧ Le S S') (hl : xs.length ≤ line) :
    ∀ (n k : Nat) (S : Store) (acc : List Val), xs.length < n + k → k ≤ xs.length → Le S0 S → S[d]? = some (.lst false acc) → acc.length ≤ k →
      ∃ S', compW turn w d n k S = .ok (.obj d) S' ∧ Le S0 S' ∧ S'[d]? = some (.lst false (acc ++ (xs.drop k).filterMap g)) := by
  intro n
  induction n with
  | zero => intro k S acc h1 h2; omega
  | succ n ih =>
    intro k S acc h1 h2 h3 h4 h5
    unfold compW
    rw [hwk S k h3, List.getElem?_map]
    cases e : xs[k]? with
    | none =>
      have : k = xs.length := by have := List.getElem?_eq_none_iff.mp e; omega
      subst this
      refine ⟨S, rfl, h3, ?_⟩
      rw [List.drop_eq_nil_of_le (Nat.le_refl _)]
      simpa using h4
    | some x =>
      have hk := (List.getElem?_eq_some_iff.mp e).1
      have hx : xs[k] = x := (List.getElem?_eq_some_iff.mp e).2
      obtain ⟨S1, t1, l1⟩ := ht x (List.mem_of_getElem? e) S h3
      have hdr : xs.drop k = x :: xs.drop (k + 1) := by rw [List.drop_eq_getElem_cons hk, hx]
      simp only [Option.map_some, t1]
      cases eg : g x with
      | none =>
        obtain ⟨S', r1, r2, r3⟩ := ih (k + 1) S1 acc (by omega) (by omega) (h3.trans l1) (l1 _ _ h4) (by omega)
        refine ⟨S', r1, r2, ?_⟩
        rw [hdr, List.filterMap_cons_none eg]
        exact r3
      | some y =>
        have h6 := l1 _ _ h4
        simp only [h6]
        rw [if_pos (by omega)]
        obtain ⟨S', r1, r2, r3⟩ := ih (k + 1) (S1.set d (.lst false (acc ++ [y]))) (acc ++ [y]) (by omega) (by omega) ((h3.trans l1).set hd)
          (by rw [List.getElem?_set_self (List.getElem?_eq_some_iff.mp h6).1]) (by simp; omega)
        refine ⟨S', r1, r2, ?_⟩
        rw [hdr, List.filterMap_cons_some eg]
        simpa using r3
theorem wp_comp {α : Type} {c e : Env → Store → Res Val} {w : Walk} {n : Nat} {P : Val → Store → Prop} {E : Exn → Store → Prop} (xs : List α) (f : α → Val) (g : α → Option Val) (hw : mkWalk kd S vs = some (w, n)) (hn : xs.length ≤ n) (hl : xs.length ≤ line)
    (hwk : ∀ S' k, Le S S' → walkAt S' w k = some (xs.map f)[k]?)
    (ht : ∀ x ∈ xs, ∀ S1, Le S S1 → (compT tp is env c e (f x) S1).wp (fun y S2 => y = g x ∧ Le S1 S2) noX)
    (h : ∀ S', Le S S' → S'[S.length]? = some (.lst false (xs.filterMap g)) → P (.obj S.length) S') : (compV tp is kd env c e vs S).wp P E := by
  unfold compV
  rw [hw]
  obtain ⟨S', r1, r2, r3⟩ := compW_ok (turn := compT tp is env c e) xs f g S (Nat.le_refl _) hwk (fun x hx S1 h1 => by
    have := ht x hx S1 h1
    cases eo : compT tp is env c e (f x) S1 with
    | ok a S2 => rw [eo] at this; exact ⟨S2, by rw [this.1], this.2⟩
    | ex x S2 => rw [eo] at this; exact this.elim
    | no => rw [eo] at this; exact this.elim) hl (n + 1) 0 (S ++ [.lst false []]) [] (by omega) (Nat.zero_le _) (Le.app _ _) (at_end _ _) (Nat.zero_le _)
  simp only [r1]
  exact h S' r2 (by simpa using r3)
end

/-! ## equality -/
theorem eqvAll_refl : ∀ (ds : List PyData), (∀ d ∈ ds, PyData.eqv d d = true) → PyData.eqvAll ds ds = true
  | [], _ => rfl
  | d :: r, h => by
    unfold PyData.eqvAll
    rw [h d List.mem_cons_self, eqvAll_refl r fun e he => h e (List.mem_cons_of_mem _ he)]
    rfl
section
variable {S : Store}
@[simp] theorem eqD_int {i j : Int} : eqD S (.int i) (.int j) = some (i == j) := rfl
@[simp] theorem eqD_str {i j : Str} : eqD S (.str i) (.str j) = some (i == j) := rfl
@[simp] theorem eqD_bl {i j : Bool} : eqD S (.bl i) (.bl j) = some (i == j) := rfl
@[simp] theorem eqD_nn : eqD S .non .non = some true := rfl
@[simp] theorem eqD_ni {i : Int} : eqD S .non (.int i) = some false := rfl
@[simp] theorem eqD_in {i : Int} : eqD S (.int i) .non = some false := rfl
@[simp] theorem eqD_ns {i : Str} : eqD S .non (.str i) = some false := rfl
@[simp] theorem eqD_sn {i : Str} : eqD S (.str i) .non = some false := rfl
theorem dat_list {i n : Nat} {l : Bool} {xs : List Val} (h : S[i]? = some (.lst l xs)) : dat (n + 1) S (.obj i) = (xs.mapM (dat n S)).map .list := by
  unfold dat
  rw [h]
theorem dat_tup {n : Nat} {xs : List Val} : dat (n + 1) S (.tup xs) = (xs.mapM (dat n S)).map .tuple := by
  conv => lhs; unfold dat
theorem pmapM_some {α β : Type} {f : α → Option β} : ∀ {xs : List α}, (∀ x ∈ xs, (f x).isSome = true) → ∃ ys, xs.mapM f = some ys ∧ ∀ y ∈ ys, ∃ x ∈ xs, f x = some y
  | [], _ => ⟨[], rfl, fun _ h => by cases h⟩
  | x :: xs, h => by
    obtain ⟨y, hy⟩ := Option.isSome_iff_exists.mp (h x List.mem_cons_self)
    obtain ⟨ys, h1, h2⟩ := pmapM_some (fun z hz => h z (List.mem_cons_of_mem _ hz))
    refine ⟨y :: ys, by simp [List.mapM_cons, hy, h1], fun z hz => ?_⟩
    rcases List.mem_cons.mp hz with rfl | hz
    · exact ⟨x, List.mem_cons_self, hy⟩
    · obtain ⟨w, hw, e⟩ := h2 z hz
      exact ⟨w, List.mem_cons_of_mem _ hw, e⟩
theorem dat_self : ∀ (n : Nat) (v : Val) (d : PyData), dat n S v = some d → PyData.eqv d d = true := by
  intro n
  induction n with
  | zero =>
    intro v d h
    cases v <;> simp [dat] at h <;> subst h <;> simp [PyData.eqv]
  | succ n ih =>
    intro v d h
    have key : ∀ (xs : List Val) ds, xs.mapM (dat n S) = some ds → ∀ d ∈ ds, PyData.eqv d d = true := by
      intro xs
      induction xs with
      | nil => intro ds h d hd; cases h; cases hd
      | cons x xs ihx =>
        intro ds h d hd
        rw [List.mapM_cons] at h
        cases e1 : dat n S x with
        | none => simp [e1] at h
        | some y =>
          cases e2 : xs.mapM (dat n S) with
          | none => simp [e1, e2] at h
          | some ys =>
            simp [e1, e2] at h
            subst h
            rcases List.mem_cons.mp hd with rfl | hd
            · exact ih x _ e1
            · exact ihx ys e2 d hd
    cases v with
    | tup xs =>
      rw [dat_tup] at h
      cases e : xs.mapM (dat n S) with
      | none => simp [e] at h
      | some ds =>
        simp [e] at h
        subst h
        simpa [PyData.eqv] using eqvAll_refl ds (key xs ds e)
    | obj i =>
      unfold dat at h
      split at h
      · rename_i l xs hx
        cases e : xs.mapM (dat n S) with
        | none => simp [e] at h
        | some ds =>
          simp [e] at h
          subst h
          simpa [PyData.eqv] using eqvAll_refl ds (key xs ds e)
      · cases h
    | non => simp [dat] at h; subst h; simp [PyData.eqv]
    | bl b => simp [dat] at h; subst h; simp [PyData.eqv]
    | int b => simp [dat] at h; subst h; simp [PyData.eqv]
    | str b => simp [dat] at h; subst h; simp [PyData.eqv]
    | fn a b => simp [dat] at h
/-- a value that can be compared -/
def Dat (n : Nat) (S : Store) (v : Val) : Prop := (dat n S v).isSome = true
theorem eqD_refl {v : Val} (h : Dat 64 S v) : eqD S v v = some true := by
  obtain ⟨d, hd⟩ := Option.isSome_iff_exists.mp h
  unfold eqD
  rw [hd]
  simp [dat_self _ _ _ hd]
theorem eqD_lists {i j : Nat} {l m : Bool} {xs : List Val} (h1 : S[i]? = some (.lst l xs)) (h2 : S[j]? = some (.lst m xs)) (h : ∀ x ∈ xs, Dat 63 S x) : eqD S (.obj i) (.obj j) = some true := by
  obtain ⟨ds, e, _⟩ := pmapM_some h
  have d1 : dat 64 S (.obj i) = some (.list ds) := by rw [dat_list h1, e]; rfl
  have d2 : dat 64 S (.obj j) = some (.list ds) := by rw [dat_list h2, e]; rfl
  unfold eqD
  rw [d1, d2]
  simp [dat_self _ _ _ d1]
@[simp] theorem Dat_int {n : Nat} {i : Int} : Dat n S (.int i) := by cases n <;> simp [Dat, dat]
@[simp] theorem Dat_str {n : Nat} {i : Str} : Dat n S (.str i) := by cases n <;> simp [Dat, dat]
@[simp] theorem Dat_bl {n : Nat} {i : Bool} : Dat n S (.bl i) := by cases n <;> simp [Dat, dat]
@[simp] theorem Dat_non {n : Nat} : Dat n S .non := by cases n <;> simp [Dat, dat]
theorem Dat_tup {n : Nat} {xs : List Val} (h : ∀ x ∈ xs, Dat n S x) : Dat (n + 1) S (.tup xs) := by
  obtain ⟨ds, e, _⟩ := pmapM_some h
  unfold Dat
  rw [dat_tup, e]
  rfl
/-- a list and the list of nothing -/
theorem eqD_nil {i j : Nat} {l m : Bool} {xs : List Val} (h1 : S[i]? = some (.lst l xs)) (h2 : S[j]? = some (.lst m [])) (h : ∀ x ∈ xs, Dat 63 S x) : eqD S (.obj i) (.obj j) = some xs.isEmpty := by
  obtain ⟨ds, e, _⟩ := pmapM_some h
  have d1 : dat 64 S (.obj i) = some (.list ds) := by rw [dat_list h1, e]; rfl
  have d2 : dat 64 S (.obj j) = some (.list []) := by rw [dat_list h2]; rfl
  unfold eqD
  rw [d1, d2]
  cases xs with
  | nil => cases e; rfl
  | cons x xs =>
    cases ds with
    | nil => rw [List.mapM_cons] at e; cases e1 : dat 63 S x <;> cases e2 : xs.mapM (dat 63 S) <;> simp [e1, e2] at e
    | cons d ds => rfl
end
end Nw

set_option Elab.async false
set_option linter.all false
set_option maxRecDepth 100000
set_option maxHeartbeats 4000000
namespace Nw
open PySem L2
/-! ## more small facts -/
theorem atI_pos {α : Type} {xs : List α} {k : Int} (h : 0 ≤ k) : atI xs k = xs[k.toNat]? := by
  unfold atI ixN
  rw [if_pos h]
  by_cases h1 : k < xs.length
  · rw [if_pos h1]; rfl
  · rw [if_neg h1]
    rw [List.getElem?_eq_none (by omega)]
    rfl
theorem atI_neg {α : Type} {xs : List α} {k : Int} (h : k < 0) (h2 : -(xs.length : Int) ≤ k) : atI xs k = xs[(k + xs.length).toNat]? := by
  unfold atI ixN
  rw [if_neg (by omega), if_pos h2]
  rfl
@[simp] theorem chain_le {i j : Int} {S : Store} {q : Bool} : chainV .le (.int i) (.int j) S (.ok (Val.bl q) S) = .ok (.bl (decide (i ≤ j) && q)) S := by
  unfold chainV; rw [pcmp_le]; cases decide (i ≤ j) <;> rfl
@[simp] theorem chain_lt {i j : Int} {S : Store} {q : Bool} : chainV .lt (.int i) (.int j) S (.ok (Val.bl q) S) = .ok (.bl (decide (i < j) && q)) S := by
  unfold chainV; rw [pcmp_lt]; cases decide (i < j) <;> rfl
theorem seqI {S : Store} {i : Nat} {l : Bool} {xs : List Val} {k : Int} (h : S[i]? = some (.lst l xs)) : ixV S (.obj i) (.int k) = atI xs k := by
  simp [ixV, h]
theorem tupI {S : Store} {xs : List Val} {k : Int} : ixV S (.tup xs) (.int k) = atI xs k := rfl
/-- an item of ints -/
theorem at_ints {ns : List Int} {k : Nat} (h : k < ns.length) : (ns.map Val.int)[k]? = some (.int ns[k]) := by
  rw [List.getElem?_map, List.getElem?_eq_getElem h]; rfl
theorem str_ext {s t : Str} (h : s.cps.toList = t.cps.toList) : s = t := by
  obtain ⟨⟨a⟩⟩ := s
  obtain ⟨⟨b⟩⟩ := t
  simpa using h
theorem str_beq {s t : Str} : (s == t) = (s.cps.toList == t.cps.toList) := by
  rw [Bool.eq_iff_iff]
  simp only [beq_iff_eq]
  exact ⟨fun h => by rw [h], str_ext⟩
theorem str_len {s : Str} : s.length = s.cps.toList.length := by simp [Str.length]
theorem cut_len {z : Str} {lo hi : Option Int} : (cutS z lo hi).length ≤ z.length := by
  unfold cutS
  rw [str_len, str_len]
  simp only [List.length_take, List.length_drop]
  omega
theorem app_len {a b : Str} : (a ++ b).length = a.length + b.length := by
  show (Str.append a b).length = _
  unfold Str.append Str.length
  simp
theorem app_cps {a b : Str} : (a ++ b).cps.toList = a.cps.toList ++ b.cps.toList := by
  show (Str.append a b).cps.toList = _
  unfold Str.append
  simp
theorem join0 : ∀ (l : List Str), (Txt.join (Str.ofString "") l).cps.toList = (l.map fun s => s.cps.toList).flatten := by
  intro l
  show (Builtin.Str.glued (Str.ofString "") l).cps.toList = _
  rw [StrLaws.glued_eq_join]
  have e0 : (Str.ofString "").cps.toList = [] := by decide +kernel
  induction l with
  | nil => rfl
  | cons a r ih =>
    cases r with
    | nil => show a.cps.toList = _; simp
    | cons b r =>
      show (a ++ Str.ofString "" ++ Str.join (Str.ofString "") (b :: r)).cps.toList = _
      rw [app_cps, app_cps, e0, ih]
      simp
theorem line_eq0 : line = 16777216 := rfl
theorem strI {S : Store} {z : Str} {i : Int} (h0 : 0 ≤ i) (h1 : i < z.length) (h2 : z.length ≤ 1000) : ∃ c, ixV S (.str z) (.int i) = some (.str ⟨#[c]⟩) := by
  have h3 : z.length ≤ line := by rw [line_eq0]; omega
  have h4 : i.toNat < z.cps.toList.length := by rw [← str_len]; omega
  refine ⟨z.cps.toList[i.toNat], ?_⟩
  simp only [ixV, h3, if_true]
  rw [atI_pos h0, List.getElem?_eq_getElem h4]
  rfl
@[simp] theorem optI_int {i : Int} {S : Store} : optI (.int i) S = .ok (some i) S := rfl
theorem slS {S : Store} {z : Str} {lo hi : Option Int} (h : z.length ≤ 1000) : slV S (.str z) lo hi = .ok (.str (cutS z lo hi)) S := by
  have h3 : z.length ≤ line := by rw [line_eq0]; omega
  simp only [slV, h3, if_true]
theorem str1_len {c : Nat} : (⟨#[c]⟩ : Str).length = 1 := rfl
theorem lineq : line = 16777216 := rfl
theorem mapM_map {α β : Type} {f : β → Option α} {g : α → β} (h : ∀ a, f (g a) = some a) : ∀ l : List α, (l.map g).mapM f = some l
  | [] => rfl
  | a :: r => by
    have := mapM_map h r
    rw [List.map_cons, List.mapM_cons, h, this]
    rfl
theorem mapM_bls (l : List Bool) : (l.map Val.bl).mapM boolOf = some l := mapM_map (f := boolOf) (g := Val.bl) (fun _ => rfl) l
theorem mapM_ints (l : List Int) : (l.map Val.int).mapM intOf = some l := mapM_map (f := intOf) (g := Val.int) (fun _ => rfl) l
theorem mapM_strs (l : List Str) : (l.map Val.str).mapM strOf = some l := mapM_map (f := strOf) (g := Val.str) (fun _ => rfl) l
theorem allV_ok {S : Store} {i : Nat} {l : Bool} {bs : List Bool} (h : S[i]? = some (.lst l (bs.map .bl))) : allV S [.obj i] = .ok (.bl (bs.all id)) S := by
  simp only [allV, h, mapM_bls]
theorem filterMap_some {α β : Type} {h : α → β} {l : List α} : l.filterMap (fun c => some (h c)) = l.map h := by
  induction l with
  | nil => rfl
  | cons a r ih => simp [List.filterMap_cons, ih]
theorem filterMap_empty {α β : Type} {p : α → Bool} {f : α → β} {l : List α} : (l.filterMap fun c => if p c then none else some (f c)).isEmpty = l.all p := by
  induction l with
  | nil => rfl
  | cons a r ih =>
    cases h : p a with
    | true => rw [List.filterMap_cons_none (by simp [h]), ih]; simp [h]
    | false => rw [List.filterMap_cons_some (b := f a) (by simp [h])]; simp [h]
/-- a truth, whatever it is -/
theorem some_bl {b : Bool} {P : Val → Prop} (h : P (.bl b)) : ∃ a, (some b = some false ∧ Val.bl false = a ∨ some b = some true ∧ Val.bl true = a) ∧ P a := ⟨.bl b, by cases b <;> simp, h⟩
theorem walk_str {S : Store} {t : Str} (h : t.length ≤ 1000) : mkWalk .val S [.str t] = some (.sq (t.cps.toList.map fun c => .str ⟨#[c]⟩), t.length) := by
  have : t.length ≤ line := by rw [lineq]; omega
  simp [mkWalk, wkVal, this]
@[simp] theorem at0 {S : Store} {a : Obj} {r : List Obj} : (S ++ a :: r)[S.length]? = some a := by simp
@[simp] theorem at1 {S : Store} {a b : Obj} {r : List Obj} : (S ++ a :: b :: r)[S.length + 1]? = some b := by
  rw [List.getElem?_append_right (by omega)]; simp
/-- two lists put together, the store left in the dark -/
theorem wp_addL' {S : Store} {i j : Nat} {xs ys : List Val} {P : Val → Store → Prop} {E : Exn → Store → Prop} (h1 : S[i]? = some (.lst false xs)) (h2 : S[j]? = some (.lst false ys)) (hl : xs.length + ys.length ≤ line)
    (h : ∀ S' q, Le S S' → S'[q]? = some (.lst false (xs ++ ys)) → S.length ≤ q → P (.obj q) S') : (binV .add S (.obj i) (.obj j)).wp P E :=
  wp_addL h1 h2 hl (h _ _ (Le.app _ _) (at_end _ _) (Nat.le_refl _))
theorem any_strs {t : Str} : ∀ {l : List Str}, (l.map Val.str).any (fun y => eqF y (.str t)) = l.any fun k => k == t
  | [] => rfl
  | a :: r => by rw [List.map_cons, List.any_cons, List.any_cons, any_strs]; rfl
theorem flat_strs : ∀ {l : List Str}, (l.map Val.str).all flat = true
  | [] => rfl
  | a :: r => by rw [List.map_cons, List.all_cons, flat_strs]; rfl
theorem mem_strs {S : Store} {i : Nat} {l : Bool} {ks : List Str} {t : Str} (h : S[i]? = some (.lst l (ks.map .str))) : memV S (.str t) (.obj i) = some (ks.any fun k => k == t) := by
  simp only [memV, h, flat_strs, any_strs, flat, Bool.and_self, if_true]
/-- what is asked of each value: it can be looked at -/
def Lk0 (S : Store) (v : Val) : Prop := match v with
  | .fn _ _ => False
  | .obj i => (∃ l xs, S[i]? = some (.lst l xs)) ∨ (∃ kvs, S[i]? = some (.dK false kvs))
  | .str t => t.length ≤ 1000
  | _ => True
theorem Lk0.le {S S' : Store} {v : Val} (h : Lk0 S v) (l : Le S S') : Lk0 S' v := by
  cases v with
  | obj i =>
    rcases h with ⟨b, xs, h⟩ | ⟨k, h⟩
    · exact .inl ⟨b, xs, l _ _ h⟩
    · exact .inr ⟨k, l _ _ h⟩
  | _ => exact h
def isS : Val → Bool
  | .str _ => true
  | _ => false
theorem isi_str {S : Store} {v : Val} (h : Lk0 S v) : isiV .str S v = some (isS v) := by
  cases v with
  | obj i =>
    rcases h with ⟨b, xs, h⟩ | ⟨k, h⟩
    · simp [isiV, h, isS]
    · simp [isiV, h, isS]
  | fn _ _ => exact h.elim
  | _ => simp [isiV, isS]
def isN : Val → Bool
  | .int _ => true
  | .bl _ => true
  | _ => false
theorem isi_int {S : Store} {v : Val} (h : Lk0 S v) : isiV .int S v = some (isN v) := by
  cases v with
  | obj i =>
    rcases h with ⟨b, xs, h⟩ | ⟨k, h⟩
    · simp [isiV, h, isN]
    · simp [isiV, h, isN]
  | fn _ _ => exact h.elim
  | _ => simp [isiV, isN]
def isB : Val → Bool
  | .bl _ => true
  | _ => false
theorem isi_bool {S : Store} {v : Val} (h : Lk0 S v) : isiV .bool S v = some (isB v) := by
  cases v with
  | obj i =>
    rcases h with ⟨b, xs, h⟩ | ⟨k, h⟩
    · simp [isiV, h, isB]
    · simp [isiV, h, isB]
  | fn _ _ => exact h.elim
  | _ => simp [isiV, isB]
end Nw

set_option Elab.async false
set_option linter.all false
set_option maxRecDepth 100000
set_option maxHeartbeats 4000000
namespace Nw
open PySem L2
/-! ## dicts, by their keys -/
section
variable {κ : Type} [DecidableEq κ] {kvs : List (κ × Val)} {k k' : κ} {v : Val}
theorem look_nil : look ([] : List (κ × Val)) k = none := rfl
theorem look_cons {q : κ} {x : Val} {r : List (κ × Val)} : look ((q, x) :: r) k = if q = k then some x else look r k := by
  unfold look
  by_cases h : q = k
  · rw [List.find?_cons_of_pos (by simpa using h), if_pos h]; rfl
  · rw [List.find?_cons_of_neg (by simpa using h), if_neg h]
theorem look_app_none {m : List (κ × Val)} (h : look kvs k = none) : look (kvs ++ m) k = look m k := by
  induction kvs with
  | nil => rfl
  | cons a r ih =>
    obtain ⟨q, x⟩ := a
    rw [look_cons] at h
    rw [List.cons_append, look_cons]
    split at h
    · cases h
    · rename_i hq; rw [if_neg hq]; exact ih h
theorem look_app_some {m : List (κ × Val)} (h : look kvs k = some v) : look (kvs ++ m) k = some v := by
  induction kvs with
  | nil => cases h
  | cons a r ih =>
    obtain ⟨q, x⟩ := a
    rw [look_cons] at h
    rw [List.cons_append, look_cons]
    split at h
    · rename_i hq; rw [if_pos hq]; exact h
    · rename_i hq; rw [if_neg hq]; exact ih h
theorem any_look : (kvs.any fun kv => decide (kv.1 = k)) = (look kvs k).isSome := by
  induction kvs with
  | nil => rfl
  | cons a r ih =>
    obtain ⟨q, x⟩ := a
    rw [List.any_cons, look_cons, ih]
    by_cases h : q = k <;> simp [h]
theorem look_put : look (put kvs k v) k' = if k' = k then some v else look kvs k' := by
  unfold put
  rw [any_look]
  by_cases h : (look kvs k).isSome = true
  · rw [if_pos h]
    induction kvs with
    | nil => cases h
    | cons a r ih =>
      obtain ⟨q, x⟩ := a
      rw [List.map_cons]
      rw [look_cons] at h
      by_cases hq : q = k
      · subst hq
        simp only [if_true]
        rw [look_cons, look_cons]
        by_cases hk : q = k'
        · simp [hk]
        · rw [if_neg hk, if_neg hk, if_neg (fun z => hk z.symm)]
          by_cases h2 : (look r q).isSome = true
          · rw [ih h2, if_neg (fun z => hk z.symm)]
          · have : r.map (fun kv => if kv.1 = q then (kv.1, v) else kv) = r := by
              have : ∀ kv ∈ r, (if kv.1 = q then (kv.1, v) else kv) = kv := fun kv hkv => by
                rw [if_neg]
                intro e
                apply h2
                rw [← any_look, List.any_eq_true]
                exact ⟨kv, hkv, by simpa using e⟩
              rw [List.map_congr_left this, List.map_id']
            rw [this]
      · rw [if_neg hq] at h
        simp only [hq, if_false]
        rw [look_cons, look_cons, ih h]
        by_cases hk : q = k'
        · rw [if_pos hk, if_pos hk, if_neg (fun z => hq (hk.trans z))]
        · rw [if_neg hk, if_neg hk]
  · rw [if_neg h]
    have hn : look kvs k = none := by cases e : look kvs k <;> simp [e] at h ⊢
    by_cases hk : k' = k
    · subst hk
      rw [look_app_none hn, look_cons]; simp
    · rw [if_neg hk]
      cases e : look kvs k' with
      | none => rw [look_app_none e, look_cons, if_neg (fun z => hk z.symm)]; rfl
      | some x => exact look_app_some e
theorem put_len : (put kvs k v).length ≤ kvs.length + 1 := by
  unfold put
  split <;> simp
theorem look_drop : look (drop kvs k) k' = if k' = k then none else look kvs k' := by
  unfold drop
  induction kvs with
  | nil => simp [look_nil]
  | cons a r ih =>
    obtain ⟨q, x⟩ := a
    by_cases hq : q = k
    · subst hq
      rw [List.filter_cons_of_neg (by simp), ih, look_cons]
      by_cases hk : k' = q
      · rw [if_pos hk, if_pos hk]
      · rw [if_neg hk, if_neg hk, if_neg (fun z => hk z.symm)]
    · rw [List.filter_cons_of_pos (by simpa using hq), look_cons, look_cons, ih]
      by_cases hk : q = k'
      · rw [if_pos hk, if_pos hk, if_neg (fun z => hq (hk.trans z))]
      · rw [if_neg hk, if_neg hk]
theorem drop_len : (drop kvs k).length ≤ kvs.length := List.length_filter_le _ _
end
@[simp] theorem keyOf_int {i : Int} : keyOf (.int i) = some (.inl i) := rfl
@[simp] theorem keyOf_str {i : Str} : keyOf (.str i) = some (.inr i) := rfl
theorem erase_ix {ns : List Int} {k : Int} (h : k ∈ ns) : ∃ j, ns.findIdx? (fun n => n == k) = some j ∧ ns.eraseIdx j = ns.erase k := by
  induction ns with
  | nil => cases h
  | cons a r ih =>
    rw [List.findIdx?_cons]
    by_cases e : a = k
    · subst e; exact ⟨0, by simp, by simp⟩
    · have hk : k ∈ r := by rcases List.mem_cons.mp h with h | h; exact absurd h.symm e; exact h
      obtain ⟨j, h1, h2⟩ := ih hk
      refine ⟨j + 1, by simp [e, h1], ?_⟩
      rw [List.eraseIdx_cons_succ, h2, List.erase_cons_tail (by simpa using e)]
theorem ne_ob {S : Store} {i j : Nat} {o u : Obj} (h : S[i]? = some o) (k : S[j]? = some u) (n : o ≠ u) : i ≠ j := fun e => by
  subst e; rw [h] at k; cases k; exact n rfl
theorem lt_ob {S : Store} {i : Nat} {o : Obj} (h : S[i]? = some o) : i < S.length := (List.getElem?_eq_some_iff.mp h).1
theorem set_ne {S : Store} {i j : Nat} {o u : Obj} (h : S[i]? = some o) (n : i ≠ j) : (S.set j u)[i]? = some o := by
  rw [List.getElem?_set_ne (fun z => n z.symm)]; exact h
theorem set_eq {S : Store} {j : Nat} {o u : Obj} (h : S[j]? = some o) : (S.set j u)[j]? = some u := by
  rw [List.getElem?_set_self (lt_ob h)]
theorem app_at {S T : Store} {i : Nat} {o : Obj} (h : S[i]? = some o) : (S ++ T)[i]? = some o := Le.app S T i o h
/-- the store, but for some places -/
def Same (p : Nat → Prop) (S S' : Store) : Prop := ∀ (i : Nat) o, S[i]? = some o → ¬ p i → S'[i]? = some o

/-! ## lines -/
def fup {α β : Type} [DecidableEq α] (f : α → β) (a : α) (b : β) : α → β := fun x => if x = a then b else f x
@[simp] theorem fup_same {α β : Type} [DecidableEq α] {f : α → β} {a : α} {b : β} : fup f a b a = b := by simp [fup]
theorem fup_ne {α β : Type} [DecidableEq α] {f : α → β} {a x : α} {b : β} (h : x ≠ a) : fup f a b x = f x := by simp [fup, h]
structure LAt (S : Store) (c p r s : Nat) (kr ks : List (Key × Val)) (R : Str → List Int) (P : Int → Option Str) (n : Nat) : Prop where
  ob : S[p]? = some (.ins c [(0, .obj r), (1, .obj s)])
  rd : S[r]? = some (.dK false kr)
  sd : S[s]? = some (.dK false ks)
  rs : r ≠ s
  row : ∀ b, (look kr (.inr b) = none ∧ R b = []) ∨ ∃ l, look kr (.inr b) = some (.obj l) ∧ S[l]? = some (.lst false ((R b).map .int))
  inj : ∀ b b' l, look kr (.inr b) = some (.obj l) → look kr (.inr b') = some (.obj l) → b = b'
  st : ∀ w, look ks (.inl w) = (P w).map .str
  lr : kr.length ≤ n
  ls : ks.length ≤ n
  lR : ∀ b, (R b).length ≤ n
/-- the places that lines may write -/
def Lp (r s : Nat) (kr : List (Key × Val)) (i : Nat) : Prop := i = r ∨ i = s ∨ ∃ b, look kr (.inr b) = some (.obj i)
theorem LAt.le {S S' : Store} {c p r s n : Nat} {kr ks : List (Key × Val)} {R : Str → List Int} {P : Int → Option Str} (h : LAt S c p r s kr ks R P n) (l : Le S S') : LAt S' c p r s kr ks R P n :=
  ⟨l _ _ h.ob, l _ _ h.rd, l _ _ h.sd, h.rs, fun b => (h.row b).imp id fun ⟨q, h1, h2⟩ => ⟨q, h1, l _ _ h2⟩, h.inj, h.st, h.lr, h.ls, h.lR⟩
theorem LAt.more {S : Store} {c p r s n m : Nat} {kr ks : List (Key × Val)} {R : Str → List Int} {P : Int → Option Str} (h : LAt S c p r s kr ks R P n) (l : n ≤ m) : LAt S c p r s kr ks R P m :=
  ⟨h.ob, h.rd, h.sd, h.rs, h.row, h.inj, h.st, Nat.le_trans h.lr l, Nat.le_trans h.ls l, fun b => Nat.le_trans (h.lR b) l⟩
end Nw

set_option Elab.async false
set_option linter.all false
set_option maxRecDepth 100000
set_option maxHeartbeats 4000000
namespace Nw
open PySem L2
/-! ## sorting -/
theorem pleS_iff {a b : Str} : leS a b = true ↔ a.cps.toList ≤ b.cps.toList := by
  unfold leS
  rw [Bool.not_eq_true', decide_eq_false_iff_not]
  exact List.not_lt
theorem pleS_total (a b : Str) : leS a b = true ∨ leS b a = true := by rw [pleS_iff, pleS_iff]; exact List.le_total _ _
theorem pleS_trans {a b c : Str} (h : leS a b = true) (k : leS b c = true) : leS a c = true := by rw [pleS_iff] at *; exact List.le_trans h k
theorem pleS_anti {a b : Str} (h : leS a b = true) (k : leS b a = true) : a = b := by rw [pleS_iff] at *; exact str_ext (List.le_antisymm h k)
theorem pinsS_perm (a : Str) : ∀ l : List Str, (insS a l).Perm (a :: l)
  | [] => List.Perm.refl _
  | b :: r => by
    unfold insS
    split
    · exact List.Perm.refl _
    · exact ((pinsS_perm a r).cons b).trans (List.Perm.swap a b r)
theorem psortS_perm : ∀ l : List Str, (sortS l).Perm l
  | [] => List.Perm.refl _
  | a :: r => (pinsS_perm a (sortS r)).trans ((psortS_perm r).cons a)
theorem pinsS_sorted (a : Str) : ∀ l : List Str, l.Pairwise (fun a b => leS a b = true) → (insS a l).Pairwise (fun a b => leS a b = true)
  | [], _ => by simp [insS]
  | b :: r, h => by
    unfold insS
    have h2 := List.pairwise_cons.mp h
    split
    · rename_i hab
      refine List.pairwise_cons.mpr ⟨fun c hc => ?_, h⟩
      rcases List.mem_cons.mp hc with rfl | hc
      · exact hab
      · exact pleS_trans hab (h2.1 c hc)
    · rename_i hab
      refine List.pairwise_cons.mpr ⟨fun c hc => ?_, pinsS_sorted a r h2.2⟩
      rcases List.mem_cons.mp ((pinsS_perm a r).mem_iff.mp hc) with rfl | hc
      · exact (pleS_total c b).resolve_left hab
      · exact h2.1 c hc
theorem psortS_sorted : ∀ l : List Str, (sortS l).Pairwise (fun a b => leS a b = true)
  | [] => List.Pairwise.nil
  | a :: r => pinsS_sorted a _ (psortS_sorted r)
theorem sortS_uniq {l m : List Str} (h : l.Perm m) (s : m.Pairwise (fun a b => leS a b = true)) : sortS l = m :=
  List.Perm.eq_of_pairwise (fun a b _ _ x y => pleS_anti x y) (psortS_sorted l) s ((psortS_perm l).trans h)
/-- a sorted part of a list, got at two roads -/
theorem sortS_filter {l bs : List Str} {p : Str → Bool} (nd : l.Nodup) (nb : bs.Nodup) (h : ∀ b, b ∈ l ↔ b ∈ bs ∧ p b = true) : sortS l = (sortS bs).filter p := by
  refine sortS_uniq ?_ ((psortS_sorted bs).filter p)
  refine (List.perm_ext_iff_of_nodup nd ?_).mpr fun b => ?_
  · exact ((psortS_perm bs).nodup_iff.mpr nb).filter p
  · rw [List.mem_filter, (psortS_perm bs).mem_iff]; exact h b
theorem insI_perm (a : Int) : ∀ l : List Int, (insI a l).Perm (a :: l)
  | [] => List.Perm.refl _
  | b :: r => by
    unfold insI
    split
    · exact List.Perm.refl _
    · exact ((insI_perm a r).cons b).trans (List.Perm.swap a b r)
theorem sortI_perm : ∀ l : List Int, (sortI l).Perm l
  | [] => List.Perm.refl _
  | a :: r => (insI_perm a (sortI r)).trans ((sortI_perm r).cons a)
theorem insI_sorted (a : Int) : ∀ l : List Int, l.Pairwise (fun a b => a ≤ b) → (insI a l).Pairwise (fun a b => a ≤ b)
  | [], _ => by simp [insI]
  | b :: r, h => by
    unfold insI
    have h2 := List.pairwise_cons.mp h
    split
    · rename_i hab
      refine List.pairwise_cons.mpr ⟨fun c hc => ?_, h⟩
      rcases List.mem_cons.mp hc with rfl | hc
      · exact hab
      · exact Int.le_trans hab (h2.1 c hc)
    · rename_i hab
      refine List.pairwise_cons.mpr ⟨fun c hc => ?_, insI_sorted a r h2.2⟩
      rcases List.mem_cons.mp ((insI_perm a r).mem_iff.mp hc) with rfl | hc
      · omega
      · exact h2.1 c hc
theorem sortI_sorted : ∀ l : List Int, (sortI l).Pairwise (fun a b => a ≤ b)
  | [] => List.Pairwise.nil
  | a :: r => insI_sorted a _ (sortI_sorted r)
theorem sortI_uniq {l m : List Int} (h : l.Perm m) (s : m.Pairwise (fun a b => a ≤ b)) : sortI l = m :=
  List.Perm.eq_of_pairwise (fun a b _ _ x y => Int.le_antisymm x y) (sortI_sorted l) s ((sortI_perm l).trans h)
theorem sortV_ints {S : Store} {i : Nat} {l : Bool} {ns : List Int} (h : S[i]? = some (.lst l (ns.map .int))) : sortV S [.obj i] = .ok (.obj S.length) (S ++ [.lst false ((sortI ns).map .int)]) := by
  simp only [sortV, h, mapM_ints]
theorem sortV_strs {S : Store} {i : Nat} {l : Bool} {ss : List Str} (h : S[i]? = some (.lst l (ss.map .str))) (hl : ss.length < 64) : sortV S [.obj i] = .ok (.obj S.length) (S ++ [.lst false ((sortS ss).map .str)]) := by
  cases ss with
  | nil => simp [sortV, h, sortI, sortS]
  | cons a r =>
    have : ((a :: r).map Val.str).mapM intOf = none := by simp [List.mapM_cons, intOf]
    simp only [sortV, h, this, mapM_strs, hl, if_true]

/-! ## lists of ints -/
theorem ints_nil' {S : Store} {i : Nat} {l : Bool} {xs : List Int} (h : S[i]? = some (.lst l (xs.map .int))) : eqD (S ++ [.lst false []]) (.obj i) (.obj S.length) = some xs.isEmpty := by
  have h1 := Le.app S [Obj.lst false []] _ _ h
  rw [eqD_nil h1 (at_end _ _) (fun x hx => by obtain ⟨y, _, rfl⟩ := List.mem_map.mp hx; simp)]
  cases xs <;> rfl
theorem eq_ints {S : Store} {i j : Nat} {l m : Bool} {xs : List Int} (h : S[i]? = some (.lst l (xs.map .int))) (k : S[j]? = some (.lst m (xs.map .int))) : eqD S (.obj i) (.obj j) = some true :=
  eqD_lists h k fun x hx => by obtain ⟨y, _, rfl⟩ := List.mem_map.mp hx; simp
theorem eq_strs {S : Store} {i j : Nat} {l m : Bool} {xs : List Str} (h : S[i]? = some (.lst l (xs.map .str))) (k : S[j]? = some (.lst m (xs.map .str))) : eqD S (.obj i) (.obj j) = some true :=
  eqD_lists h k fun x hx => by obtain ⟨y, _, rfl⟩ := List.mem_map.mp hx; simp
theorem mem_ints {S : Store} {i : Nat} {l : Bool} {ns : List Int} {w : Int} (h : S[i]? = some (.lst l (ns.map .int))) : memV S (.int w) (.obj i) = some (decide (w ∈ ns)) := by
  have hf : (flat (.int w) && (ns.map Val.int).all flat) = true := by
    have : (ns.map Val.int).all flat = true := by rw [List.all_eq_true]; intro x hx; obtain ⟨y, _, rfl⟩ := List.mem_map.mp hx; rfl
    rw [this]; rfl
  simp only [memV, h, hf, if_true]
  congr 1
  rw [List.any_map, Bool.eq_iff_iff]
  simp [eqF]
theorem str_in_ints {S : Store} {i : Nat} {l : Bool} {ns : List Int} {w : Str} (h : S[i]? = some (.lst l (ns.map .int))) : memV S (.str w) (.obj i) = some false := by
  have hf : (flat (.str w) && (ns.map Val.int).all flat) = true := by
    have : (ns.map Val.int).all flat = true := by rw [List.all_eq_true]; intro x hx; obtain ⟨y, _, rfl⟩ := List.mem_map.mp hx; rfl
    rw [this]; rfl
  simp only [memV, h, hf, if_true]
  congr 1
  rw [List.any_map]
  simp [eqF]
theorem app_any {S : Store} {f : Nat} {xs : List Val} {x : Val} {P : Val → Store → Prop} {E : Exn → Store → Prop} (h : S[f]? = some (.lst false xs)) (hl : xs.length < line) (hP : P .non (S.set f (.lst false (xs ++ [x])))) :
    (optR (bmGo .append S (.obj f)) fun k => bmV .append k S (.obj f) [x]).wp P E := by
  have hk : kdOf S (.obj f) = some .list := by simp [kdOf, h]
  have ha : appV S (.obj f) [x] = .ok .non (S.set f (.lst false (xs ++ [x]))) := by simp only [appV, h, if_pos hl]
  simp only [bmGo, hk, Option.bind_some, bmK, if_true, optR_some, bmV, bmV0, ha, wp_ok]
  exact hP

/-! ## who stands where -/
structure WF (R : Str → List Int) (P : Int → Option Str) : Prop where
  mem : ∀ b w, w ∈ R b ↔ P w = some b
  nd : ∀ b, (R b).Nodup
theorem wf_erase {R : Str → List Int} {P : Int → Option Str} (wf : WF R P) {b0 : Str} {w : Int} (hw : P w = some b0) : WF (fup R b0 ((R b0).erase w)) (fup P w none) := by
  refine ⟨fun x z => ?_, fun x => ?_⟩
  · unfold fup
    by_cases hx : x = b0 <;> by_cases hy : z = w
    · subst hx hy
      simp only [if_true]
      constructor
      · intro q; exact absurd rfl ((List.Nodup.mem_erase_iff (wf.nd x)).mp q).1
      · intro q; cases q
    · subst hx
      simp only [hy, if_true, if_false]
      rw [List.Nodup.mem_erase_iff (wf.nd x), wf.mem x z]
      exact ⟨fun q => q.2, fun q => ⟨hy, q⟩⟩
    · subst hy
      simp only [hx, if_true, if_false]
      rw [wf.mem x z, hw]
      exact ⟨fun q => by cases q; exact absurd rfl hx, fun q => by cases q⟩
    · simp only [hx, hy, if_false]; exact wf.mem x z
  · unfold fup
    by_cases hx : x = b0
    · subst hx; simp only [if_true]; exact (wf.nd x).erase w
    · simp only [hx, if_false]; exact wf.nd x
theorem wf_add {R : Str → List Int} {P : Int → Option Str} (wf : WF R P) {b : Str} {w : Int} (hP : P w = none) : WF (fup R b (R b ++ [w])) (fup P w (some b)) := by
  refine ⟨fun x y => ?_, fun x => ?_⟩
  · unfold fup
    by_cases hx : x = b <;> by_cases hy : y = w
    · simp [hx, hy]
    · simp [hx, hy, wf.mem b y]
    · subst hy
      simp [hx, wf.mem x y, hP, Ne.symm hx]
    · simp [hx, hy, wf.mem x y]
  · unfold fup
    by_cases hx : x = b
    · subst hx
      simp only [if_true]
      rw [List.nodup_append]
      refine ⟨wf.nd x, by simp, fun a ha c hc => ?_⟩
      rw [List.mem_singleton] at hc
      subst hc
      rintro rfl
      have := (wf.mem x a).mp ha
      rw [hP] at this; cases this
    · simp only [hx, if_false]; exact wf.nd x
theorem wf_ring {R : Str → List Int} {P : Int → Option Str} (wf : WF R P) {b : Str} : WF (fup R b []) (fun w => if w ∈ R b then none else P w) := by
  refine ⟨fun x y => ?_, fun x => ?_⟩
  · unfold fup
    by_cases hx : x = b
    · subst hx
      by_cases hy : y ∈ R x
      · simp [hy]
      · simp only [if_true, hy, if_false]
        rw [← wf.mem x y]
        simp [hy]
    · simp only [hx, if_false]
      by_cases hy : y ∈ R b
      · simp only [hy, if_true]
        rw [wf.mem x y, (wf.mem b y).mp hy]
        constructor
        · intro q; cases q; exact absurd rfl hx
        · intro q; cases q
      · simp only [hy, if_false]; exact wf.mem x y
  · unfold fup
    by_cases hx : x = b
    · simp [hx]
    · simp only [hx, if_false]; exact wf.nd x

/-! ## names of a dict -/
section
variable {κ : Type} [DecidableEq κ] {kvs : List (κ × Val)} {k : κ} {v : Val}
theorem look_mem (h : look kvs k = some v) : (k, v) ∈ kvs := by
  induction kvs with
  | nil => cases h
  | cons a r ih =>
    obtain ⟨q, x⟩ := a
    rw [look_cons] at h
    split at h
    · rename_i hq; cases h; rw [hq]; exact List.mem_cons_self
    · exact List.mem_cons_of_mem _ (ih h)
theorem mem_look (nd : (kvs.map (·.1)).Nodup) (h : (k, v) ∈ kvs) : look kvs k = some v := by
  induction kvs with
  | nil => cases h
  | cons a r ih =>
    obtain ⟨q, x⟩ := a
    rw [List.map_cons, List.nodup_cons] at nd
    rw [look_cons]
    rcases List.mem_cons.mp h with e | h
    · cases e; rw [if_pos rfl]
    · rw [if_neg]
      · exact ih nd.2 h
      · rintro rfl; exact nd.1 (List.mem_map.mpr ⟨_, h, rfl⟩)
theorem put_keys : (put kvs k v).map (·.1) = if k ∈ kvs.map (·.1) then kvs.map (·.1) else kvs.map (·.1) ++ [k] := by
  have ha : (kvs.any fun kv => decide (kv.1 = k)) = true ↔ k ∈ kvs.map (·.1) := by
    rw [List.any_eq_true, List.mem_map]
    constructor
    · rintro ⟨x, hx, e⟩; exact ⟨x, hx, by simpa using e⟩
    · rintro ⟨x, hx, e⟩; exact ⟨x, hx, by simpa using e⟩
  unfold put
  by_cases h : k ∈ kvs.map (·.1)
  · rw [if_pos (ha.mpr h), if_pos h, List.map_map]
    refine List.map_congr_left fun x _ => ?_
    show (if x.1 = k then (x.1, v) else x).1 = x.1
    split <;> rfl
  · rw [if_neg (fun z => h (ha.mp z)), if_neg h, List.map_append]; rfl
theorem put_nodup (nd : (kvs.map (·.1)).Nodup) : ((put kvs k v).map (·.1)).Nodup := by
  rw [put_keys]
  split
  · exact nd
  · rename_i h
    rw [List.nodup_append]
    refine ⟨nd, by simp, fun a ha c hc => ?_⟩
    rw [List.mem_singleton] at hc
    subst hc
    rintro rfl
    exact h ha
end
def nameOf : Key → Str
  | .inr s => s
  | .inl _ => Str.empty
/-- the keys: each once, all among the names -/
structure KN (bs : List Str) (kr : List (Key × Val)) : Prop where
  nd : (kr.map (·.1)).Nodup
  sub : ∀ k ∈ kr.map (·.1), ∃ b ∈ bs, k = .inr b
theorem KN.nil {bs : List Str} : KN bs [] := ⟨List.nodup_nil, fun k h => by cases h⟩
theorem KN.put {bs : List Str} {kr : List (Key × Val)} (h : KN bs kr) {b : Str} (hb : b ∈ bs) {v : Val} : KN bs (put kr (.inr b) v) := by
  refine ⟨put_nodup h.nd, fun k hk => ?_⟩
  rw [put_keys] at hk
  split at hk
  · exact h.sub k hk
  · rcases List.mem_append.mp hk with hk | hk
    · exact h.sub k hk
    · rw [List.mem_singleton] at hk; exact ⟨b, hb, hk⟩
theorem KN.names {bs : List Str} {kr : List (Key × Val)} (h : KN bs kr) : (kr.map fun kv => nameOf kv.1).Nodup ∧ ∀ b, b ∈ (kr.map fun kv => nameOf kv.1) ↔ ∃ v, look kr (.inr b) = some v := by
  constructor
  · have : (kr.map fun kv => nameOf kv.1) = (kr.map (·.1)).map nameOf := by rw [List.map_map]; rfl
    rw [this]
    have key : ∀ l : List Key, l.Nodup → (∀ k ∈ l, ∃ b ∈ bs, k = .inr b) → (l.map nameOf).Nodup := by
      intro l
      induction l with
      | nil => intro _ _; exact List.nodup_nil
      | cons a r ih =>
        intro nd sub
        rw [List.nodup_cons] at nd
        rw [List.map_cons, List.nodup_cons]
        refine ⟨fun z => ?_, ih nd.2 fun k hk => sub k (List.mem_cons_of_mem _ hk)⟩
        obtain ⟨c, hc, e⟩ := List.mem_map.mp z
        obtain ⟨b1, _, e1⟩ := sub a List.mem_cons_self
        obtain ⟨b2, _, e2⟩ := sub c (List.mem_cons_of_mem _ hc)
        subst e1 e2
        have : b2 = b1 := e
        subst this
        exact nd.1 hc
    exact key _ h.nd h.sub
  · intro b
    rw [List.mem_map]
    constructor
    · rintro ⟨⟨k, v⟩, hm, e⟩
      obtain ⟨b2, _, e2⟩ := h.sub k (List.mem_map.mpr ⟨_, hm, rfl⟩)
      subst e2
      have : b2 = b := e
      subst this
      exact ⟨v, mem_look h.nd hm⟩
    · rintro ⟨v, hv⟩
      exact ⟨_, look_mem hv, rfl⟩

/-! ## locks -/
section
variable {G : Tab} {ft : Fns} {env : Env} {S : Store}
@[simp] theorem ev_lock {i : Nat} {fs : List Nat} {a : PyE} : ev G ft (.lock i fs a) env S = optR (lkOf G env S i fs) fun p => lockV p.1 (ev G ft a env (S.set p.1 (.dK true p.2))) := by
  simp only [ev]
  cases lkOf G env S i fs <;> rfl
@[simp] theorem ex_lock {i : Nat} {fs : List Nat} {a : PyS} : ex G ft (.lockS i fs a) env S = optO (lkOf G env S i fs) fun p => lockO p.1 (ex G ft a env (S.set p.1 (.dK true p.2))) := by
  simp only [ex]
  cases lkOf G env S i fs <;> rfl
theorem wp_lockV {d : Nat} {kvs : List (Key × Val)} {r : Res Val} {P : Val → Store → Prop} {E : Exn → Store → Prop} (hd : S[d]? = some (.dK false kvs)) (h : r.wp (fun v S' => Le (S.set d (.dK true kvs)) S' ∧ (Le S (S'.set d (.dK false kvs)) → P v (S'.set d (.dK false kvs)))) noX) : (lockV d r).wp P E := by
  cases r with
  | ok v S' =>
    obtain ⟨h1, h2⟩ := h
    have hl : S'[d]? = some (.dK true kvs) := h1 _ _ (set_eq hd)
    simp only [lockV, unlk, hl]
    refine h2 fun i o e => ?_
    by_cases hi : i = d
    · subst hi; rw [hd] at e; cases e; exact set_eq hl
    · exact set_ne (h1 _ _ (set_ne e hi)) hi
  | ex e S' => exact h.elim
  | no => exact h.elim
end
end Nw

set_option Elab.async false
set_option linter.all false
set_option maxRecDepth 100000
set_option maxHeartbeats 4000000
namespace Nw.k54
open PySem L2 Nw
/-! ## words -/
@[simp] theorem n_ask_clean : ((Str.ofString "ask") == (Str.ofString "clean")) = false := by decide +kernel
@[simp] theorem m_ask_clean : ((Str.ofString "ask") = (Str.ofString "clean")) = False := by rw [eq_iff_iff, iff_false]; decide +kernel
@[simp] theorem n_ask_did : ((Str.ofString "ask") == (Str.ofString "did")) = false := by decide +kernel
@[simp] theorem m_ask_did : ((Str.ofString "ask") = (Str.ofString "did")) = False := by rw [eq_iff_iff, iff_false]; decide +kernel
@[simp] theorem n_ask_do : ((Str.ofString "ask") == (Str.ofString "do")) = false := by decide +kernel
@[simp] theorem m_ask_do : ((Str.ofString "ask") = (Str.ofString "do")) = False := by rw [eq_iff_iff, iff_false]; decide +kernel
@[simp] theorem n_ask_ended : ((Str.ofString "ask") == (Str.ofString "ended")) = false := by decide +kernel
@[simp] theorem m_ask_ended : ((Str.ofString "ask") = (Str.ofString "ended")) = False := by rw [eq_iff_iff, iff_false]; decide +kernel
@[simp] theorem n_ask_group : ((Str.ofString "ask") == (Str.ofString "group")) = false := by decide +kernel
@[simp] theorem m_ask_group : ((Str.ofString "ask") = (Str.ofString "group")) = False := by rw [eq_iff_iff, iff_false]; decide +kernel
@[simp] theorem n_ask_halt : ((Str.ofString "ask") == (Str.ofString "halt")) = false := by decide +kernel
@[simp] theorem m_ask_halt : ((Str.ofString "ask") = (Str.ofString "halt")) = False := by rw [eq_iff_iff, iff_false]; decide +kernel
@[simp] theorem n_ask_hear : ((Str.ofString "ask") == (Str.ofString "hear")) = false := by decide +kernel
@[simp] theorem m_ask_hear : ((Str.ofString "ask") = (Str.ofString "hear")) = False := by rw [eq_iff_iff, iff_false]; decide +kernel
@[simp] theorem n_ask_keep : ((Str.ofString "ask") == (Str.ofString "keep")) = false := by decide +kernel
@[simp] theorem m_ask_keep : ((Str.ofString "ask") = (Str.ofString "keep")) = False := by rw [eq_iff_iff, iff_false]; decide +kernel
@[simp] theorem n_ask_late : ((Str.ofString "ask") == (Str.ofString "late")) = false := by decide +kernel
@[simp] theorem m_ask_late : ((Str.ofString "ask") = (Str.ofString "late")) = False := by rw [eq_iff_iff, iff_false]; decide +kernel
@[simp] theorem n_ask_limit : ((Str.ofString "ask") == (Str.ofString "limit")) = false := by decide +kernel
@[simp] theorem m_ask_limit : ((Str.ofString "ask") = (Str.ofString "limit")) = False := by rw [eq_iff_iff, iff_false]; decide +kernel
@[simp] theorem n_ask_repeat : ((Str.ofString "ask") == (Str.ofString "repeat")) = false := by decide +kernel
@[simp] theorem m_ask_repeat : ((Str.ofString "ask") = (Str.ofString "repeat")) = False := by rw [eq_iff_iff, iff_false]; decide +kernel
@[simp] theorem n_ask_try : ((Str.ofString "ask") == (Str.ofString "try")) = false := by decide +kernel
@[simp] theorem m_ask_try : ((Str.ofString "ask") = (Str.ofString "try")) = False := by rw [eq_iff_iff, iff_false]; decide +kernel
@[simp] theorem n_ask_wait : ((Str.ofString "ask") == (Str.ofString "wait")) = false := by decide +kernel
@[simp] theorem m_ask_wait : ((Str.ofString "ask") = (Str.ofString "wait")) = False := by rw [eq_iff_iff, iff_false]; decide +kernel
@[simp] theorem n_ask_when : ((Str.ofString "ask") == (Str.ofString "when")) = false := by decide +kernel
@[simp] theorem m_ask_when : ((Str.ofString "ask") = (Str.ofString "when")) = False := by rw [eq_iff_iff, iff_false]; decide +kernel
@[simp] theorem n_begin_do : ((Str.ofString "begin") == (Str.ofString "do")) = false := by decide +kernel
@[simp] theorem m_begin_do : ((Str.ofString "begin") = (Str.ofString "do")) = False := by rw [eq_iff_iff, iff_false]; decide +kernel
@[simp] theorem n_begin_group : ((Str.ofString "begin") == (Str.ofString "group")) = false := by decide +kernel
@[simp] theorem m_begin_group : ((Str.ofString "begin") = (Str.ofString "group")) = False := by rw [eq_iff_iff, iff_false]; decide +kernel
@[simp] theorem n_begin_hear : ((Str.ofString "begin") == (Str.ofString "hear")) = false := by decide +kernel
@[simp] theorem m_begin_hear : ((Str.ofString "begin") = (Str.ofString "hear")) = False := by rw [eq_iff_iff, iff_false]; decide +kernel
@[simp] theorem n_begin_keep : ((Str.ofString "begin") == (Str.ofString "keep")) = false := by decide +kernel
@[simp] theorem m_begin_keep : ((Str.ofString "begin") = (Str.ofString "keep")) = False := by rw [eq_iff_iff, iff_false]; decide +kernel
@[simp] theorem n_begin_limit : ((Str.ofString "begin") == (Str.ofString "limit")) = false := by decide +kernel
@[simp] theorem m_begin_limit : ((Str.ofString "begin") = (Str.ofString "limit")) = False := by rw [eq_iff_iff, iff_false]; decide +kernel
@[simp] theorem n_begin_repeat : ((Str.ofString "begin") == (Str.ofString "repeat")) = false := by decide +kernel
@[simp] theorem m_begin_repeat : ((Str.ofString "begin") = (Str.ofString "repeat")) = False := by rw [eq_iff_iff, iff_false]; decide +kernel
@[simp] theorem n_begin_try : ((Str.ofString "begin") == (Str.ofString "try")) = false := by decide +kernel
@[simp] theorem m_begin_try : ((Str.ofString "begin") = (Str.ofString "try")) = False := by rw [eq_iff_iff, iff_false]; decide +kernel
@[simp] theorem n_begin_wait : ((Str.ofString "begin") == (Str.ofString "wait")) = false := by decide +kernel
@[simp] theorem m_begin_wait : ((Str.ofString "begin") = (Str.ofString "wait")) = False := by rw [eq_iff_iff, iff_false]; decide +kernel
@[simp] theorem n_begin_when : ((Str.ofString "begin") == (Str.ofString "when")) = false := by decide +kernel
@[simp] theorem m_begin_when : ((Str.ofString "begin") = (Str.ofString "when")) = False := by rw [eq_iff_iff, iff_false]; decide +kernel
@[simp] theorem n_caught_clean : ((Str.ofString "caught") == (Str.ofString "clean")) = false := by decide +kernel
@[simp] theorem m_caught_clean : ((Str.ofString "caught") = (Str.ofString "clean")) = False := by rw [eq_iff_iff, iff_false]; decide +kernel
@[simp] theorem n_caught_halt : ((Str.ofString "caught") == (Str.ofString "halt")) = false := by decide +kernel
@[simp] theorem m_caught_halt : ((Str.ofString "caught") = (Str.ofString "halt")) = False := by rw [eq_iff_iff, iff_false]; decide +kernel
@[simp] theorem n_caught_hear : ((Str.ofString "caught") == (Str.ofString "hear")) = false := by decide +kernel
@[simp] theorem m_caught_hear : ((Str.ofString "caught") = (Str.ofString "hear")) = False := by rw [eq_iff_iff, iff_false]; decide +kernel
@[simp] theorem n_caught_join : ((Str.ofString "caught") == (Str.ofString "join")) = false := by decide +kernel
@[simp] theorem m_caught_join : ((Str.ofString "caught") = (Str.ofString "join")) = False := by rw [eq_iff_iff, iff_false]; decide +kernel
@[simp] theorem n_caught_late : ((Str.ofString "caught") == (Str.ofString "late")) = false := by decide +kernel
@[simp] theorem m_caught_late : ((Str.ofString "caught") = (Str.ofString "late")) = False := by rw [eq_iff_iff, iff_false]; decide +kernel
@[simp] theorem n_caught_leave : ((Str.ofString "caught") == (Str.ofString "leave")) = false := by decide +kernel
@[simp] theorem m_caught_leave : ((Str.ofString "caught") = (Str.ofString "leave")) = False := by rw [eq_iff_iff, iff_false]; decide +kernel
@[simp] theorem n_caught_on : ((Str.ofString "caught") == (Str.ofString "on")) = false := by decide +kernel
@[simp] theorem m_caught_on : ((Str.ofString "caught") = (Str.ofString "on")) = False := by rw [eq_iff_iff, iff_false]; decide +kernel
@[simp] theorem n_caught_out : ((Str.ofString "caught") == (Str.ofString "out")) = false := by decide +kernel
@[simp] theorem m_caught_out : ((Str.ofString "caught") = (Str.ofString "out")) = False := by rw [eq_iff_iff, iff_false]; decide +kernel
@[simp] theorem n_caught_wait : ((Str.ofString "caught") == (Str.ofString "wait")) = false := by decide +kernel
@[simp] theorem m_caught_wait : ((Str.ofString "caught") = (Str.ofString "wait")) = False := by rw [eq_iff_iff, iff_false]; decide +kernel
@[simp] theorem n_clean_ask : ((Str.ofString "clean") == (Str.ofString "ask")) = false := by decide +kernel
@[simp] theorem m_clean_ask : ((Str.ofString "clean") = (Str.ofString "ask")) = False := by rw [eq_iff_iff, iff_false]; decide +kernel
@[simp] theorem n_clean_caught : ((Str.ofString "clean") == (Str.ofString "caught")) = false := by decide +kernel
@[simp] theorem m_clean_caught : ((Str.ofString "clean") = (Str.ofString "caught")) = False := by rw [eq_iff_iff, iff_false]; decide +kernel
@[simp] theorem n_clean_halt : ((Str.ofString "clean") == (Str.ofString "halt")) = false := by decide +kernel
@[simp] theorem m_clean_halt : ((Str.ofString "clean") = (Str.ofString "halt")) = False := by rw [eq_iff_iff, iff_false]; decide +kernel
@[simp] theorem n_clean_hear : ((Str.ofString "clean") == (Str.ofString "hear")) = false := by decide +kernel
@[simp] theorem m_clean_hear : ((Str.ofString "clean") = (Str.ofString "hear")) = False := by rw [eq_iff_iff, iff_false]; decide +kernel
@[simp] theorem n_clean_join : ((Str.ofString "clean") == (Str.ofString "join")) = false := by decide +kernel
@[simp] theorem m_clean_join : ((Str.ofString "clean") = (Str.ofString "join")) = False := by rw [eq_iff_iff, iff_false]; decide +kernel
@[simp] theorem n_clean_late : ((Str.ofString "clean") == (Str.ofString "late")) = false := by decide +kernel
@[simp] theorem m_clean_late : ((Str.ofString "clean") = (Str.ofString "late")) = False := by rw [eq_iff_iff, iff_false]; decide +kernel
@[simp] theorem n_clean_leave : ((Str.ofString "clean") == (Str.ofString "leave")) = false := by decide +kernel
@[simp] theorem m_clean_leave : ((Str.ofString "clean") = (Str.ofString "leave")) = False := by rw [eq_iff_iff, iff_false]; decide +kernel
@[simp] theorem n_clean_on : ((Str.ofString "clean") == (Str.ofString "on")) = false := by decide +kernel
@[simp] theorem m_clean_on : ((Str.ofString "clean") = (Str.ofString "on")) = False := by rw [eq_iff_iff, iff_false]; decide +kernel
@[simp] theorem n_clean_out : ((Str.ofString "clean") == (Str.ofString "out")) = false := by decide +kernel
@[simp] theorem m_clean_out : ((Str.ofString "clean") = (Str.ofString "out")) = False := by rw [eq_iff_iff, iff_false]; decide +kernel
@[simp] theorem n_clean_take : ((Str.ofString "clean") == (Str.ofString "take")) = false := by decide +kernel
@[simp] theorem m_clean_take : ((Str.ofString "clean") = (Str.ofString "take")) = False := by rw [eq_iff_iff, iff_false]; decide +kernel
@[simp] theorem n_clean_wait : ((Str.ofString "clean") == (Str.ofString "wait")) = false := by decide +kernel
@[simp] theorem m_clean_wait : ((Str.ofString "clean") = (Str.ofString "wait")) = False := by rw [eq_iff_iff, iff_false]; decide +kernel
@[simp] theorem n_did_ask : ((Str.ofString "did") == (Str.ofString "ask")) = false := by decide +kernel
@[simp] theorem m_did_ask : ((Str.ofString "did") = (Str.ofString "ask")) = False := by rw [eq_iff_iff, iff_false]; decide +kernel
@[simp] theorem n_did_halt : ((Str.ofString "did") == (Str.ofString "halt")) = false := by decide +kernel
@[simp] theorem m_did_halt : ((Str.ofString "did") = (Str.ofString "halt")) = False := by rw [eq_iff_iff, iff_false]; decide +kernel
@[simp] theorem n_did_hear : ((Str.ofString "did") == (Str.ofString "hear")) = false := by decide +kernel
@[simp] theorem m_did_hear : ((Str.ofString "did") = (Str.ofString "hear")) = False := by rw [eq_iff_iff, iff_false]; decide +kernel
@[simp] theorem n_did_join : ((Str.ofString "did") == (Str.ofString "join")) = false := by decide +kernel
@[simp] theorem m_did_join : ((Str.ofString "did") = (Str.ofString "join")) = False := by rw [eq_iff_iff, iff_false]; decide +kernel
@[simp] theorem n_did_take : ((Str.ofString "did") == (Str.ofString "take")) = false := by decide +kernel
@[simp] theorem m_did_take : ((Str.ofString "did") = (Str.ofString "take")) = False := by rw [eq_iff_iff, iff_false]; decide +kernel
@[simp] theorem n_did_wait : ((Str.ofString "did") == (Str.ofString "wait")) = false := by decide +kernel
@[simp] theorem m_did_wait : ((Str.ofString "did") = (Str.ofString "wait")) = False := by rw [eq_iff_iff, iff_false]; decide +kernel
@[simp] theorem n_do_ask : ((Str.ofString "do") == (Str.ofString "ask")) = false := by decide +kernel
@[simp] theorem m_do_ask : ((Str.ofString "do") = (Str.ofString "ask")) = False := by rw [eq_iff_iff, iff_false]; decide +kernel
@[simp] theorem n_do_begin : ((Str.ofString "do") == (Str.ofString "begin")) = false := by decide +kernel
@[simp] theorem m_do_begin : ((Str.ofString "do") = (Str.ofString "begin")) = False := by rw [eq_iff_iff, iff_false]; decide +kernel
@[simp] theorem n_do_give : ((Str.ofString "do") == (Str.ofString "give")) = false := by decide +kernel
@[simp] theorem m_do_give : ((Str.ofString "do") = (Str.ofString "give")) = False := by rw [eq_iff_iff, iff_false]; decide +kernel
@[simp] theorem n_do_group : ((Str.ofString "do") == (Str.ofString "group")) = false := by decide +kernel
@[simp] theorem m_do_group : ((Str.ofString "do") = (Str.ofString "group")) = False := by rw [eq_iff_iff, iff_false]; decide +kernel
@[simp] theorem n_do_hear : ((Str.ofString "do") == (Str.ofString "hear")) = false := by decide +kernel
@[simp] theorem m_do_hear : ((Str.ofString "do") = (Str.ofString "hear")) = False := by rw [eq_iff_iff, iff_false]; decide +kernel
@[simp] theorem n_do_keep : ((Str.ofString "do") == (Str.ofString "keep")) = false := by decide +kernel
@[simp] theorem m_do_keep : ((Str.ofString "do") = (Str.ofString "keep")) = False := by rw [eq_iff_iff, iff_false]; decide +kernel
@[simp] theorem n_do_let : ((Str.ofString "do") == (Str.ofString "let")) = false := by decide +kernel
@[simp] theorem m_do_let : ((Str.ofString "do") = (Str.ofString "let")) = False := by rw [eq_iff_iff, iff_false]; decide +kernel
@[simp] theorem n_do_limit : ((Str.ofString "do") == (Str.ofString "limit")) = false := by decide +kernel
@[simp] theorem m_do_limit : ((Str.ofString "do") = (Str.ofString "limit")) = False := by rw [eq_iff_iff, iff_false]; decide +kernel
@[simp] theorem n_do_off : ((Str.ofString "do") == (Str.ofString "off")) = false := by decide +kernel
@[simp] theorem m_do_off : ((Str.ofString "do") = (Str.ofString "off")) = False := by rw [eq_iff_iff, iff_false]; decide +kernel
@[simp] theorem n_do_raise : ((Str.ofString "do") == (Str.ofString "raise")) = false := by decide +kernel
@[simp] theorem m_do_raise : ((Str.ofString "do") = (Str.ofString "raise")) = False := by rw [eq_iff_iff, iff_false]; decide +kernel
@[simp] theorem n_do_repeat : ((Str.ofString "do") == (Str.ofString "repeat")) = false := by decide +kernel
@[simp] theorem m_do_repeat : ((Str.ofString "do") = (Str.ofString "repeat")) = False := by rw [eq_iff_iff, iff_false]; decide +kernel
@[simp] theorem n_do_ring : ((Str.ofString "do") == (Str.ofString "ring")) = false := by decide +kernel
@[simp] theorem m_do_ring : ((Str.ofString "do") = (Str.ofString "ring")) = False := by rw [eq_iff_iff, iff_false]; decide +kernel
@[simp] theorem n_do_send : ((Str.ofString "do") == (Str.ofString "send")) = false := by decide +kernel
@[simp] theorem m_do_send : ((Str.ofString "do") = (Str.ofString "send")) = False := by rw [eq_iff_iff, iff_false]; decide +kernel
@[simp] theorem n_do_take : ((Str.ofString "do") == (Str.ofString "take")) = false := by decide +kernel
@[simp] theorem m_do_take : ((Str.ofString "do") = (Str.ofString "take")) = False := by rw [eq_iff_iff, iff_false]; decide +kernel
@[simp] theorem n_do_try : ((Str.ofString "do") == (Str.ofString "try")) = false := by decide +kernel
@[simp] theorem m_do_try : ((Str.ofString "do") = (Str.ofString "try")) = False := by rw [eq_iff_iff, iff_false]; decide +kernel
@[simp] theorem n_do_wait : ((Str.ofString "do") == (Str.ofString "wait")) = false := by decide +kernel
@[simp] theorem m_do_wait : ((Str.ofString "do") = (Str.ofString "wait")) = False := by rw [eq_iff_iff, iff_false]; decide +kernel
@[simp] theorem n_do_when : ((Str.ofString "do") == (Str.ofString "when")) = false := by decide +kernel
@[simp] theorem m_do_when : ((Str.ofString "do") = (Str.ofString "when")) = False := by rw [eq_iff_iff, iff_false]; decide +kernel
@[simp] theorem n_ended_ask : ((Str.ofString "ended") == (Str.ofString "ask")) = false := by decide +kernel
@[simp] theorem m_ended_ask : ((Str.ofString "ended") = (Str.ofString "ask")) = False := by rw [eq_iff_iff, iff_false]; decide +kernel
@[simp] theorem n_ended_halt : ((Str.ofString "ended") == (Str.ofString "halt")) = false := by decide +kernel
@[simp] theorem m_ended_halt : ((Str.ofString "ended") = (Str.ofString "halt")) = False := by rw [eq_iff_iff, iff_false]; decide +kernel
@[simp] theorem n_ended_hear : ((Str.ofString "ended") == (Str.ofString "hear")) = false := by decide +kernel
@[simp] theorem m_ended_hear : ((Str.ofString "ended") = (Str.ofString "hear")) = False := by rw [eq_iff_iff, iff_false]; decide +kernel
@[simp] theorem n_ended_join : ((Str.ofString "ended") == (Str.ofString "join")) = false := by decide +kernel
@[simp] theorem m_ended_join : ((Str.ofString "ended") = (Str.ofString "join")) = False := by rw [eq_iff_iff, iff_false]; decide +kernel
@[simp] theorem n_ended_take : ((Str.ofString "ended") == (Str.ofString "take")) = false := by decide +kernel
@[simp] theorem m_ended_take : ((Str.ofString "ended") = (Str.ofString "take")) = False := by rw [eq_iff_iff, iff_false]; decide +kernel
@[simp] theorem n_ended_wait : ((Str.ofString "ended") == (Str.ofString "wait")) = false := by decide +kernel
@[simp] theorem m_ended_wait : ((Str.ofString "ended") = (Str.ofString "wait")) = False := by rw [eq_iff_iff, iff_false]; decide +kernel
@[simp] theorem n_faults_strike : ((Str.ofString "faults") == (Str.ofString "strike")) = false := by decide +kernel
@[simp] theorem m_faults_strike : ((Str.ofString "faults") = (Str.ofString "strike")) = False := by rw [eq_iff_iff, iff_false]; decide +kernel
@[simp] theorem n_give_do : ((Str.ofString "give") == (Str.ofString "do")) = false := by decide +kernel
@[simp] theorem m_give_do : ((Str.ofString "give") = (Str.ofString "do")) = False := by rw [eq_iff_iff, iff_false]; decide +kernel
@[simp] theorem n_give_group : ((Str.ofString "give") == (Str.ofString "group")) = false := by decide +kernel
@[simp] theorem m_give_group : ((Str.ofString "give") = (Str.ofString "group")) = False := by rw [eq_iff_iff, iff_false]; decide +kernel
@[simp] theorem n_give_hear : ((Str.ofString "give") == (Str.ofString "hear")) = false := by decide +kernel
@[simp] theorem m_give_hear : ((Str.ofString "give") = (Str.ofString "hear")) = False := by rw [eq_iff_iff, iff_false]; decide +kernel
@[simp] theorem n_give_keep : ((Str.ofString "give") == (Str.ofString "keep")) = false := by decide +kernel
@[simp] theorem m_give_keep : ((Str.ofString "give") = (Str.ofString "keep")) = False := by rw [eq_iff_iff, iff_false]; decide +kernel
@[simp] theorem n_give_limit : ((Str.ofString "give") == (Str.ofString "limit")) = false := by decide +kernel
@[simp] theorem m_give_limit : ((Str.ofString "give") = (Str.ofString "limit")) = False := by rw [eq_iff_iff, iff_false]; decide +kernel
@[simp] theorem n_give_repeat : ((Str.ofString "give") == (Str.ofString "repeat")) = false := by decide +kernel
@[simp] theorem m_give_repeat : ((Str.ofString "give") = (Str.ofString "repeat")) = False := by rw [eq_iff_iff, iff_false]; decide +kernel
@[simp] theorem n_give_try : ((Str.ofString "give") == (Str.ofString "try")) = false := by decide +kernel
@[simp] theorem m_give_try : ((Str.ofString "give") = (Str.ofString "try")) = False := by rw [eq_iff_iff, iff_false]; decide +kernel
@[simp] theorem n_give_wait : ((Str.ofString "give") == (Str.ofString "wait")) = false := by decide +kernel
@[simp] theorem m_give_wait : ((Str.ofString "give") = (Str.ofString "wait")) = False := by rw [eq_iff_iff, iff_false]; decide +kernel
@[simp] theorem n_give_when : ((Str.ofString "give") == (Str.ofString "when")) = false := by decide +kernel
@[simp] theorem m_give_when : ((Str.ofString "give") = (Str.ofString "when")) = False := by rw [eq_iff_iff, iff_false]; decide +kernel
@[simp] theorem n_group_ask : ((Str.ofString "group") == (Str.ofString "ask")) = false := by decide +kernel
@[simp] theorem m_group_ask : ((Str.ofString "group") = (Str.ofString "ask")) = False := by rw [eq_iff_iff, iff_false]; decide +kernel
@[simp] theorem n_group_begin : ((Str.ofString "group") == (Str.ofString "begin")) = false := by decide +kernel
@[simp] theorem m_group_begin : ((Str.ofString "group") = (Str.ofString "begin")) = False := by rw [eq_iff_iff, iff_false]; decide +kernel
@[simp] theorem n_group_do : ((Str.ofString "group") == (Str.ofString "do")) = false := by decide +kernel
@[simp] theorem m_group_do : ((Str.ofString "group") = (Str.ofString "do")) = False := by rw [eq_iff_iff, iff_false]; decide +kernel
@[simp] theorem n_group_give : ((Str.ofString "group") == (Str.ofString "give")) = false := by decide +kernel
@[simp] theorem m_group_give : ((Str.ofString "group") = (Str.ofString "give")) = False := by rw [eq_iff_iff, iff_false]; decide +kernel
@[simp] theorem n_group_halt : ((Str.ofString "group") == (Str.ofString "halt")) = false := by decide +kernel
@[simp] theorem m_group_halt : ((Str.ofString "group") = (Str.ofString "halt")) = False := by rw [eq_iff_iff, iff_false]; decide +kernel
@[simp] theorem n_group_hear : ((Str.ofString "group") == (Str.ofString "hear")) = false := by decide +kernel
@[simp] theorem m_group_hear : ((Str.ofString "group") = (Str.ofString "hear")) = False := by rw [eq_iff_iff, iff_false]; decide +kernel
@[simp] theorem n_group_join : ((Str.ofString "group") == (Str.ofString "join")) = false := by decide +kernel
@[simp] theorem m_group_join : ((Str.ofString "group") = (Str.ofString "join")) = False := by rw [eq_iff_iff, iff_false]; decide +kernel
@[simp] theorem n_group_keep : ((Str.ofString "group") == (Str.ofString "keep")) = false := by decide +kernel
@[simp] theorem m_group_keep : ((Str.ofString "group") = (Str.ofString "keep")) = False := by rw [eq_iff_iff, iff_false]; decide +kernel
@[simp] theorem n_group_let : ((Str.ofString "group") == (Str.ofString "let")) = false := by decide +kernel
@[simp] theorem m_group_let : ((Str.ofString "group") = (Str.ofString "let")) = False := by rw [eq_iff_iff, iff_false]; decide +kernel
@[simp] theorem n_group_limit : ((Str.ofString "group") == (Str.ofString "limit")) = false := by decide +kernel
@[simp] theorem m_group_limit : ((Str.ofString "group") = (Str.ofString "limit")) = False := by rw [eq_iff_iff, iff_false]; decide +kernel
@[simp] theorem n_group_off : ((Str.ofString "group") == (Str.ofString "off")) = false := by decide +kernel
@[simp] theorem m_group_off : ((Str.ofString "group") = (Str.ofString "off")) = False := by rw [eq_iff_iff, iff_false]; decide +kernel
@[simp] theorem n_group_raise : ((Str.ofString "group") == (Str.ofString "raise")) = false := by decide +kernel
@[simp] theorem m_group_raise : ((Str.ofString "group") = (Str.ofString "raise")) = False := by rw [eq_iff_iff, iff_false]; decide +kernel
@[simp] theorem n_group_repeat : ((Str.ofString "group") == (Str.ofString "repeat")) = false := by decide +kernel
@[simp] theorem m_group_repeat : ((Str.ofString "group") = (Str.ofString "repeat")) = False := by rw [eq_iff_iff, iff_false]; decide +kernel
@[simp] theorem n_group_ring : ((Str.ofString "group") == (Str.ofString "ring")) = false := by decide +kernel
@[simp] theorem m_group_ring : ((Str.ofString "group") = (Str.ofString "ring")) = False := by rw [eq_iff_iff, iff_false]; decide +kernel
@[simp] theorem n_group_send : ((Str.ofString "group") == (Str.ofString "send")) = false := by decide +kernel
@[simp] theorem m_group_send : ((Str.ofString "group") = (Str.ofString "send")) = False := by rw [eq_iff_iff, iff_false]; decide +kernel
@[simp] theorem n_group_take : ((Str.ofString "group") == (Str.ofString "take")) = false := by decide +kernel
@[simp] theorem m_group_take : ((Str.ofString "group") = (Str.ofString "take")) = False := by rw [eq_iff_iff, iff_false]; decide +kernel
@[simp] theorem n_group_try : ((Str.ofString "group") == (Str.ofString "try")) = false := by decide +kernel
@[simp] theorem m_group_try : ((Str.ofString "group") = (Str.ofString "try")) = False := by rw [eq_iff_iff, iff_false]; decide +kernel
@[simp] theorem n_group_wait : ((Str.ofString "group") == (Str.ofString "wait")) = false := by decide +kernel
@[simp] theorem m_group_wait : ((Str.ofString "group") = (Str.ofString "wait")) = False := by rw [eq_iff_iff, iff_false]; decide +kernel
@[simp] theorem n_group_when : ((Str.ofString "group") == (Str.ofString "when")) = false := by decide +kernel
@[simp] theorem m_group_when : ((Str.ofString "group") = (Str.ofString "when")) = False := by rw [eq_iff_iff, iff_false]; decide +kernel
@[simp] theorem n_halt_ask : ((Str.ofString "halt") == (Str.ofString "ask")) = false := by decide +kernel
@[simp] theorem m_halt_ask : ((Str.ofString "halt") = (Str.ofString "ask")) = False := by rw [eq_iff_iff, iff_false]; decide +kernel
@[simp] theorem n_halt_caught : ((Str.ofString "halt") == (Str.ofString "caught")) = false := by decide +kernel
@[simp] theorem m_halt_caught : ((Str.ofString "halt") = (Str.ofString "caught")) = False := by rw [eq_iff_iff, iff_false]; decide +kernel
@[simp] theorem n_halt_clean : ((Str.ofString "halt") == (Str.ofString "clean")) = false := by decide +kernel
@[simp] theorem m_halt_clean : ((Str.ofString "halt") = (Str.ofString "clean")) = False := by rw [eq_iff_iff, iff_false]; decide +kernel
@[simp] theorem n_halt_did : ((Str.ofString "halt") == (Str.ofString "did")) = false := by decide +kernel
@[simp] theorem m_halt_did : ((Str.ofString "halt") = (Str.ofString "did")) = False := by rw [eq_iff_iff, iff_false]; decide +kernel
@[simp] theorem n_halt_ended : ((Str.ofString "halt") == (Str.ofString "ended")) = false := by decide +kernel
@[simp] theorem m_halt_ended : ((Str.ofString "halt") = (Str.ofString "ended")) = False := by rw [eq_iff_iff, iff_false]; decide +kernel
@[simp] theorem n_halt_group : ((Str.ofString "halt") == (Str.ofString "group")) = false := by decide +kernel
@[simp] theorem m_halt_group : ((Str.ofString "halt") = (Str.ofString "group")) = False := by rw [eq_iff_iff, iff_false]; decide +kernel
@[simp] theorem n_halt_hear : ((Str.ofString "halt") == (Str.ofString "hear")) = false := by decide +kernel
@[simp] theorem m_halt_hear : ((Str.ofString "halt") = (Str.ofString "hear")) = False := by rw [eq_iff_iff, iff_false]; decide +kernel
@[simp] theorem n_halt_join : ((Str.ofString "halt") == (Str.ofString "join")) = false := by decide +kernel
@[simp] theorem m_halt_join : ((Str.ofString "halt") = (Str.ofString "join")) = False := by rw [eq_iff_iff, iff_false]; decide +kernel
@[simp] theorem n_halt_late : ((Str.ofString "halt") == (Str.ofString "late")) = false := by decide +kernel
@[simp] theorem m_halt_late : ((Str.ofString "halt") = (Str.ofString "late")) = False := by rw [eq_iff_iff, iff_false]; decide +kernel
@[simp] theorem n_halt_leave : ((Str.ofString "halt") == (Str.ofString "leave")) = false := by decide +kernel
@[simp] theorem m_halt_leave : ((Str.ofString "halt") = (Str.ofString "leave")) = False := by rw [eq_iff_iff, iff_false]; decide +kernel
@[simp] theorem n_halt_limit : ((Str.ofString "halt") == (Str.ofString "limit")) = false := by decide +kernel
@[simp] theorem m_halt_limit : ((Str.ofString "halt") = (Str.ofString "limit")) = False := by rw [eq_iff_iff, iff_false]; decide +kernel
@[simp] theorem n_halt_on : ((Str.ofString "halt") == (Str.ofString "on")) = false := by decide +kernel
@[simp] theorem m_halt_on : ((Str.ofString "halt") = (Str.ofString "on")) = False := by rw [eq_iff_iff, iff_false]; decide +kernel
@[simp] theorem n_halt_out : ((Str.ofString "halt") == (Str.ofString "out")) = false := by decide +kernel
@[simp] theorem m_halt_out : ((Str.ofString "halt") = (Str.ofString "out")) = False := by rw [eq_iff_iff, iff_false]; decide +kernel
@[simp] theorem n_halt_take : ((Str.ofString "halt") == (Str.ofString "take")) = false := by decide +kernel
@[simp] theorem m_halt_take : ((Str.ofString "halt") = (Str.ofString "take")) = False := by rw [eq_iff_iff, iff_false]; decide +kernel
@[simp] theorem n_halt_wait : ((Str.ofString "halt") == (Str.ofString "wait")) = false := by decide +kernel
@[simp] theorem m_halt_wait : ((Str.ofString "halt") = (Str.ofString "wait")) = False := by rw [eq_iff_iff, iff_false]; decide +kernel
@[simp] theorem n_hear_ask : ((Str.ofString "hear") == (Str.ofString "ask")) = false := by decide +kernel
@[simp] theorem m_hear_ask : ((Str.ofString "hear") = (Str.ofString "ask")) = False := by rw [eq_iff_iff, iff_false]; decide +kernel
@[simp] theorem n_hear_begin : ((Str.ofString "hear") == (Str.ofString "begin")) = false := by decide +kernel
@[simp] theorem m_hear_begin : ((Str.ofString "hear") = (Str.ofString "begin")) = False := by rw [eq_iff_iff, iff_false]; decide +kernel
@[simp] theorem n_hear_caught : ((Str.ofString "hear") == (Str.ofString "caught")) = false := by decide +kernel
@[simp] theorem m_hear_caught : ((Str.ofString "hear") = (Str.ofString "caught")) = False := by rw [eq_iff_iff, iff_false]; decide +kernel
@[simp] theorem n_hear_clean : ((Str.ofString "hear") == (Str.ofString "clean")) = false := by decide +kernel
@[simp] theorem m_hear_clean : ((Str.ofString "hear") = (Str.ofString "clean")) = False := by rw [eq_iff_iff, iff_false]; decide +kernel
@[simp] theorem n_hear_did : ((Str.ofString "hear") == (Str.ofString "did")) = false := by decide +kernel
@[simp] theorem m_hear_did : ((Str.ofString "hear") = (Str.ofString "did")) = False := by rw [eq_iff_iff, iff_false]; decide +kernel
@[simp] theorem n_hear_do : ((Str.ofString "hear") == (Str.ofString "do")) = false := by decide +kernel
@[simp] theorem m_hear_do : ((Str.ofString "hear") = (Str.ofString "do")) = False := by rw [eq_iff_iff, iff_false]; decide +kernel
@[simp] theorem n_hear_ended : ((Str.ofString "hear") == (Str.ofString "ended")) = false := by decide +kernel
@[simp] theorem m_hear_ended : ((Str.ofString "hear") = (Str.ofString "ended")) = False := by rw [eq_iff_iff, iff_false]; decide +kernel
@[simp] theorem n_hear_give : ((Str.ofString "hear") == (Str.ofString "give")) = false := by decide +kernel
@[simp] theorem m_hear_give : ((Str.ofString "hear") = (Str.ofString "give")) = False := by rw [eq_iff_iff, iff_false]; decide +kernel
@[simp] theorem n_hear_group : ((Str.ofString "hear") == (Str.ofString "group")) = false := by decide +kernel
@[simp] theorem m_hear_group : ((Str.ofString "hear") = (Str.ofString "group")) = False := by rw [eq_iff_iff, iff_false]; decide +kernel
@[simp] theorem n_hear_halt : ((Str.ofString "hear") == (Str.ofString "halt")) = false := by decide +kernel
@[simp] theorem m_hear_halt : ((Str.ofString "hear") = (Str.ofString "halt")) = False := by rw [eq_iff_iff, iff_false]; decide +kernel
@[simp] theorem n_hear_join : ((Str.ofString "hear") == (Str.ofString "join")) = false := by decide +kernel
@[simp] theorem m_hear_join : ((Str.ofString "hear") = (Str.ofString "join")) = False := by rw [eq_iff_iff, iff_false]; decide +kernel
@[simp] theorem n_hear_keep : ((Str.ofString "hear") == (Str.ofString "keep")) = false := by decide +kernel
@[simp] theorem m_hear_keep : ((Str.ofString "hear") = (Str.ofString "keep")) = False := by rw [eq_iff_iff, iff_false]; decide +kernel
@[simp] theorem n_hear_late : ((Str.ofString "hear") == (Str.ofString "late")) = false := by decide +kernel
@[simp] theorem m_hear_late : ((Str.ofString "hear") = (Str.ofString "late")) = False := by rw [eq_iff_iff, iff_false]; decide +kernel
@[simp] theorem n_hear_left : ((Str.ofString "hear") == (Str.ofString "left")) = false := by decide +kernel
@[simp] theorem m_hear_left : ((Str.ofString "hear") = (Str.ofString "left")) = False := by rw [eq_iff_iff, iff_false]; decide +kernel
@[simp] theorem n_hear_let : ((Str.ofString "hear") == (Str.ofString "let")) = false := by decide +kernel
@[simp] theorem m_hear_let : ((Str.ofString "hear") = (Str.ofString "let")) = False := by rw [eq_iff_iff, iff_false]; decide +kernel
@[simp] theorem n_hear_limit : ((Str.ofString "hear") == (Str.ofString "limit")) = false := by decide +kernel
@[simp] theorem m_hear_limit : ((Str.ofString "hear") = (Str.ofString "limit")) = False := by rw [eq_iff_iff, iff_false]; decide +kernel
@[simp] theorem n_hear_off : ((Str.ofString "hear") == (Str.ofString "off")) = false := by decide +kernel
@[simp] theorem m_hear_off : ((Str.ofString "hear") = (Str.ofString "off")) = False := by rw [eq_iff_iff, iff_false]; decide +kernel
@[simp] theorem n_hear_raise : ((Str.ofString "hear") == (Str.ofString "raise")) = false := by decide +kernel
@[simp] theorem m_hear_raise : ((Str.ofString "hear") = (Str.ofString "raise")) = False := by rw [eq_iff_iff, iff_false]; decide +kernel
@[simp] theorem n_hear_repeat : ((Str.ofString "hear") == (Str.ofString "repeat")) = false := by decide +kernel
@[simp] theorem m_hear_repeat : ((Str.ofString "hear") = (Str.ofString "repeat")) = False := by rw [eq_iff_iff, iff_false]; decide +kernel
@[simp] theorem n_hear_ring : ((Str.ofString "hear") == (Str.ofString "ring")) = false := by decide +kernel
@[simp] theorem m_hear_ring : ((Str.ofString "hear") = (Str.ofString "ring")) = False := by rw [eq_iff_iff, iff_false]; decide +kernel
@[simp] theorem n_hear_send : ((Str.ofString "hear") == (Str.ofString "send")) = false := by decide +kernel
@[simp] theorem m_hear_send : ((Str.ofString "hear") = (Str.ofString "send")) = False := by rw [eq_iff_iff, iff_false]; decide +kernel
@[simp] theorem n_hear_take : ((Str.ofString "hear") == (Str.ofString "take")) = false := by decide +kernel
@[simp] theorem m_hear_take : ((Str.ofString "hear") = (Str.ofString "take")) = False := by rw [eq_iff_iff, iff_false]; decide +kernel
@[simp] theorem n_hear_try : ((Str.ofString "hear") == (Str.ofString "try")) = false := by decide +kernel
@[simp] theorem m_hear_try : ((Str.ofString "hear") = (Str.ofString "try")) = False := by rw [eq_iff_iff, iff_false]; decide +kernel
@[simp] theorem n_hear_wait : ((Str.ofString "hear") == (Str.ofString "wait")) = false := by decide +kernel
@[simp] theorem m_hear_wait : ((Str.ofString "hear") = (Str.ofString "wait")) = False := by rw [eq_iff_iff, iff_false]; decide +kernel
@[simp] theorem n_hear_when : ((Str.ofString "hear") == (Str.ofString "when")) = false := by decide +kernel
@[simp] theorem m_hear_when : ((Str.ofString "hear") = (Str.ofString "when")) = False := by rw [eq_iff_iff, iff_false]; decide +kernel
@[simp] theorem n_join_caught : ((Str.ofString "join") == (Str.ofString "caught")) = false := by decide +kernel
@[simp] theorem m_join_caught : ((Str.ofString "join") = (Str.ofString "caught")) = False := by rw [eq_iff_iff, iff_false]; decide +kernel
@[simp] theorem n_join_clean : ((Str.ofString "join") == (Str.ofString "clean")) = false := by decide +kernel
@[simp] theorem m_join_clean : ((Str.ofString "join") = (Str.ofString "clean")) = False := by rw [eq_iff_iff, iff_false]; decide +kernel
@[simp] theorem n_join_did : ((Str.ofString "join") == (Str.ofString "did")) = false := by decide +kernel
@[simp] theorem m_join_did : ((Str.ofString "join") = (Str.ofString "did")) = False := by rw [eq_iff_iff, iff_false]; decide +kernel
@[simp] theorem n_join_ended : ((Str.ofString "join") == (Str.ofString "ended")) = false := by decide +kernel
@[simp] theorem m_join_ended : ((Str.ofString "join") = (Str.ofString "ended")) = False := by rw [eq_iff_iff, iff_false]; decide +kernel
@[simp] theorem n_join_group : ((Str.ofString "join") == (Str.ofString "group")) = false := by decide +kernel
@[simp] theorem m_join_group : ((Str.ofString "join") = (Str.ofString "group")) = False := by rw [eq_iff_iff, iff_false]; decide +kernel
@[simp] theorem n_join_halt : ((Str.ofString "join") == (Str.ofString "halt")) = false := by decide +kernel
@[simp] theorem m_join_halt : ((Str.ofString "join") = (Str.ofString "halt")) = False := by rw [eq_iff_iff, iff_false]; decide +kernel
@[simp] theorem n_join_hear : ((Str.ofString "join") == (Str.ofString "hear")) = false := by decide +kernel
@[simp] theorem m_join_hear : ((Str.ofString "join") = (Str.ofString "hear")) = False := by rw [eq_iff_iff, iff_false]; decide +kernel
@[simp] theorem n_join_late : ((Str.ofString "join") == (Str.ofString "late")) = false := by decide +kernel
@[simp] theorem m_join_late : ((Str.ofString "join") = (Str.ofString "late")) = False := by rw [eq_iff_iff, iff_false]; decide +kernel
@[simp] theorem n_join_leave : ((Str.ofString "join") == (Str.ofString "leave")) = false := by decide +kernel
@[simp] theorem m_join_leave : ((Str.ofString "join") = (Str.ofString "leave")) = False := by rw [eq_iff_iff, iff_false]; decide +kernel
@[simp] theorem n_join_limit : ((Str.ofString "join") == (Str.ofString "limit")) = false := by decide +kernel
@[simp] theorem m_join_limit : ((Str.ofString "join") = (Str.ofString "limit")) = False := by rw [eq_iff_iff, iff_false]; decide +kernel
@[simp] theorem n_join_on : ((Str.ofString "join") == (Str.ofString "on")) = false := by decide +kernel
@[simp] theorem m_join_on : ((Str.ofString "join") = (Str.ofString "on")) = False := by rw [eq_iff_iff, iff_false]; decide +kernel
@[simp] theorem n_join_out : ((Str.ofString "join") == (Str.ofString "out")) = false := by decide +kernel
@[simp] theorem m_join_out : ((Str.ofString "join") = (Str.ofString "out")) = False := by rw [eq_iff_iff, iff_false]; decide +kernel
@[simp] theorem n_join_wait : ((Str.ofString "join") == (Str.ofString "wait")) = false := by decide +kernel
@[simp] theorem m_join_wait : ((Str.ofString "join") = (Str.ofString "wait")) = False := by rw [eq_iff_iff, iff_false]; decide +kernel
@[simp] theorem n_keep_ask : ((Str.ofString "keep") == (Str.ofString "ask")) = false := by decide +kernel
@[simp] theorem m_keep_ask : ((Str.ofString "keep") = (Str.ofString "ask")) = False := by rw [eq_iff_iff, iff_false]; decide +kernel
@[simp] theorem n_keep_begin : ((Str.ofString "keep") == (Str.ofString "begin")) = false := by decide +kernel
@[simp] theorem m_keep_begin : ((Str.ofString "keep") = (Str.ofString "begin")) = False := by rw [eq_iff_iff, iff_false]; decide +kernel
@[simp] theorem n_keep_do : ((Str.ofString "keep") == (Str.ofString "do")) = false := by decide +kernel
@[simp] theorem m_keep_do : ((Str.ofString "keep") = (Str.ofString "do")) = False := by rw [eq_iff_iff, iff_false]; decide +kernel
@[simp] theorem n_keep_give : ((Str.ofString "keep") == (Str.ofString "give")) = false := by decide +kernel
@[simp] theorem m_keep_give : ((Str.ofString "keep") = (Str.ofString "give")) = False := by rw [eq_iff_iff, iff_false]; decide +kernel
@[simp] theorem n_keep_group : ((Str.ofString "keep") == (Str.ofString "group")) = false := by decide +kernel
@[simp] theorem m_keep_group : ((Str.ofString "keep") = (Str.ofString "group")) = False := by rw [eq_iff_iff, iff_false]; decide +kernel
@[simp] theorem n_keep_hear : ((Str.ofString "keep") == (Str.ofString "hear")) = false := by decide +kernel
@[simp] theorem m_keep_hear : ((Str.ofString "keep") = (Str.ofString "hear")) = False := by rw [eq_iff_iff, iff_false]; decide +kernel
@[simp] theorem n_keep_let : ((Str.ofString "keep") == (Str.ofString "let")) = false := by decide +kernel
@[simp] theorem m_keep_let : ((Str.ofString "keep") = (Str.ofString "let")) = False := by rw [eq_iff_iff, iff_false]; decide +kernel
@[simp] theorem n_keep_limit : ((Str.ofString "keep") == (Str.ofString "limit")) = false := by decide +kernel
@[simp] theorem m_keep_limit : ((Str.ofString "keep") = (Str.ofString "limit")) = False := by rw [eq_iff_iff, iff_false]; decide +kernel
@[simp] theorem n_keep_off : ((Str.ofString "keep") == (Str.ofString "off")) = false := by decide +kernel
@[simp] theorem m_keep_off : ((Str.ofString "keep") = (Str.ofString "off")) = False := by rw [eq_iff_iff, iff_false]; decide +kernel
@[simp] theorem n_keep_raise : ((Str.ofString "keep") == (Str.ofString "raise")) = false := by decide +kernel
@[simp] theorem m_keep_raise : ((Str.ofString "keep") = (Str.ofString "raise")) = False := by rw [eq_iff_iff, iff_false]; decide +kernel
@[simp] theorem n_keep_repeat : ((Str.ofString "keep") == (Str.ofString "repeat")) = false := by decide +kernel
@[simp] theorem m_keep_repeat : ((Str.ofString "keep") = (Str.ofString "repeat")) = False := by rw [eq_iff_iff, iff_false]; decide +kernel
@[simp] theorem n_keep_ring : ((Str.ofString "keep") == (Str.ofString "ring")) = false := by decide +kernel
@[simp] theorem m_keep_ring : ((Str.ofString "keep") = (Str.ofString "ring")) = False := by rw [eq_iff_iff, iff_false]; decide +kernel
@[simp] theorem n_keep_send : ((Str.ofString "keep") == (Str.ofString "send")) = false := by decide +kernel
@[simp] theorem m_keep_send : ((Str.ofString "keep") = (Str.ofString "send")) = False := by rw [eq_iff_iff, iff_false]; decide +kernel
@[simp] theorem n_keep_take : ((Str.ofString "keep") == (Str.ofString "take")) = false := by decide +kernel
@[simp] theorem m_keep_take : ((Str.ofString "keep") = (Str.ofString "take")) = False := by rw [eq_iff_iff, iff_false]; decide +kernel
@[simp] theorem n_keep_try : ((Str.ofString "keep") == (Str.ofString "try")) = false := by decide +kernel
@[simp] theorem m_keep_try : ((Str.ofString "keep") = (Str.ofString "try")) = False := by rw [eq_iff_iff, iff_false]; decide +kernel
@[simp] theorem n_keep_wait : ((Str.ofString "keep") == (Str.ofString "wait")) = false := by decide +kernel
@[simp] theorem m_keep_wait : ((Str.ofString "keep") = (Str.ofString "wait")) = False := by rw [eq_iff_iff, iff_false]; decide +kernel
@[simp] theorem n_keep_when : ((Str.ofString "keep") == (Str.ofString "when")) = false := by decide +kernel
@[simp] theorem m_keep_when : ((Str.ofString "keep") = (Str.ofString "when")) = False := by rw [eq_iff_iff, iff_false]; decide +kernel
@[simp] theorem n_late_ask : ((Str.ofString "late") == (Str.ofString "ask")) = false := by decide +kernel
@[simp] theorem m_late_ask : ((Str.ofString "late") = (Str.ofString "ask")) = False := by rw [eq_iff_iff, iff_false]; decide +kernel
@[simp] theorem n_late_caught : ((Str.ofString "late") == (Str.ofString "caught")) = false := by decide +kernel
@[simp] theorem m_late_caught : ((Str.ofString "late") = (Str.ofString "caught")) = False := by rw [eq_iff_iff, iff_false]; decide +kernel
@[simp] theorem n_late_clean : ((Str.ofString "late") == (Str.ofString "clean")) = false := by decide +kernel
@[simp] theorem m_late_clean : ((Str.ofString "late") = (Str.ofString "clean")) = False := by rw [eq_iff_iff, iff_false]; decide +kernel
@[simp] theorem n_late_halt : ((Str.ofString "late") == (Str.ofString "halt")) = false := by decide +kernel
@[simp] theorem m_late_halt : ((Str.ofString "late") = (Str.ofString "halt")) = False := by rw [eq_iff_iff, iff_false]; decide +kernel
@[simp] theorem n_late_hear : ((Str.ofString "late") == (Str.ofString "hear")) = false := by decide +kernel
@[simp] theorem m_late_hear : ((Str.ofString "late") = (Str.ofString "hear")) = False := by rw [eq_iff_iff, iff_false]; decide +kernel
@[simp] theorem n_late_join : ((Str.ofString "late") == (Str.ofString "join")) = false := by decide +kernel
@[simp] theorem m_late_join : ((Str.ofString "late") = (Str.ofString "join")) = False := by rw [eq_iff_iff, iff_false]; decide +kernel
@[simp] theorem n_late_leave : ((Str.ofString "late") == (Str.ofString "leave")) = false := by decide +kernel
@[simp] theorem m_late_leave : ((Str.ofString "late") = (Str.ofString "leave")) = False := by rw [eq_iff_iff, iff_false]; decide +kernel
@[simp] theorem n_late_on : ((Str.ofString "late") == (Str.ofString "on")) = false := by decide +kernel
@[simp] theorem m_late_on : ((Str.ofString "late") = (Str.ofString "on")) = False := by rw [eq_iff_iff, iff_false]; decide +kernel
@[simp] theorem n_late_out : ((Str.ofString "late") == (Str.ofString "out")) = false := by decide +kernel
@[simp] theorem m_late_out : ((Str.ofString "late") = (Str.ofString "out")) = False := by rw [eq_iff_iff, iff_false]; decide +kernel
@[simp] theorem n_late_take : ((Str.ofString "late") == (Str.ofString "take")) = false := by decide +kernel
@[simp] theorem m_late_take : ((Str.ofString "late") = (Str.ofString "take")) = False := by rw [eq_iff_iff, iff_false]; decide +kernel
@[simp] theorem n_late_wait : ((Str.ofString "late") == (Str.ofString "wait")) = false := by decide +kernel
@[simp] theorem m_late_wait : ((Str.ofString "late") = (Str.ofString "wait")) = False := by rw [eq_iff_iff, iff_false]; decide +kernel
@[simp] theorem n_leave_caught : ((Str.ofString "leave") == (Str.ofString "caught")) = false := by decide +kernel
@[simp] theorem m_leave_caught : ((Str.ofString "leave") = (Str.ofString "caught")) = False := by rw [eq_iff_iff, iff_false]; decide +kernel
@[simp] theorem n_leave_clean : ((Str.ofString "leave") == (Str.ofString "clean")) = false := by decide +kernel
@[simp] theorem m_leave_clean : ((Str.ofString "leave") = (Str.ofString "clean")) = False := by rw [eq_iff_iff, iff_false]; decide +kernel
@[simp] theorem n_leave_halt : ((Str.ofString "leave") == (Str.ofString "halt")) = false := by decide +kernel
@[simp] theorem m_leave_halt : ((Str.ofString "leave") = (Str.ofString "halt")) = False := by rw [eq_iff_iff, iff_false]; decide +kernel
@[simp] theorem n_leave_join : ((Str.ofString "leave") == (Str.ofString "join")) = false := by decide +kernel
@[simp] theorem m_leave_join : ((Str.ofString "leave") = (Str.ofString "join")) = False := by rw [eq_iff_iff, iff_false]; decide +kernel
@[simp] theorem n_leave_late : ((Str.ofString "leave") == (Str.ofString "late")) = false := by decide +kernel
@[simp] theorem m_leave_late : ((Str.ofString "leave") = (Str.ofString "late")) = False := by rw [eq_iff_iff, iff_false]; decide +kernel
@[simp] theorem n_leave_on : ((Str.ofString "leave") == (Str.ofString "on")) = false := by decide +kernel
@[simp] theorem m_leave_on : ((Str.ofString "leave") = (Str.ofString "on")) = False := by rw [eq_iff_iff, iff_false]; decide +kernel
@[simp] theorem n_leave_out : ((Str.ofString "leave") == (Str.ofString "out")) = false := by decide +kernel
@[simp] theorem m_leave_out : ((Str.ofString "leave") = (Str.ofString "out")) = False := by rw [eq_iff_iff, iff_false]; decide +kernel
@[simp] theorem n_left_hear : ((Str.ofString "left") == (Str.ofString "hear")) = false := by decide +kernel
@[simp] theorem m_left_hear : ((Str.ofString "left") = (Str.ofString "hear")) = False := by rw [eq_iff_iff, iff_false]; decide +kernel
@[simp] theorem n_left_wait : ((Str.ofString "left") == (Str.ofString "wait")) = false := by decide +kernel
@[simp] theorem m_left_wait : ((Str.ofString "left") = (Str.ofString "wait")) = False := by rw [eq_iff_iff, iff_false]; decide +kernel
@[simp] theorem n_let_do : ((Str.ofString "let") == (Str.ofString "do")) = false := by decide +kernel
@[simp] theorem m_let_do : ((Str.ofString "let") = (Str.ofString "do")) = False := by rw [eq_iff_iff, iff_false]; decide +kernel
@[simp] theorem n_let_group : ((Str.ofString "let") == (Str.ofString "group")) = false := by decide +kernel
@[simp] theorem m_let_group : ((Str.ofString "let") = (Str.ofString "group")) = False := by rw [eq_iff_iff, iff_false]; decide +kernel
@[simp] theorem n_let_hear : ((Str.ofString "let") == (Str.ofString "hear")) = false := by decide +kernel
@[simp] theorem m_let_hear : ((Str.ofString "let") = (Str.ofString "hear")) = False := by rw [eq_iff_iff, iff_false]; decide +kernel
@[simp] theorem n_let_keep : ((Str.ofString "let") == (Str.ofString "keep")) = false := by decide +kernel
@[simp] theorem m_let_keep : ((Str.ofString "let") = (Str.ofString "keep")) = False := by rw [eq_iff_iff, iff_false]; decide +kernel
@[simp] theorem n_let_limit : ((Str.ofString "let") == (Str.ofString "limit")) = false := by decide +kernel
@[simp] theorem m_let_limit : ((Str.ofString "let") = (Str.ofString "limit")) = False := by rw [eq_iff_iff, iff_false]; decide +kernel
@[simp] theorem n_let_repeat : ((Str.ofString "let") == (Str.ofString "repeat")) = false := by decide +kernel
@[simp] theorem m_let_repeat : ((Str.ofString "let") = (Str.ofString "repeat")) = False := by rw [eq_iff_iff, iff_false]; decide +kernel
@[simp] theorem n_let_try : ((Str.ofString "let") == (Str.ofString "try")) = false := by decide +kernel
@[simp] theorem m_let_try : ((Str.ofString "let") = (Str.ofString "try")) = False := by rw [eq_iff_iff, iff_false]; decide +kernel
@[simp] theorem n_let_wait : ((Str.ofString "let") == (Str.ofString "wait")) = false := by decide +kernel
@[simp] theorem m_let_wait : ((Str.ofString "let") = (Str.ofString "wait")) = False := by rw [eq_iff_iff, iff_false]; decide +kernel
@[simp] theorem n_let_when : ((Str.ofString "let") == (Str.ofString "when")) = false := by decide +kernel
@[simp] theorem m_let_when : ((Str.ofString "let") = (Str.ofString "when")) = False := by rw [eq_iff_iff, iff_false]; decide +kernel
@[simp] theorem n_limit_ask : ((Str.ofString "limit") == (Str.ofString "ask")) = false := by decide +kernel
@[simp] theorem m_limit_ask : ((Str.ofString "limit") = (Str.ofString "ask")) = False := by rw [eq_iff_iff, iff_false]; decide +kernel
@[simp] theorem n_limit_begin : ((Str.ofString "limit") == (Str.ofString "begin")) = false := by decide +kernel
@[simp] theorem m_limit_begin : ((Str.ofString "limit") = (Str.ofString "begin")) = False := by rw [eq_iff_iff, iff_false]; decide +kernel
@[simp] theorem n_limit_do : ((Str.ofString "limit") == (Str.ofString "do")) = false := by decide +kernel
@[simp] theorem m_limit_do : ((Str.ofString "limit") = (Str.ofString "do")) = False := by rw [eq_iff_iff, iff_false]; decide +kernel
@[simp] theorem n_limit_give : ((Str.ofString "limit") == (Str.ofString "give")) = false := by decide +kernel
@[simp] theorem m_limit_give : ((Str.ofString "limit") = (Str.ofString "give")) = False := by rw [eq_iff_iff, iff_false]; decide +kernel
@[simp] theorem n_limit_group : ((Str.ofString "limit") == (Str.ofString "group")) = false := by decide +kernel
@[simp] theorem m_limit_group : ((Str.ofString "limit") = (Str.ofString "group")) = False := by rw [eq_iff_iff, iff_false]; decide +kernel
@[simp] theorem n_limit_halt : ((Str.ofString "limit") == (Str.ofString "halt")) = false := by decide +kernel
@[simp] theorem m_limit_halt : ((Str.ofString "limit") = (Str.ofString "halt")) = False := by rw [eq_iff_iff, iff_false]; decide +kernel
@[simp] theorem n_limit_hear : ((Str.ofString "limit") == (Str.ofString "hear")) = false := by decide +kernel
@[simp] theorem m_limit_hear : ((Str.ofString "limit") = (Str.ofString "hear")) = False := by rw [eq_iff_iff, iff_false]; decide +kernel
@[simp] theorem n_limit_join : ((Str.ofString "limit") == (Str.ofString "join")) = false := by decide +kernel
@[simp] theorem m_limit_join : ((Str.ofString "limit") = (Str.ofString "join")) = False := by rw [eq_iff_iff, iff_false]; decide +kernel
@[simp] theorem n_limit_keep : ((Str.ofString "limit") == (Str.ofString "keep")) = false := by decide +kernel
@[simp] theorem m_limit_keep : ((Str.ofString "limit") = (Str.ofString "keep")) = False := by rw [eq_iff_iff, iff_false]; decide +kernel
@[simp] theorem n_limit_let : ((Str.ofString "limit") == (Str.ofString "let")) = false := by decide +kernel
@[simp] theorem m_limit_let : ((Str.ofString "limit") = (Str.ofString "let")) = False := by rw [eq_iff_iff, iff_false]; decide +kernel
@[simp] theorem n_limit_off : ((Str.ofString "limit") == (Str.ofString "off")) = false := by decide +kernel
@[simp] theorem m_limit_off : ((Str.ofString "limit") = (Str.ofString "off")) = False := by rw [eq_iff_iff, iff_false]; decide +kernel
@[simp] theorem n_limit_raise : ((Str.ofString "limit") == (Str.ofString "raise")) = false := by decide +kernel
@[simp] theorem m_limit_raise : ((Str.ofString "limit") = (Str.ofString "raise")) = False := by rw [eq_iff_iff, iff_false]; decide +kernel
@[simp] theorem n_limit_repeat : ((Str.ofString "limit") == (Str.ofString "repeat")) = false := by decide +kernel
@[simp] theorem m_limit_repeat : ((Str.ofString "limit") = (Str.ofString "repeat")) = False := by rw [eq_iff_iff, iff_false]; decide +kernel
@[simp] theorem n_limit_ring : ((Str.ofString "limit") == (Str.ofString "ring")) = false := by decide +kernel
@[simp] theorem m_limit_ring : ((Str.ofString "limit") = (Str.ofString "ring")) = False := by rw [eq_iff_iff, iff_false]; decide +kernel
@[simp] theorem n_limit_send : ((Str.ofString "limit") == (Str.ofString "send")) = false := by decide +kernel
@[simp] theorem m_limit_send : ((Str.ofString "limit") = (Str.ofString "send")) = False := by rw [eq_iff_iff, iff_false]; decide +kernel
@[simp] theorem n_limit_take : ((Str.ofString "limit") == (Str.ofString "take")) = false := by decide +kernel
@[simp] theorem m_limit_take : ((Str.ofString "limit") = (Str.ofString "take")) = False := by rw [eq_iff_iff, iff_false]; decide +kernel
@[simp] theorem n_limit_try : ((Str.ofString "limit") == (Str.ofString "try")) = false := by decide +kernel
@[simp] theorem m_limit_try : ((Str.ofString "limit") = (Str.ofString "try")) = False := by rw [eq_iff_iff, iff_false]; decide +kernel
@[simp] theorem n_limit_wait : ((Str.ofString "limit") == (Str.ofString "wait")) = false := by decide +kernel
@[simp] theorem m_limit_wait : ((Str.ofString "limit") = (Str.ofString "wait")) = False := by rw [eq_iff_iff, iff_false]; decide +kernel
@[simp] theorem n_limit_when : ((Str.ofString "limit") == (Str.ofString "when")) = false := by decide +kernel
@[simp] theorem m_limit_when : ((Str.ofString "limit") = (Str.ofString "when")) = False := by rw [eq_iff_iff, iff_false]; decide +kernel
@[simp] theorem n_off_do : ((Str.ofString "off") == (Str.ofString "do")) = false := by decide +kernel
@[simp] theorem m_off_do : ((Str.ofString "off") = (Str.ofString "do")) = False := by rw [eq_iff_iff, iff_false]; decide +kernel
@[simp] theorem n_off_group : ((Str.ofString "off") == (Str.ofString "group")) = false := by decide +kernel
@[simp] theorem m_off_group : ((Str.ofString "off") = (Str.ofString "group")) = False := by rw [eq_iff_iff, iff_false]; decide +kernel
@[simp] theorem n_off_hear : ((Str.ofString "off") == (Str.ofString "hear")) = false := by decide +kernel
@[simp] theorem m_off_hear : ((Str.ofString "off") = (Str.ofString "hear")) = False := by rw [eq_iff_iff, iff_false]; decide +kernel
@[simp] theorem n_off_keep : ((Str.ofString "off") == (Str.ofString "keep")) = false := by decide +kernel
@[simp] theorem m_off_keep : ((Str.ofString "off") = (Str.ofString "keep")) = False := by rw [eq_iff_iff, iff_false]; decide +kernel
@[simp] theorem n_off_limit : ((Str.ofString "off") == (Str.ofString "limit")) = false := by decide +kernel
@[simp] theorem m_off_limit : ((Str.ofString "off") = (Str.ofString "limit")) = False := by rw [eq_iff_iff, iff_false]; decide +kernel
@[simp] theorem n_off_repeat : ((Str.ofString "off") == (Str.ofString "repeat")) = false := by decide +kernel
@[simp] theorem m_off_repeat : ((Str.ofString "off") = (Str.ofString "repeat")) = False := by rw [eq_iff_iff, iff_false]; decide +kernel
@[simp] theorem n_off_try : ((Str.ofString "off") == (Str.ofString "try")) = false := by decide +kernel
@[simp] theorem m_off_try : ((Str.ofString "off") = (Str.ofString "try")) = False := by rw [eq_iff_iff, iff_false]; decide +kernel
@[simp] theorem n_off_wait : ((Str.ofString "off") == (Str.ofString "wait")) = false := by decide +kernel
@[simp] theorem m_off_wait : ((Str.ofString "off") = (Str.ofString "wait")) = False := by rw [eq_iff_iff, iff_false]; decide +kernel
@[simp] theorem n_off_when : ((Str.ofString "off") == (Str.ofString "when")) = false := by decide +kernel
@[simp] theorem m_off_when : ((Str.ofString "off") = (Str.ofString "when")) = False := by rw [eq_iff_iff, iff_false]; decide +kernel
@[simp] theorem n_on_caught : ((Str.ofString "on") == (Str.ofString "caught")) = false := by decide +kernel
@[simp] theorem m_on_caught : ((Str.ofString "on") = (Str.ofString "caught")) = False := by rw [eq_iff_iff, iff_false]; decide +kernel
@[simp] theorem n_on_clean : ((Str.ofString "on") == (Str.ofString "clean")) = false := by decide +kernel
@[simp] theorem m_on_clean : ((Str.ofString "on") = (Str.ofString "clean")) = False := by rw [eq_iff_iff, iff_false]; decide +kernel
@[simp] theorem n_on_halt : ((Str.ofString "on") == (Str.ofString "halt")) = false := by decide +kernel
@[simp] theorem m_on_halt : ((Str.ofString "on") = (Str.ofString "halt")) = False := by rw [eq_iff_iff, iff_false]; decide +kernel
@[simp] theorem n_on_join : ((Str.ofString "on") == (Str.ofString "join")) = false := by decide +kernel
@[simp] theorem m_on_join : ((Str.ofString "on") = (Str.ofString "join")) = False := by rw [eq_iff_iff, iff_false]; decide +kernel
@[simp] theorem n_on_late : ((Str.ofString "on") == (Str.ofString "late")) = false := by decide +kernel
@[simp] theorem m_on_late : ((Str.ofString "on") = (Str.ofString "late")) = False := by rw [eq_iff_iff, iff_false]; decide +kernel
@[simp] theorem n_on_leave : ((Str.ofString "on") == (Str.ofString "leave")) = false := by decide +kernel
@[simp] theorem m_on_leave : ((Str.ofString "on") = (Str.ofString "leave")) = False := by rw [eq_iff_iff, iff_false]; decide +kernel
@[simp] theorem n_on_out : ((Str.ofString "on") == (Str.ofString "out")) = false := by decide +kernel
@[simp] theorem m_on_out : ((Str.ofString "on") = (Str.ofString "out")) = False := by rw [eq_iff_iff, iff_false]; decide +kernel
@[simp] theorem n_out_caught : ((Str.ofString "out") == (Str.ofString "caught")) = false := by decide +kernel
@[simp] theorem m_out_caught : ((Str.ofString "out") = (Str.ofString "caught")) = False := by rw [eq_iff_iff, iff_false]; decide +kernel
@[simp] theorem n_out_clean : ((Str.ofString "out") == (Str.ofString "clean")) = false := by decide +kernel
@[simp] theorem m_out_clean : ((Str.ofString "out") = (Str.ofString "clean")) = False := by rw [eq_iff_iff, iff_false]; decide +kernel
@[simp] theorem n_out_halt : ((Str.ofString "out") == (Str.ofString "halt")) = false := by decide +kernel
@[simp] theorem m_out_halt : ((Str.ofString "out") = (Str.ofString "halt")) = False := by rw [eq_iff_iff, iff_false]; decide +kernel
@[simp] theorem n_out_join : ((Str.ofString "out") == (Str.ofString "join")) = false := by decide +kernel
@[simp] theorem m_out_join : ((Str.ofString "out") = (Str.ofString "join")) = False := by rw [eq_iff_iff, iff_false]; decide +kernel
@[simp] theorem n_out_late : ((Str.ofString "out") == (Str.ofString "late")) = false := by decide +kernel
@[simp] theorem m_out_late : ((Str.ofString "out") = (Str.ofString "late")) = False := by rw [eq_iff_iff, iff_false]; decide +kernel
@[simp] theorem n_out_leave : ((Str.ofString "out") == (Str.ofString "leave")) = false := by decide +kernel
@[simp] theorem m_out_leave : ((Str.ofString "out") = (Str.ofString "leave")) = False := by rw [eq_iff_iff, iff_false]; decide +kernel
@[simp] theorem n_out_on : ((Str.ofString "out") == (Str.ofString "on")) = false := by decide +kernel
@[simp] theorem m_out_on : ((Str.ofString "out") = (Str.ofString "on")) = False := by rw [eq_iff_iff, iff_false]; decide +kernel
@[simp] theorem n_raise_do : ((Str.ofString "raise") == (Str.ofString "do")) = false := by decide +kernel
@[simp] theorem m_raise_do : ((Str.ofString "raise") = (Str.ofString "do")) = False := by rw [eq_iff_iff, iff_false]; decide +kernel
@[simp] theorem n_raise_group : ((Str.ofString "raise") == (Str.ofString "group")) = false := by decide +kernel
@[simp] theorem m_raise_group : ((Str.ofString "raise") = (Str.ofString "group")) = False := by rw [eq_iff_iff, iff_false]; decide +kernel
@[simp] theorem n_raise_hear : ((Str.ofString "raise") == (Str.ofString "hear")) = false := by decide +kernel
@[simp] theorem m_raise_hear : ((Str.ofString "raise") = (Str.ofString "hear")) = False := by rw [eq_iff_iff, iff_false]; decide +kernel
@[simp] theorem n_raise_keep : ((Str.ofString "raise") == (Str.ofString "keep")) = false := by decide +kernel
@[simp] theorem m_raise_keep : ((Str.ofString "raise") = (Str.ofString "keep")) = False := by rw [eq_iff_iff, iff_false]; decide +kernel
@[simp] theorem n_raise_limit : ((Str.ofString "raise") == (Str.ofString "limit")) = false := by decide +kernel
@[simp] theorem m_raise_limit : ((Str.ofString "raise") = (Str.ofString "limit")) = False := by rw [eq_iff_iff, iff_false]; decide +kernel
@[simp] theorem n_raise_repeat : ((Str.ofString "raise") == (Str.ofString "repeat")) = false := by decide +kernel
@[simp] theorem m_raise_repeat : ((Str.ofString "raise") = (Str.ofString "repeat")) = False := by rw [eq_iff_iff, iff_false]; decide +kernel
@[simp] theorem n_raise_try : ((Str.ofString "raise") == (Str.ofString "try")) = false := by decide +kernel
@[simp] theorem m_raise_try : ((Str.ofString "raise") = (Str.ofString "try")) = False := by rw [eq_iff_iff, iff_false]; decide +kernel
@[simp] theorem n_raise_wait : ((Str.ofString "raise") == (Str.ofString "wait")) = false := by decide +kernel
@[simp] theorem m_raise_wait : ((Str.ofString "raise") = (Str.ofString "wait")) = False := by rw [eq_iff_iff, iff_false]; decide +kernel
@[simp] theorem n_raise_when : ((Str.ofString "raise") == (Str.ofString "when")) = false := by decide +kernel
@[simp] theorem m_raise_when : ((Str.ofString "raise") = (Str.ofString "when")) = False := by rw [eq_iff_iff, iff_false]; decide +kernel
@[simp] theorem n_repeat_ask : ((Str.ofString "repeat") == (Str.ofString "ask")) = false := by decide +kernel
@[simp] theorem m_repeat_ask : ((Str.ofString "repeat") = (Str.ofString "ask")) = False := by rw [eq_iff_iff, iff_false]; decide +kernel
@[simp] theorem n_repeat_begin : ((Str.ofString "repeat") == (Str.ofString "begin")) = false := by decide +kernel
@[simp] theorem m_repeat_begin : ((Str.ofString "repeat") = (Str.ofString "begin")) = False := by rw [eq_iff_iff, iff_false]; decide +kernel
@[simp] theorem n_repeat_do : ((Str.ofString "repeat") == (Str.ofString "do")) = false := by decide +kernel
@[simp] theorem m_repeat_do : ((Str.ofString "repeat") = (Str.ofString "do")) = False := by rw [eq_iff_iff, iff_false]; decide +kernel
@[simp] theorem n_repeat_give : ((Str.ofString "repeat") == (Str.ofString "give")) = false := by decide +kernel
@[simp] theorem m_repeat_give : ((Str.ofString "repeat") = (Str.ofString "give")) = False := by rw [eq_iff_iff, iff_false]; decide +kernel
@[simp] theorem n_repeat_group : ((Str.ofString "repeat") == (Str.ofString "group")) = false := by decide +kernel
@[simp] theorem m_repeat_group : ((Str.ofString "repeat") = (Str.ofString "group")) = False := by rw [eq_iff_iff, iff_false]; decide +kernel
@[simp] theorem n_repeat_hear : ((Str.ofString "repeat") == (Str.ofString "hear")) = false := by decide +kernel
@[simp] theorem m_repeat_hear : ((Str.ofString "repeat") = (Str.ofString "hear")) = False := by rw [eq_iff_iff, iff_false]; decide +kernel
@[simp] theorem n_repeat_keep : ((Str.ofString "repeat") == (Str.ofString "keep")) = false := by decide +kernel
@[simp] theorem m_repeat_keep : ((Str.ofString "repeat") = (Str.ofString "keep")) = False := by rw [eq_iff_iff, iff_false]; decide +kernel
@[simp] theorem n_repeat_let : ((Str.ofString "repeat") == (Str.ofString "let")) = false := by decide +kernel
@[simp] theorem m_repeat_let : ((Str.ofString "repeat") = (Str.ofString "let")) = False := by rw [eq_iff_iff, iff_false]; decide +kernel
@[simp] theorem n_repeat_limit : ((Str.ofString "repeat") == (Str.ofString "limit")) = false := by decide +kernel
@[simp] theorem m_repeat_limit : ((Str.ofString "repeat") = (Str.ofString "limit")) = False := by rw [eq_iff_iff, iff_false]; decide +kernel
@[simp] theorem n_repeat_off : ((Str.ofString "repeat") == (Str.ofString "off")) = false := by decide +kernel
@[simp] theorem m_repeat_off : ((Str.ofString "repeat") = (Str.ofString "off")) = False := by rw [eq_iff_iff, iff_false]; decide +kernel
@[simp] theorem n_repeat_raise : ((Str.ofString "repeat") == (Str.ofString "raise")) = false := by decide +kernel
@[simp] theorem m_repeat_raise : ((Str.ofString "repeat") = (Str.ofString "raise")) = False := by rw [eq_iff_iff, iff_false]; decide +kernel
@[simp] theorem n_repeat_ring : ((Str.ofString "repeat") == (Str.ofString "ring")) = false := by decide +kernel
@[simp] theorem m_repeat_ring : ((Str.ofString "repeat") = (Str.ofString "ring")) = False := by rw [eq_iff_iff, iff_false]; decide +kernel
@[simp] theorem n_repeat_send : ((Str.ofString "repeat") == (Str.ofString "send")) = false := by decide +kernel
@[simp] theorem m_repeat_send : ((Str.ofString "repeat") = (Str.ofString "send")) = False := by rw [eq_iff_iff, iff_false]; decide +kernel
@[simp] theorem n_repeat_take : ((Str.ofString "repeat") == (Str.ofString "take")) = false := by decide +kernel
@[simp] theorem m_repeat_take : ((Str.ofString "repeat") = (Str.ofString "take")) = False := by rw [eq_iff_iff, iff_false]; decide +kernel
@[simp] theorem n_repeat_try : ((Str.ofString "repeat") == (Str.ofString "try")) = false := by decide +kernel
@[simp] theorem m_repeat_try : ((Str.ofString "repeat") = (Str.ofString "try")) = False := by rw [eq_iff_iff, iff_false]; decide +kernel
@[simp] theorem n_repeat_wait : ((Str.ofString "repeat") == (Str.ofString "wait")) = false := by decide +kernel
@[simp] theorem m_repeat_wait : ((Str.ofString "repeat") = (Str.ofString "wait")) = False := by rw [eq_iff_iff, iff_false]; decide +kernel
@[simp] theorem n_repeat_when : ((Str.ofString "repeat") == (Str.ofString "when")) = false := by decide +kernel
@[simp] theorem m_repeat_when : ((Str.ofString "repeat") = (Str.ofString "when")) = False := by rw [eq_iff_iff, iff_false]; decide +kernel
@[simp] theorem n_ring_do : ((Str.ofString "ring") == (Str.ofString "do")) = false := by decide +kernel
@[simp] theorem m_ring_do : ((Str.ofString "ring") = (Str.ofString "do")) = False := by rw [eq_iff_iff, iff_false]; decide +kernel
@[simp] theorem n_ring_group : ((Str.ofString "ring") == (Str.ofString "group")) = false := by decide +kernel
@[simp] theorem m_ring_group : ((Str.ofString "ring") = (Str.ofString "group")) = False := by rw [eq_iff_iff, iff_false]; decide +kernel
@[simp] theorem n_ring_hear : ((Str.ofString "ring") == (Str.ofString "hear")) = false := by decide +kernel
@[simp] theorem m_ring_hear : ((Str.ofString "ring") = (Str.ofString "hear")) = False := by rw [eq_iff_iff, iff_false]; decide +kernel
@[simp] theorem n_ring_keep : ((Str.ofString "ring") == (Str.ofString "keep")) = false := by decide +kernel
@[simp] theorem m_ring_keep : ((Str.ofString "ring") = (Str.ofString "keep")) = False := by rw [eq_iff_iff, iff_false]; decide +kernel
@[simp] theorem n_ring_limit : ((Str.ofString "ring") == (Str.ofString "limit")) = false := by decide +kernel
@[simp] theorem m_ring_limit : ((Str.ofString "ring") = (Str.ofString "limit")) = False := by rw [eq_iff_iff, iff_false]; decide +kernel
@[simp] theorem n_ring_repeat : ((Str.ofString "ring") == (Str.ofString "repeat")) = false := by decide +kernel
@[simp] theorem m_ring_repeat : ((Str.ofString "ring") = (Str.ofString "repeat")) = False := by rw [eq_iff_iff, iff_false]; decide +kernel
@[simp] theorem n_ring_try : ((Str.ofString "ring") == (Str.ofString "try")) = false := by decide +kernel
@[simp] theorem m_ring_try : ((Str.ofString "ring") = (Str.ofString "try")) = False := by rw [eq_iff_iff, iff_false]; decide +kernel
@[simp] theorem n_ring_wait : ((Str.ofString "ring") == (Str.ofString "wait")) = false := by decide +kernel
@[simp] theorem m_ring_wait : ((Str.ofString "ring") = (Str.ofString "wait")) = False := by rw [eq_iff_iff, iff_false]; decide +kernel
@[simp] theorem n_ring_when : ((Str.ofString "ring") == (Str.ofString "when")) = false := by decide +kernel
@[simp] theorem m_ring_when : ((Str.ofString "ring") = (Str.ofString "when")) = False := by rw [eq_iff_iff, iff_false]; decide +kernel
@[simp] theorem n_send_do : ((Str.ofString "send") == (Str.ofString "do")) = false := by decide +kernel
@[simp] theorem m_send_do : ((Str.ofString "send") = (Str.ofString "do")) = False := by rw [eq_iff_iff, iff_false]; decide +kernel
@[simp] theorem n_send_group : ((Str.ofString "send") == (Str.ofString "group")) = false := by decide +kernel
@[simp] theorem m_send_group : ((Str.ofString "send") = (Str.ofString "group")) = False := by rw [eq_iff_iff, iff_false]; decide +kernel
@[simp] theorem n_send_hear : ((Str.ofString "send") == (Str.ofString "hear")) = false := by decide +kernel
@[simp] theorem m_send_hear : ((Str.ofString "send") = (Str.ofString "hear")) = False := by rw [eq_iff_iff, iff_false]; decide +kernel
@[simp] theorem n_send_keep : ((Str.ofString "send") == (Str.ofString "keep")) = false := by decide +kernel
@[simp] theorem m_send_keep : ((Str.ofString "send") = (Str.ofString "keep")) = False := by rw [eq_iff_iff, iff_false]; decide +kernel
@[simp] theorem n_send_limit : ((Str.ofString "send") == (Str.ofString "limit")) = false := by decide +kernel
@[simp] theorem m_send_limit : ((Str.ofString "send") = (Str.ofString "limit")) = False := by rw [eq_iff_iff, iff_false]; decide +kernel
@[simp] theorem n_send_repeat : ((Str.ofString "send") == (Str.ofString "repeat")) = false := by decide +kernel
@[simp] theorem m_send_repeat : ((Str.ofString "send") = (Str.ofString "repeat")) = False := by rw [eq_iff_iff, iff_false]; decide +kernel
@[simp] theorem n_send_try : ((Str.ofString "send") == (Str.ofString "try")) = false := by decide +kernel
@[simp] theorem m_send_try : ((Str.ofString "send") = (Str.ofString "try")) = False := by rw [eq_iff_iff, iff_false]; decide +kernel
@[simp] theorem n_send_wait : ((Str.ofString "send") == (Str.ofString "wait")) = false := by decide +kernel
@[simp] theorem m_send_wait : ((Str.ofString "send") = (Str.ofString "wait")) = False := by rw [eq_iff_iff, iff_false]; decide +kernel
@[simp] theorem n_send_when : ((Str.ofString "send") == (Str.ofString "when")) = false := by decide +kernel
@[simp] theorem m_send_when : ((Str.ofString "send") = (Str.ofString "when")) = False := by rw [eq_iff_iff, iff_false]; decide +kernel
@[simp] theorem n_strike_faults : ((Str.ofString "strike") == (Str.ofString "faults")) = false := by decide +kernel
@[simp] theorem m_strike_faults : ((Str.ofString "strike") = (Str.ofString "faults")) = False := by rw [eq_iff_iff, iff_false]; decide +kernel
@[simp] theorem n_take_clean : ((Str.ofString "take") == (Str.ofString "clean")) = false := by decide +kernel
@[simp] theorem m_take_clean : ((Str.ofString "take") = (Str.ofString "clean")) = False := by rw [eq_iff_iff, iff_false]; decide +kernel
@[simp] theorem n_take_did : ((Str.ofString "take") == (Str.ofString "did")) = false := by decide +kernel
@[simp] theorem m_take_did : ((Str.ofString "take") = (Str.ofString "did")) = False := by rw [eq_iff_iff, iff_false]; decide +kernel
@[simp] theorem n_take_do : ((Str.ofString "take") == (Str.ofString "do")) = false := by decide +kernel
@[simp] theorem m_take_do : ((Str.ofString "take") = (Str.ofString "do")) = False := by rw [eq_iff_iff, iff_false]; decide +kernel
@[simp] theorem n_take_ended : ((Str.ofString "take") == (Str.ofString "ended")) = false := by decide +kernel
@[simp] theorem m_take_ended : ((Str.ofString "take") = (Str.ofString "ended")) = False := by rw [eq_iff_iff, iff_false]; decide +kernel
@[simp] theorem n_take_group : ((Str.ofString "take") == (Str.ofString "group")) = false := by decide +kernel
@[simp] theorem m_take_group : ((Str.ofString "take") = (Str.ofString "group")) = False := by rw [eq_iff_iff, iff_false]; decide +kernel
@[simp] theorem n_take_halt : ((Str.ofString "take") == (Str.ofString "halt")) = false := by decide +kernel
@[simp] theorem m_take_halt : ((Str.ofString "take") = (Str.ofString "halt")) = False := by rw [eq_iff_iff, iff_false]; decide +kernel
@[simp] theorem n_take_hear : ((Str.ofString "take") == (Str.ofString "hear")) = false := by decide +kernel
@[simp] theorem m_take_hear : ((Str.ofString "take") = (Str.ofString "hear")) = False := by rw [eq_iff_iff, iff_false]; decide +kernel
@[simp] theorem n_take_keep : ((Str.ofString "take") == (Str.ofString "keep")) = false := by decide +kernel
@[simp] theorem m_take_keep : ((Str.ofString "take") = (Str.ofString "keep")) = False := by rw [eq_iff_iff, iff_false]; decide +kernel
@[simp] theorem n_take_late : ((Str.ofString "take") == (Str.ofString "late")) = false := by decide +kernel
@[simp] theorem m_take_late : ((Str.ofString "take") = (Str.ofString "late")) = False := by rw [eq_iff_iff, iff_false]; decide +kernel
@[simp] theorem n_take_limit : ((Str.ofString "take") == (Str.ofString "limit")) = false := by decide +kernel
@[simp] theorem m_take_limit : ((Str.ofString "take") = (Str.ofString "limit")) = False := by rw [eq_iff_iff, iff_false]; decide +kernel
@[simp] theorem n_take_repeat : ((Str.ofString "take") == (Str.ofString "repeat")) = false := by decide +kernel
@[simp] theorem m_take_repeat : ((Str.ofString "take") = (Str.ofString "repeat")) = False := by rw [eq_iff_iff, iff_false]; decide +kernel
@[simp] theorem n_take_try : ((Str.ofString "take") == (Str.ofString "try")) = false := by decide +kernel
@[simp] theorem m_take_try : ((Str.ofString "take") = (Str.ofString "try")) = False := by rw [eq_iff_iff, iff_false]; decide +kernel
@[simp] theorem n_take_wait : ((Str.ofString "take") == (Str.ofString "wait")) = false := by decide +kernel
@[simp] theorem m_take_wait : ((Str.ofString "take") = (Str.ofString "wait")) = False := by rw [eq_iff_iff, iff_false]; decide +kernel
@[simp] theorem n_take_when : ((Str.ofString "take") == (Str.ofString "when")) = false := by decide +kernel
@[simp] theorem m_take_when : ((Str.ofString "take") = (Str.ofString "when")) = False := by rw [eq_iff_iff, iff_false]; decide +kernel
@[simp] theorem n_try_ask : ((Str.ofString "try") == (Str.ofString "ask")) = false := by decide +kernel
@[simp] theorem m_try_ask : ((Str.ofString "try") = (Str.ofString "ask")) = False := by rw [eq_iff_iff, iff_false]; decide +kernel
@[simp] theorem n_try_begin : ((Str.ofString "try") == (Str.ofString "begin")) = false := by decide +kernel
@[simp] theorem m_try_begin : ((Str.ofString "try") = (Str.ofString "begin")) = False := by rw [eq_iff_iff, iff_false]; decide +kernel
@[simp] theorem n_try_do : ((Str.ofString "try") == (Str.ofString "do")) = false := by decide +kernel
@[simp] theorem m_try_do : ((Str.ofString "try") = (Str.ofString "do")) = False := by rw [eq_iff_iff, iff_false]; decide +kernel
@[simp] theorem n_try_give : ((Str.ofString "try") == (Str.ofString "give")) = false := by decide +kernel
@[simp] theorem m_try_give : ((Str.ofString "try") = (Str.ofString "give")) = False := by rw [eq_iff_iff, iff_false]; decide +kernel
@[simp] theorem n_try_group : ((Str.ofString "try") == (Str.ofString "group")) = false := by decide +kernel
@[simp] theorem m_try_group : ((Str.ofString "try") = (Str.ofString "group")) = False := by rw [eq_iff_iff, iff_false]; decide +kernel
@[simp] theorem n_try_hear : ((Str.ofString "try") == (Str.ofString "hear")) = false := by decide +kernel
@[simp] theorem m_try_hear : ((Str.ofString "try") = (Str.ofString "hear")) = False := by rw [eq_iff_iff, iff_false]; decide +kernel
@[simp] theorem n_try_keep : ((Str.ofString "try") == (Str.ofString "keep")) = false := by decide +kernel
@[simp] theorem m_try_keep : ((Str.ofString "try") = (Str.ofString "keep")) = False := by rw [eq_iff_iff, iff_false]; decide +kernel
@[simp] theorem n_try_let : ((Str.ofString "try") == (Str.ofString "let")) = false := by decide +kernel
@[simp] theorem m_try_let : ((Str.ofString "try") = (Str.ofString "let")) = False := by rw [eq_iff_iff, iff_false]; decide +kernel
@[simp] theorem n_try_limit : ((Str.ofString "try") == (Str.ofString "limit")) = false := by decide +kernel
@[simp] theorem m_try_limit : ((Str.ofString "try") = (Str.ofString "limit")) = False := by rw [eq_iff_iff, iff_false]; decide +kernel
@[simp] theorem n_try_off : ((Str.ofString "try") == (Str.ofString "off")) = false := by decide +kernel
@[simp] theorem m_try_off : ((Str.ofString "try") = (Str.ofString "off")) = False := by rw [eq_iff_iff, iff_false]; decide +kernel
@[simp] theorem n_try_raise : ((Str.ofString "try") == (Str.ofString "raise")) = false := by decide +kernel
@[simp] theorem m_try_raise : ((Str.ofString "try") = (Str.ofString "raise")) = False := by rw [eq_iff_iff, iff_false]; decide +kernel
@[simp] theorem n_try_repeat : ((Str.ofString "try") == (Str.ofString "repeat")) = false := by decide +kernel
@[simp] theorem m_try_repeat : ((Str.ofString "try") = (Str.ofString "repeat")) = False := by rw [eq_iff_iff, iff_false]; decide +kernel
@[simp] theorem n_try_ring : ((Str.ofString "try") == (Str.ofString "ring")) = false := by decide +kernel
@[simp] theorem m_try_ring : ((Str.ofString "try") = (Str.ofString "ring")) = False := by rw [eq_iff_iff, iff_false]; decide +kernel
@[simp] theorem n_try_send : ((Str.ofString "try") == (Str.ofString "send")) = false := by decide +kernel
@[simp] theorem m_try_send : ((Str.ofString "try") = (Str.ofString "send")) = False := by rw [eq_iff_iff, iff_false]; decide +kernel
@[simp] theorem n_try_take : ((Str.ofString "try") == (Str.ofString "take")) = false := by decide +kernel
@[simp] theorem m_try_take : ((Str.ofString "try") = (Str.ofString "take")) = False := by rw [eq_iff_iff, iff_false]; decide +kernel
@[simp] theorem n_try_wait : ((Str.ofString "try") == (Str.ofString "wait")) = false := by decide +kernel
@[simp] theorem m_try_wait : ((Str.ofString "try") = (Str.ofString "wait")) = False := by rw [eq_iff_iff, iff_false]; decide +kernel
@[simp] theorem n_try_when : ((Str.ofString "try") == (Str.ofString "when")) = false := by decide +kernel
@[simp] theorem m_try_when : ((Str.ofString "try") = (Str.ofString "when")) = False := by rw [eq_iff_iff, iff_false]; decide +kernel
@[simp] theorem n_wait_ask : ((Str.ofString "wait") == (Str.ofString "ask")) = false := by decide +kernel
@[simp] theorem m_wait_ask : ((Str.ofString "wait") = (Str.ofString "ask")) = False := by rw [eq_iff_iff, iff_false]; decide +kernel
@[simp] theorem n_wait_begin : ((Str.ofString "wait") == (Str.ofString "begin")) = false := by decide +kernel
@[simp] theorem m_wait_begin : ((Str.ofString "wait") = (Str.ofString "begin")) = False := by rw [eq_iff_iff, iff_false]; decide +kernel
@[simp] theorem n_wait_caught : ((Str.ofString "wait") == (Str.ofString "caught")) = false := by decide +kernel
@[simp] theorem m_wait_caught : ((Str.ofString "wait") = (Str.ofString "caught")) = False := by rw [eq_iff_iff, iff_false]; decide +kernel
@[simp] theorem n_wait_clean : ((Str.ofString "wait") == (Str.ofString "clean")) = false := by decide +kernel
@[simp] theorem m_wait_clean : ((Str.ofString "wait") = (Str.ofString "clean")) = False := by rw [eq_iff_iff, iff_false]; decide +kernel
@[simp] theorem n_wait_did : ((Str.ofString "wait") == (Str.ofString "did")) = false := by decide +kernel
@[simp] theorem m_wait_did : ((Str.ofString "wait") = (Str.ofString "did")) = False := by rw [eq_iff_iff, iff_false]; decide +kernel
@[simp] theorem n_wait_do : ((Str.ofString "wait") == (Str.ofString "do")) = false := by decide +kernel
@[simp] theorem m_wait_do : ((Str.ofString "wait") = (Str.ofString "do")) = False := by rw [eq_iff_iff, iff_false]; decide +kernel
@[simp] theorem n_wait_ended : ((Str.ofString "wait") == (Str.ofString "ended")) = false := by decide +kernel
@[simp] theorem m_wait_ended : ((Str.ofString "wait") = (Str.ofString "ended")) = False := by rw [eq_iff_iff, iff_false]; decide +kernel
@[simp] theorem n_wait_give : ((Str.ofString "wait") == (Str.ofString "give")) = false := by decide +kernel
@[simp] theorem m_wait_give : ((Str.ofString "wait") = (Str.ofString "give")) = False := by rw [eq_iff_iff, iff_false]; decide +kernel
@[simp] theorem n_wait_group : ((Str.ofString "wait") == (Str.ofString "group")) = false := by decide +kernel
@[simp] theorem m_wait_group : ((Str.ofString "wait") = (Str.ofString "group")) = False := by rw [eq_iff_iff, iff_false]; decide +kernel
@[simp] theorem n_wait_halt : ((Str.ofString "wait") == (Str.ofString "halt")) = false := by decide +kernel
@[simp] theorem m_wait_halt : ((Str.ofString "wait") = (Str.ofString "halt")) = False := by rw [eq_iff_iff, iff_false]; decide +kernel
@[simp] theorem n_wait_hear : ((Str.ofString "wait") == (Str.ofString "hear")) = false := by decide +kernel
@[simp] theorem m_wait_hear : ((Str.ofString "wait") = (Str.ofString "hear")) = False := by rw [eq_iff_iff, iff_false]; decide +kernel
@[simp] theorem n_wait_join : ((Str.ofString "wait") == (Str.ofString "join")) = false := by decide +kernel
@[simp] theorem m_wait_join : ((Str.ofString "wait") = (Str.ofString "join")) = False := by rw [eq_iff_iff, iff_false]; decide +kernel
@[simp] theorem n_wait_keep : ((Str.ofString "wait") == (Str.ofString "keep")) = false := by decide +kernel
@[simp] theorem m_wait_keep : ((Str.ofString "wait") = (Str.ofString "keep")) = False := by rw [eq_iff_iff, iff_false]; decide +kernel
@[simp] theorem n_wait_late : ((Str.ofString "wait") == (Str.ofString "late")) = false := by decide +kernel
@[simp] theorem m_wait_late : ((Str.ofString "wait") = (Str.ofString "late")) = False := by rw [eq_iff_iff, iff_false]; decide +kernel
@[simp] theorem n_wait_left : ((Str.ofString "wait") == (Str.ofString "left")) = false := by decide +kernel
@[simp] theorem m_wait_left : ((Str.ofString "wait") = (Str.ofString "left")) = False := by rw [eq_iff_iff, iff_false]; decide +kernel
@[simp] theorem n_wait_let : ((Str.ofString "wait") == (Str.ofString "let")) = false := by decide +kernel
@[simp] theorem m_wait_let : ((Str.ofString "wait") = (Str.ofString "let")) = False := by rw [eq_iff_iff, iff_false]; decide +kernel
@[simp] theorem n_wait_limit : ((Str.ofString "wait") == (Str.ofString "limit")) = false := by decide +kernel
@[simp] theorem m_wait_limit : ((Str.ofString "wait") = (Str.ofString "limit")) = False := by rw [eq_iff_iff, iff_false]; decide +kernel
@[simp] theorem n_wait_off : ((Str.ofString "wait") == (Str.ofString "off")) = false := by decide +kernel
@[simp] theorem m_wait_off : ((Str.ofString "wait") = (Str.ofString "off")) = False := by rw [eq_iff_iff, iff_false]; decide +kernel
@[simp] theorem n_wait_raise : ((Str.ofString "wait") == (Str.ofString "raise")) = false := by decide +kernel
@[simp] theorem m_wait_raise : ((Str.ofString "wait") = (Str.ofString "raise")) = False := by rw [eq_iff_iff, iff_false]; decide +kernel
@[simp] theorem n_wait_repeat : ((Str.ofString "wait") == (Str.ofString "repeat")) = false := by decide +kernel
@[simp] theorem m_wait_repeat : ((Str.ofString "wait") = (Str.ofString "repeat")) = False := by rw [eq_iff_iff, iff_false]; decide +kernel
@[simp] theorem n_wait_ring : ((Str.ofString "wait") == (Str.ofString "ring")) = false := by decide +kernel
@[simp] theorem m_wait_ring : ((Str.ofString "wait") = (Str.ofString "ring")) = False := by rw [eq_iff_iff, iff_false]; decide +kernel
@[simp] theorem n_wait_send : ((Str.ofString "wait") == (Str.ofString "send")) = false := by decide +kernel
@[simp] theorem m_wait_send : ((Str.ofString "wait") = (Str.ofString "send")) = False := by rw [eq_iff_iff, iff_false]; decide +kernel
@[simp] theorem n_wait_take : ((Str.ofString "wait") == (Str.ofString "take")) = false := by decide +kernel
@[simp] theorem m_wait_take : ((Str.ofString "wait") = (Str.ofString "take")) = False := by rw [eq_iff_iff, iff_false]; decide +kernel
@[simp] theorem n_wait_try : ((Str.ofString "wait") == (Str.ofString "try")) = false := by decide +kernel
@[simp] theorem m_wait_try : ((Str.ofString "wait") = (Str.ofString "try")) = False := by rw [eq_iff_iff, iff_false]; decide +kernel
@[simp] theorem n_wait_when : ((Str.ofString "wait") == (Str.ofString "when")) = false := by decide +kernel
@[simp] theorem m_wait_when : ((Str.ofString "wait") = (Str.ofString "when")) = False := by rw [eq_iff_iff, iff_false]; decide +kernel
@[simp] theorem n_when_ask : ((Str.ofString "when") == (Str.ofString "ask")) = false := by decide +kernel
@[simp] theorem m_when_ask : ((Str.ofString "when") = (Str.ofString "ask")) = False := by rw [eq_iff_iff, iff_false]; decide +kernel
@[simp] theorem n_when_begin : ((Str.ofString "when") == (Str.ofString "begin")) = false := by decide +kernel
@[simp] theorem m_when_begin : ((Str.ofString "when") = (Str.ofString "begin")) = False := by rw [eq_iff_iff, iff_false]; decide +kernel
@[simp] theorem n_when_do : ((Str.ofString "when") == (Str.ofString "do")) = false := by decide +kernel
@[simp] theorem m_when_do : ((Str.ofString "when") = (Str.ofString "do")) = False := by rw [eq_iff_iff, iff_false]; decide +kernel
@[simp] theorem n_when_give : ((Str.ofString "when") == (Str.ofString "give")) = false := by decide +kernel
@[simp] theorem m_when_give : ((Str.ofString "when") = (Str.ofString "give")) = False := by rw [eq_iff_iff, iff_false]; decide +kernel
@[simp] theorem n_when_group : ((Str.ofString "when") == (Str.ofString "group")) = false := by decide +kernel
@[simp] theorem m_when_group : ((Str.ofString "when") = (Str.ofString "group")) = False := by rw [eq_iff_iff, iff_false]; decide +kernel
@[simp] theorem n_when_hear : ((Str.ofString "when") == (Str.ofString "hear")) = false := by decide +kernel
@[simp] theorem m_when_hear : ((Str.ofString "when") = (Str.ofString "hear")) = False := by rw [eq_iff_iff, iff_false]; decide +kernel
@[simp] theorem n_when_keep : ((Str.ofString "when") == (Str.ofString "keep")) = false := by decide +kernel
@[simp] theorem m_when_keep : ((Str.ofString "when") = (Str.ofString "keep")) = False := by rw [eq_iff_iff, iff_false]; decide +kernel
@[simp] theorem n_when_let : ((Str.ofString "when") == (Str.ofString "let")) = false := by decide +kernel
@[simp] theorem m_when_let : ((Str.ofString "when") = (Str.ofString "let")) = False := by rw [eq_iff_iff, iff_false]; decide +kernel
@[simp] theorem n_when_limit : ((Str.ofString "when") == (Str.ofString "limit")) = false := by decide +kernel
@[simp] theorem m_when_limit : ((Str.ofString "when") = (Str.ofString "limit")) = False := by rw [eq_iff_iff, iff_false]; decide +kernel
@[simp] theorem n_when_off : ((Str.ofString "when") == (Str.ofString "off")) = false := by decide +kernel
@[simp] theorem m_when_off : ((Str.ofString "when") = (Str.ofString "off")) = False := by rw [eq_iff_iff, iff_false]; decide +kernel
@[simp] theorem n_when_raise : ((Str.ofString "when") == (Str.ofString "raise")) = false := by decide +kernel
@[simp] theorem m_when_raise : ((Str.ofString "when") = (Str.ofString "raise")) = False := by rw [eq_iff_iff, iff_false]; decide +kernel
@[simp] theorem n_when_repeat : ((Str.ofString "when") == (Str.ofString "repeat")) = false := by decide +kernel
@[simp] theorem m_when_repeat : ((Str.ofString "when") = (Str.ofString "repeat")) = False := by rw [eq_iff_iff, iff_false]; decide +kernel
@[simp] theorem n_when_ring : ((Str.ofString "when") == (Str.ofString "ring")) = false := by decide +kernel
@[simp] theorem m_when_ring : ((Str.ofString "when") = (Str.ofString "ring")) = False := by rw [eq_iff_iff, iff_false]; decide +kernel
@[simp] theorem n_when_send : ((Str.ofString "when") == (Str.ofString "send")) = false := by decide +kernel
@[simp] theorem m_when_send : ((Str.ofString "when") = (Str.ofString "send")) = False := by rw [eq_iff_iff, iff_false]; decide +kernel
@[simp] theorem n_when_take : ((Str.ofString "when") == (Str.ofString "take")) = false := by decide +kernel
@[simp] theorem m_when_take : ((Str.ofString "when") = (Str.ofString "take")) = False := by rw [eq_iff_iff, iff_false]; decide +kernel
@[simp] theorem n_when_try : ((Str.ofString "when") == (Str.ofString "try")) = false := by decide +kernel
@[simp] theorem m_when_try : ((Str.ofString "when") = (Str.ofString "try")) = False := by rw [eq_iff_iff, iff_false]; decide +kernel
@[simp] theorem n_when_wait : ((Str.ofString "when") == (Str.ofString "wait")) = false := by decide +kernel
@[simp] theorem m_when_wait : ((Str.ofString "when") = (Str.ofString "wait")) = False := by rw [eq_iff_iff, iff_false]; decide +kernel
/-! ## blocks -/
inductive Kd where | group | limit | keep | try_ | do_ | when | rep
  deriving DecidableEq
def kw : Kd → Str
  | .group => "group" | .limit => "limit" | .keep => "keep" | .try_ => "try" | .do_ => "do" | .when => "when" | .rep => "repeat"
structure Blk where
  kd : Kd
  ln : Int
  pk : Int
def bv (b : Blk) : Val := .tup [.str (kw b.kd), .int b.ln, .int b.pk]
def sel (xs : List Str) (i : Int) : Str := (atI xs i).getD (Str.ofString "")
def gname (b : Blk) : Str := sel ["ga", "gb"] (b.pk % 2)
def flt (b : Blk) : Str := sel ["boom", "oops", "any"] (b.pk % 3)
def ringV (l : Int) (w : Str) : Val := .tup [.str (Str.ofString "ring"), .int l, .str w]
def lateR (b : Blk) : List Val := if b.pk / 100 % 2 = 1 then [ringV (100 + b.ln) "late"] else []
def rowOf (b : Blk) (rows : List Val) : Val := match b.kd with
  | .group => .tup [.str (Str.ofString "group"), .int b.ln, .str (gname b), .tup rows]
  | .limit => .tup [.str (Str.ofString "limit"), .int b.ln, .int (1 + b.pk % 99), .tup rows, .tup (lateR b)]
  | .keep => .tup [.str (Str.ofString "keep"), .int b.ln, .tup rows]
  | .try_ => .tup [.str (Str.ofString "try"), .int b.ln, .tup rows, .str (flt b), .tup [ringV (100 + b.ln) "caught"]]
  | .do_ => .tup [.str (Str.ofString "do"), .int b.ln, .tup rows, .tup [ringV (100 + b.ln) "clean"]]
  | .when => .tup [.str (Str.ofString "when"), .int b.ln, .str (Str.ofString "x"), .int 0, .tup rows]
  | .rep => .tup [.str (Str.ofString "repeat"), .int b.ln, .int 1, .tup rows]
def nest (inner : List Val) : List Blk → List Val
  | [] => inner
  | b :: bs => [rowOf b (nest inner bs), ringV (200 + b.ln) "behind"]
def ov : Option Int → Val
  | some i => .int i
  | none => .non
def isGL (b : Blk) : Bool := match b.kd with | .group => true | .limit => true | _ => false
def scof (f : Int) (b : Blk) : Option Int := if isGL b then some f else none
def nxf (f : Int) (b : Blk) : Int := if isGL b then f + 1 else f
def hid (b : Blk) : Bool := match b.kd with | .keep => true | _ => false
def sfr : Int → List Blk → List (Option Int × Bool)
  | _, [] => []
  | f, b :: bs => (scof f b, hid b) :: sfr (nxf f b) bs
def sfr0 (bs : List Blk) : List (Option Int × Bool) := (some 0, false) :: sfr 1 bs
def sv (p : Option Int × Bool) : Val := .tup [ov p.1, .bl p.2]
def go (mk : Int → Bool) : Option Int → List (Option Int × Bool) → Option Int
  | g, [] => g
  | g, (s, h) :: r => let g' := (match s with | some i => if mk i then some i else g | none => g); if h then g' else go mk g' r
def goal (mk : Int → Bool) (F : List (Option Int × Bool)) : Option Int := go mk none F.reverse
theorem kw_eq (b : Blk) (k : Kd) : (kw b.kd == kw k) = decide (b.kd = k) := by
  cases b with | mk kd ln pk => cases kd <;> cases k <;> simp [kw]
@[simp] theorem flat_ov {o : Option Int} : flat (ov o) = true := by cases o <;> rfl
theorem eqF_ov {o o' : Option Int} : eqF (ov o) (ov o') = decide (o = o') := by
  cases o <;> cases o' <;> simp [ov, eqF] <;> rfl
theorem lit_strs {S : Store} {xs : List Str} {z : Int} (h0 : 0 ≤ z) (h1 : z < xs.length) : ixV (S ++ [.lst false (xs.map .str)]) (.obj S.length) (.int z) = some (.str (sel xs z)) := by
  rw [seqI (at_end _ _), atI_pos h0, List.getElem?_map]
  unfold sel
  rw [atI_pos h0]
  have hk : z.toNat < xs.length := by omega
  rw [List.getElem?_eq_getElem hk]
  rfl
theorem md (x : Int) {k : Int} (h : 0 < k) : 0 ≤ x % k ∧ x % k < k := ⟨Int.emod_nonneg _ (by omega), Int.emod_lt_of_pos _ h⟩
theorem mem2 {S : Store} {s a b : Str} : memV S (.str s) (.tup [.str a, .str b]) = some (a == s || b == s) := by simp [memV, flat, eqF]
end Nw.k54

set_option Elab.async false
set_option linter.all false
set_option maxRecDepth 100000
set_option maxHeartbeats 4000000
namespace Nw.k54
open PySem L2 Nw
section
variable {S S' : Store} {n q : Nat} {bs : List Blk} {inner : List Val}
theorem range1_at {m k : Nat} {x : Val} (hx : (rangeL 1 m)[k]? = some x) : x = .int ((k : Int) + 1) ∧ k < m := by
  simp only [rangeL, List.getElem?_map] at hx
  cases hr : (List.range m)[k]? with
  | none => rw [hr] at hx; cases hx
  | some j =>
    rw [hr] at hx
    have h1 := (List.getElem?_eq_some_iff.mp hr).1
    have h2 := (List.getElem?_eq_some_iff.mp hr).2
    simp at h1 h2 hx
    subst h2
    exact ⟨by rw [← hx]; congr 1; omega, h1⟩
theorem sp50 {s : Nat} {l : Bool} {ns : List Int} {k : Int} (h : S[s]? = some (.lst l (ns.map .int))) (hk : 0 ≤ k) : (run T D (n + 1) 50 [.obj s, .int k] S).wp (fun v S' => S = S' ∧ ∃ i, v = .int i) noX := by
  rw [r50]
  have hln : lenV S [.obj s] = .ok (.int ns.length) S := by simp [lenV, h]
  simp [b50, biV, hln]
  intro hl
  have hx : ixV S (.obj s) (.int k) = some (.int ns[k.toNat]) := by
    rw [seqI h, atI_pos hk]
    exact at_ints (by omega)
  simp [hx]
theorem sp51 {c k : Int} (h0 : 0 ≤ k) (h1 : k ≤ 1000) : (run T D (n + 1) 51 [.int c, .int k] S).wp (fun v S' => S = S' ∧ ∃ i, v = .int i) noX := by
  rw [r51]
  have hm := md ((c + 7919 * k + 104729 * k * k) * 48271) (k := 2147483647) (by omega)
  simp [b51]
  generalize (c + 7919 * k + 104729 * k * k) * 48271 % 2147483647 = y at hm
  exact ⟨by omega, by omega⟩
theorem ten_kd {z : Int} (h0 : 0 ≤ z) (h1 : z < 10) : ∃ k, sel ["group", "limit", "keep", "try", "do", "when", "repeat", "group", "limit", "do"] z = kw k := by
  have : z = 0 ∨ z = 1 ∨ z = 2 ∨ z = 3 ∨ z = 4 ∨ z = 5 ∨ z = 6 ∨ z = 7 ∨ z = 8 ∨ z = 9 := by omega
  rcases this with h | h | h | h | h | h | h | h | h | h <;> subst h
  · exact ⟨.group, rfl⟩
  · exact ⟨.limit, rfl⟩
  · exact ⟨.keep, rfl⟩
  · exact ⟨.try_, rfl⟩
  · exact ⟨.do_, rfl⟩
  · exact ⟨.when, rfl⟩
  · exact ⟨.rep, rfl⟩
  · exact ⟨.group, rfl⟩
  · exact ⟨.limit, rfl⟩
  · exact ⟨.do_, rfl⟩
theorem app_ok {ys : List Val} {v : Val} (h : S[q]? = some (.lst false ys)) (hl : ys.length < line) : appV S (.obj q) [v] = .ok .non (S.set q (.lst false (ys ++ [v]))) := by
  simp only [appV, h, if_pos hl]
def CI (t : Int) (ns : List Int) (S : Store) (q k : Nat) (env : Env) (S' : Store) : Prop :=
  ∃ e3 e4 e5, ∃ bs : List Blk, env = [some (.obj 0), some (.int t), some (.obj q), e3, e4, e5] ∧ Le S S' ∧ S'[q]? = some (.lst false (bs.map bv)) ∧ bs.length = k
/-- chain -/
theorem sp52 {ns : List Int} {t : Int} (ht0 : 0 ≤ t) (ht1 : t ≤ 9) (h : S[0]? = some (.lst true (ns.map .int))) (hl : ns.length ≤ 63) : (run T D (n + 2) 52 [.obj 0, .int t] S).wp (fun v S' => ∃ q, ∃ bs : List Blk, v = .obj q ∧ Le S S' ∧ S.length ≤ q ∧ S'[q]? = some (.lst false (bs.map bv)) ∧ bs.length ≤ 7) noX := by
  rw [r52]
  simp [b52, lineq]
  have l1 := Le.app S [Obj.lst false []]
  have e1 := at_end S (Obj.lst false [])
  generalize S ++ [Obj.lst false []] = S1 at l1 e1 ⊢
  obtain ⟨q, hq⟩ : ∃ q, q = S.length := ⟨_, rfl⟩
  rw [← hq] at e1 ⊢
  have hln : lenV S1 [.obj 0] = .ok (.int ns.length) S1 := by simp [lenV, l1 _ _ h]
  simp [b52_3, biV, hln, min2V]
  obtain ⟨hi, hhi⟩ : ∃ hi : Int, hi = if (8 : Int) < ns.length then 8 else (ns.length : Int) := ⟨_, rfl⟩
  rw [← hhi]
  obtain ⟨m, hm⟩ : ∃ m : Nat, m = (hi - 1).toNat := ⟨_, rfl⟩
  have h7 : m ≤ 7 ∧ m + 1 ≤ ns.length ∨ m = 0 := by split at hhi <;> omega
  have hw : mkWalk .range S1 [.int 1, .int hi] = some (.sq (rangeL 1 m), m) := by
    have hs : small hi = true := by simp [small]; split at hhi <;> omega
    have hs1 : small 1 = true := by decide
    simp [mkWalk, wkRange, hs, hs1, hm]
  refine wp_for (CI t ns S q) (rangeL 1 m) hw (by simp [rangeL]) ⟨none, none, none, [], rfl, l1, e1, rfl⟩ (fun _ _ _ _ => rfl) ?_ ?_
  · rintro k x env S2 hx ⟨e3, e4, e5, bs, rfl, l2, e2, hb⟩
    obtain ⟨rfl, hk⟩ := range1_at hx
    refine ⟨_, by simp [tgt]; rfl, ?_⟩
    have hx : ixV S2 (.obj 0) (.int ((k : Int) + 1)) = some (.int ns[k + 1]) := by
      rw [seqI (l2 _ _ h), atI_pos (by omega)]
      have : ((k : Int) + 1).toNat = k + 1 := by omega
      rw [this]
      exact at_ints (by omega)
    simp [b52_2, hx]
    refine (sp51 (by omega) (by omega)).then ?_
    rintro _ _ ⟨rfl, pk, rfl⟩
    have hm := md pk (k := 10) (by omega)
    have hlit := lit_strs (S := S2) (xs := ["group", "limit", "keep", "try", "do", "when", "repeat", "group", "limit", "do"]) hm.1 (by simpa using hm.2)
    obtain ⟨kd, hkd⟩ := ten_kd hm.1 hm.2
    rw [hkd] at hlit
    simp at hlit
    simp [b52_1, lineq, hlit]
    have l3 := Le.app S2 [Obj.lst false [.str "group", .str "limit", .str "keep", .str "try", .str "do", .str "when", .str "repeat", .str "group", .str "limit", .str "do"]]
    generalize S2 ++ [Obj.lst false [.str "group", .str "limit", .str "keep", .str "try", .str "do", .str "when", .str "repeat", .str "group", .str "limit", .str "do"]] = S3 at l3 ⊢
    have e3 := l3 _ _ e2
    have hkl : kdOf S3 (.obj q) = some .list := by simp [kdOf, e3]
    have hql : q < S3.length := lt_ob e3
    simp [bmGo, hkl, bmK, bmV, bmV0, app_ok e3 (by rw [lineq]; simp; omega)]
    exact ⟨_, _, _, bs ++ [⟨kd, (k : Int) + 1, pk / 16⟩], rfl, (l2.trans l3).set (by omega), by rw [set_eq e3]; simp [bv], by simp [hb]⟩
  · rintro env S2 ⟨e3, e4, e5, bs, rfl, l2, e2, hb⟩
    simp [rangeL] at hb
    simp
    exact ⟨l2, bs, e2, by omega⟩
end
end Nw.k54

set_option Elab.async false
set_option linter.all false
set_option maxRecDepth 100000
set_option maxHeartbeats 4000000
namespace Nw.k54
open PySem L2 Nw
section
variable {S S' : Store} {n q lm : Nat} {bs : List Blk} {inner : List Val}
theorem walk_lst {S : Store} {q : Nat} {l : Bool} {xs : List Val} (h : S[q]? = some (.lst l xs)) : mkWalk .val S [.obj q] = some (.lst q, xs.length) := by simp [mkWalk, wkVal, lst?, h]
theorem walk_rv {S : Store} {q : Nat} {l : Bool} {xs : List Val} (h : S[q]? = some (.lst l xs)) : mkWalk .rv S [.obj q] = some (.rv q xs.length, xs.length) := by simp [mkWalk, wkRv, lst?, h]
theorem at_rv {S : Store} {q : Nat} {l : Bool} {xs : List Val} (h : S[q]? = some (.lst l xs)) (k : Nat) : walkAt S (.rv q xs.length) k = some xs.reverse[k]? := by
  simp only [walkAt, lst?, h, Option.bind_some]
  by_cases hk : k < xs.length
  · have e1 : xs[xs.length - 1 - k]? = some (xs[xs.length - 1 - k]'(by omega)) := List.getElem?_eq_getElem _
    rw [if_pos hk, e1, List.getElem?_reverse hk, e1]
    rfl
  · rw [if_neg hk, List.getElem?_eq_none (by simp; omega)]
theorem nest_rev (inner : List Val) {b : Blk} {k : Nat} (h : bs.reverse[k]? = some b) : nest inner (bs.drop (bs.length - (k + 1))) = [rowOf b (nest inner (bs.drop (bs.length - k))), ringV (200 + b.ln) "behind"] := by
  have hk : k < bs.length := by have := (List.getElem?_eq_some_iff.mp h).1; simpa using this
  rw [List.getElem?_reverse hk] at h
  have e : bs.length - (k + 1) = bs.length - 1 - k := by omega
  obtain ⟨h1, h2⟩ := List.getElem?_eq_some_iff.mp h
  rw [e, List.drop_eq_getElem_cons h1, h2]
  have e2 : bs.length - 1 - k + 1 = bs.length - k := by omega
  rw [e2]; rfl
def NI (q : Nat) (inner : List Val) (bs : List Blk) (S : Store) (k : Nat) (env : Env) (S' : Store) : Prop :=
  ∃ e3 e4 e5 e6, env = [some (.obj q), some (.tup inner), some (.tup (nest inner (bs.drop (bs.length - k)))), e3, e4, e5, e6] ∧ Le S S'
theorem gname_at {S : Store} {b : Blk} : ixV (S ++ [.lst false [.str "ga", .str "gb"]]) (.obj S.length) (.int (b.pk % 2)) = some (.str (gname b)) := by
  have hm := md b.pk (k := 2) (by omega)
  exact lit_strs (xs := ["ga", "gb"]) hm.1 (by simpa using hm.2)
theorem flt_at {S : Store} {b : Blk} : ixV (S ++ [.lst false [.str "boom", .str "oops", .str "any"]]) (.obj S.length) (.int (b.pk % 3)) = some (.str (flt b)) := by
  have hm := md b.pk (k := 3) (by omega)
  exact lit_strs (xs := ["boom", "oops", "any"]) hm.1 (by simpa using hm.2)
theorem late_mul {S : Store} {b : Blk} : binV .mul S (.tup [ringV (100 + b.ln) "late"]) (.int (b.pk / 100 % 2)) = .ok (.tup (lateR b)) S := by
  have hm := md (b.pk / 100) (k := 2) (by omega)
  unfold lateR
  generalize b.pk / 100 % 2 = z at hm
  have : z = 0 ∨ z = 1 := by omega
  rcases this with rfl | rfl <;> simp [binV, mulV]
/-- nested -/
theorem sp53 (h : S[q]? = some (.lst false (bs.map bv))) (hl : bs.length ≤ 7) : (run T D (n + 1) 53 [.obj q, .tup inner] S).wp (fun v S' => v = .tup (nest inner bs) ∧ Le S S') noX := by
  rw [r53]
  simp [b53]
  simp [b53_2]
  refine wp_for (NI q inner bs S) (bs.map bv).reverse (walk_rv h) (by simp) ⟨none, none, none, none, by simp [nest], Le.refl _⟩ (fun k env S' ⟨_, _, _, _, _, l⟩ => at_rv (l _ _ h) k) ?_ ?_
  · rintro k x env S2 hx ⟨e3, e4, e5, e6, rfl, l2⟩
    rw [← List.map_reverse, List.getElem?_map] at hx
    cases hb : bs.reverse[k]? with
    | none => rw [hb] at hx; cases hx
    | some b =>
      rw [hb] at hx
      simp at hx
      subst hx
      refine ⟨_, by simp [tgt, bv]; rfl, ?_⟩
      have hn := nest_rev inner hb
      generalize nest inner (bs.drop (bs.length - k)) = rows at hn
      have fin : ∀ (e6 : Option Val) (S3 : Store), e6 = some (rowOf b rows) → Le S2 S3 → ∃ a3 a4 a5 a6, [some (Val.obj q), some (Val.tup inner), some (Val.tup [rowOf b rows, ringV (200 + b.ln) "behind"]), some (.str (kw b.kd)), some (.int b.ln), some (.int b.pk), e6] = [some (.obj q), some (.tup inner), some (.tup (nest inner (bs.drop (bs.length - (k + 1))))), a3, a4, a5, a6] ∧ Le S S3 := fun e6 S3 _ l => ⟨_, _, _, _, by rw [hn], l2.trans l⟩
      obtain ⟨kd, ln, pk⟩ := b
      cases kd <;> simp [b53_1, kw, lineq]
      · have hg := @gname_at S2 ⟨.group, ln, pk⟩
        simp at hg
        simp [hg]
        exact fin _ _ rfl (Le.app _ _)
      · have hg := @late_mul S2 ⟨.limit, ln, pk⟩
        simp [ringV] at hg
        simp [hg]
        exact fin _ _ rfl (Le.refl _)
      · exact fin _ _ rfl (Le.refl _)
      · have hg := @flt_at S2 ⟨.try_, ln, pk⟩
        simp at hg
        simp [hg]
        exact fin _ _ rfl (Le.app _ _)
      · exact fin _ _ rfl (Le.refl _)
      · exact fin _ _ rfl (Le.refl _)
      · exact fin _ _ rfl (Le.refl _)
  · rintro env S2 ⟨e3, e4, e5, e6, rfl, l2⟩
    simp
    exact l2
end
end Nw.k54

set_option Elab.async false
set_option linter.all false
set_option maxRecDepth 100000
set_option maxHeartbeats 4000000
namespace Nw.k54
open PySem L2 Nw
section
variable {S S' : Store} {n q fl lm : Nat} {bs : List Blk} {F : List (Option Int × Bool)} {mk : List (Key × Val)}
theorem drop_at {α : Type} {xs : List α} {k : Nat} {x : α} (h : xs[k]? = some x) : xs.drop k = x :: xs.drop (k + 1) := by
  obtain ⟨hk, e⟩ := List.getElem?_eq_some_iff.mp h
  rw [List.drop_eq_getElem_cons hk, e]
def SCI (q : Nat) (bs : List Blk) (S : Store) (fl k : Nat) (env : Env) (S' : Store) : Prop :=
  ∃ f e3 e4 e5, ∃ xs : List (Option Int × Bool), env = [some (.obj q), some (.obj fl), some (.int f), e3, e4, e5] ∧ Le S S' ∧ S'[fl]? = some (.lst false (xs.map sv)) ∧ xs.length = k + 1 ∧ xs ++ sfr f (bs.drop k) = sfr0 bs
/-- scopes of the law -/
theorem sp54 (h : S[q]? = some (.lst false (bs.map bv))) (hl : bs.length ≤ 7) : (run T D (n + 1) 54 [.obj q] S).wp (fun v S' => ∃ fl, v = .obj fl ∧ Le S S' ∧ S.length ≤ fl ∧ S'[fl]? = some (.lst false ((sfr0 bs).map sv))) noX := by
  rw [r54]
  simp [b54, lineq]
  have l1 := Le.app S [Obj.lst false [.tup [.int 0, .bl false]]]
  have e1 := at_end S (Obj.lst false [.tup [.int 0, .bl false]])
  generalize S ++ [Obj.lst false [.tup [.int 0, .bl false]]] = S1 at l1 e1 ⊢
  obtain ⟨fl, hfl⟩ : ∃ fl, fl = S.length := ⟨_, rfl⟩
  rw [← hfl] at e1 ⊢
  simp [b54_3]
  simp [b54_2]
  refine wp_for (SCI q bs S fl) (bs.map bv) (walk_lst (l1 _ _ h)) (by simp) ⟨1, none, none, none, [(some 0, false)], rfl, l1, e1, rfl, rfl⟩ (fun k env S' ⟨_, _, _, _, _, _, l, _⟩ => by simp [walkAt, lst?, l _ _ h]) ?_ ?_
  · rintro k x env S2 hx ⟨f, e3, e4, e5, xs, rfl, l2, e2, hxl, hxs⟩
    rw [List.getElem?_map] at hx
    cases hb : bs[k]? with
    | none => rw [hb] at hx; cases hx
    | some b =>
      rw [hb] at hx
      simp at hx
      subst hx
      have hk := (List.getElem?_eq_some_iff.mp hb).1
      refine ⟨_, by simp [tgt, bv]; rfl, ?_⟩
      rw [drop_at hb] at hxs
      have hkl : kdOf S2 (.obj fl) = some .list := by simp [kdOf, e2]
      have hap : ∀ v, appV S2 (.obj fl) [v] = .ok .non (S2.set fl (.lst false (xs.map sv ++ [v]))) := fun v => app_ok e2 (by rw [lineq]; simp; omega)
      have fin : ∀ (p : Option Int × Bool) (f' : Int) (e3 e4 e5 : Option Val), (p :: sfr f' (bs.drop (k + 1))) = sfr f (b :: bs.drop (k + 1)) → SCI q bs S fl (k + 1) [some (.obj q), some (.obj fl), some (.int f'), e3, e4, e5] (S2.set fl (.lst false (xs.map sv ++ [sv p]))) := fun p f' e3 e4 e5 hp => by
        refine ⟨f', e3, e4, e5, xs ++ [p], rfl, l2.set (by omega), by rw [set_eq e2]; simp, by simp [hxl], ?_⟩
        rw [← hxs, ← hp]; simp
      obtain ⟨kd, ln, pk⟩ := b
      cases kd <;> simp [b54_1, kw, mem2, bmGo, hkl, bmK, bmV, bmV0, hap, lineq]
      · exact fin (some f, false) (f + 1) _ _ _ rfl
      · exact fin (some f, false) (f + 1) _ _ _ rfl
      · exact fin (none, true) f _ _ _ rfl
      · exact fin (none, false) f _ _ _ rfl
      · exact fin (none, false) f _ _ _ rfl
      · exact fin (none, false) f _ _ _ rfl
      · exact fin (none, false) f _ _ _ rfl
  · rintro env S2 ⟨f, e3, e4, e5, xs, rfl, l2, e2, hxl, hxs⟩
    have : bs.drop (bs.map bv).length = [] := by simp
    rw [this] at hxs
    simp [sfr] at hxs
    subst hxs
    simp
    exact ⟨l2, e2⟩
def mkf (mk : List (Key × Val)) (i : Int) : Bool := (look mk (.inl i)).isSome
def mo (mk : List (Key × Val)) : Option Int → Bool
  | some i => mkf mk i
  | none => false
theorem mem_mk {l : Bool} (h : S[lm]? = some (.dK l mk)) (o : Option Int) : memV S (ov o) (.obj lm) = some (mo mk o) := by
  cases o <;> simp [memV, h, ov, mo, mkf]
def nx1 (mk : List (Key × Val)) (g s : Option Int) : Option Int := if mo mk s then s else g
theorem go_cons {mk : List (Key × Val)} {g s : Option Int} {h : Bool} {r : List (Option Int × Bool)} : go (mkf mk) g ((s, h) :: r) = if h then nx1 mk g s else go (mkf mk) (nx1 mk g s) r := by
  cases s with
  | none => rfl
  | some i => rfl
def GI (fl lm : Nat) (F : List (Option Int × Bool)) (mk : List (Key × Val)) (S : Store) (k : Nat) (env : Env) (S' : Store) : Prop :=
  ∃ g e3 e4, env = [some (.obj fl), some (.obj lm), some (ov g), e3, e4] ∧ S = S' ∧ go (mkf mk) g (F.reverse.drop k) = goal (mkf mk) F
end
end Nw.k54

set_option Elab.async false
set_option linter.all false
set_option maxRecDepth 100000
set_option maxHeartbeats 4000000
namespace Nw.k54
open PySem L2 Nw
/-! ## frames -/
def cls : Kd → Nat
  | .group => 6 | .limit => 5 | .keep => 2 | .try_ => 3 | .do_ => 4 | .when => 0 | .rep => 1
def ext (b : Blk) : List (Nat × Val) := match b.kd with
  | .group => [(9, .str (gname b)), (8, .non), (10, .non)]
  | .limit => [(6, .tup (lateR b))]
  | .keep => []
  | .try_ => [(5, .str (flt b)), (6, .tup [ringV (100 + b.ln) "caught"])]
  | .do_ => [(6, .tup [ringV (100 + b.ln) "clean"]), (7, .bl false), (8, .non)]
  | .when => []
  | .rep => [(4, .int 0)]
def fO (c : Nat) (rows : List Val) (ln : Int) (sc : Option Int) (pl : Nat) (ex : List (Nat × Val)) : Obj := .ins c ([(0, .tup rows), (1, .int ln), (2, ov sc), (3, .int pl)] ++ ex)
/-- a frame: of a block or of the errand -/
structure Fr where
  c : Nat
  rows : List Val
  ln : Int
  sc : Option Int
  pl : Nat
  ex : List (Nat × Val)
def Fr.ob (f : Fr) : Obj := fO f.c f.rows f.ln f.sc f.pl f.ex
def base (rows : List Val) (pl : Nat) : Fr := ⟨0, rows, 0, some 0, pl, []⟩
def frOf (b : Blk) (rows : List Val) (f : Int) (pl : Nat) : Fr := ⟨cls b.kd, rows, b.ln, scof f b, pl, ext b⟩
def Fr.hd (f : Fr) : Bool := f.c == 2 || (match fget 7 f.ex with | some (.bl b) => b | _ => false)
/-- what all frames are like -/
structure Fr.Ok (f : Fr) : Prop where
  f0 : T.isF f.c 0 = true
  f1 : T.isF f.c 1 = true
  f2 : T.isF f.c 2 = true
  f3 : T.isF f.c 3 = true
  m24 : T.mt f.c 24 = some (2, [])
  x24 : fget 24 f.ex = none
  x20 : fget 20 f.ex = none
  x32 : fget 32 f.ex = none
  x29 : fget 29 f.ex = none
  m20 : (T.mt f.c 20 = some (3, []) ∧ f.hd = false) ∨ (T.mt f.c 20 = some (10, []) ∧ f.hd = true) ∨ (T.mt f.c 20 = some (16, []) ∧ T.isF f.c 7 = true ∧ fget 7 f.ex = some (.bl f.hd))
  xl : f.ex.length ≤ 9
theorem base_ok {rows : List Val} {pl : Nat} : (base rows pl).Ok := ⟨rfl, rfl, rfl, rfl, rfl, rfl, rfl, rfl, rfl, .inl ⟨rfl, rfl⟩, by simp [base]⟩
theorem frOf_ok {b : Blk} {rows : List Val} {f : Int} {pl : Nat} : (frOf b rows f pl).Ok := by
  obtain ⟨kd, ln, pk⟩ := b
  cases kd
  · exact ⟨rfl, rfl, rfl, rfl, rfl, rfl, rfl, rfl, rfl, .inl ⟨rfl, rfl⟩, by simp [frOf, ext]⟩
  · exact ⟨rfl, rfl, rfl, rfl, rfl, rfl, rfl, rfl, rfl, .inl ⟨rfl, rfl⟩, by simp [frOf, ext]⟩
  · exact ⟨rfl, rfl, rfl, rfl, rfl, rfl, rfl, rfl, rfl, .inr (.inl ⟨rfl, rfl⟩), by simp [frOf, ext]⟩
  · exact ⟨rfl, rfl, rfl, rfl, rfl, rfl, rfl, rfl, rfl, .inl ⟨rfl, rfl⟩, by simp [frOf, ext]⟩
  · exact ⟨rfl, rfl, rfl, rfl, rfl, rfl, rfl, rfl, rfl, .inr (.inr ⟨rfl, rfl, rfl⟩), by simp [frOf, ext]⟩
  · exact ⟨rfl, rfl, rfl, rfl, rfl, rfl, rfl, rfl, rfl, .inl ⟨rfl, rfl⟩, by simp [frOf, ext]⟩
  · exact ⟨rfl, rfl, rfl, rfl, rfl, rfl, rfl, rfl, rfl, .inl ⟨rfl, rfl⟩, by simp [frOf, ext]⟩
section
variable {S S' : Store} {a n : Nat} {f : Fr}
theorem Fr.g0 (o : f.Ok) (h : S[a]? = some f.ob) : fldV T 0 (.obj a) S = .ok (.tup f.rows) S := by simp [fldV, h, Fr.ob, fO, o.f0, fget]
theorem Fr.g1 (o : f.Ok) (h : S[a]? = some f.ob) : fldV T 1 (.obj a) S = .ok (.int f.ln) S := by simp [fldV, h, Fr.ob, fO, o.f1, fget]
theorem Fr.g2 (o : f.Ok) (h : S[a]? = some f.ob) : fldV T 2 (.obj a) S = .ok (ov f.sc) S := by simp [fldV, h, Fr.ob, fO, o.f2, fget]
theorem Fr.g3 (o : f.Ok) (h : S[a]? = some f.ob) : fldV T 3 (.obj a) S = .ok (.int f.pl) S := by simp [fldV, h, Fr.ob, fO, o.f3, fget]
theorem Fr.m (h : S[a]? = some f.ob) {k : Nat} {x : Nat × List Val} (hk : fget k f.ex = none) (h4 : 4 ≤ k) (hm : T.mt f.c k = some x) : methV T k (.obj a) S = some x := by
  have e0 : (0 = k) = False := by simp; omega
  have e1 : (1 = k) = False := by simp; omega
  have e2 : (2 = k) = False := by simp; omega
  have e3 : (3 = k) = False := by simp; omega
  simp [methV, h, Fr.ob, fO, fget, e0, e1, e2, e3, hk, hm]
/-- hides -/
theorem Fr.hides (o : f.Ok) (h : S[a]? = some f.ob) : ∃ i, methV T 20 (.obj a) S = some (i, []) ∧ ∀ n, (run T D (n + 1) i [.obj a] S).wp (fun v S' => v = .bl f.hd ∧ S = S') noX := by
  rcases o.m20 with ⟨h1, h2⟩ | ⟨h1, h2⟩ | ⟨h1, h3, h4⟩
  · exact ⟨3, f.m h o.x20 (by omega) h1, fun n => by rw [r3]; simp [b3, h2]⟩
  · exact ⟨10, f.m h o.x20 (by omega) h1, fun n => by rw [r10]; simp [b10, h2]⟩
  · refine ⟨16, f.m h o.x20 (by omega) h1, fun n => ?_⟩
    rw [r16]
    have : fldV T 7 (.obj a) S = .ok (.bl f.hd) S := by simp [fldV, h, Fr.ob, fO, fget, h3, h4]
    simp [b16, this]
/-- next_row -/
theorem Fr.next (o : f.Ok) (h : S[a]? = some f.ob) {x : Val} (hx : f.rows[f.pl]? = some x) : (run T D (n + 1) 2 [.obj a] S).wp (fun v S' => v = x ∧ S' = S.set a (Fr.ob { f with pl := f.pl + 1 })) noX := by
  rw [r2]
  have hlt := (List.getElem?_eq_some_iff.mp hx).1
  have hne : ((f.pl : Int) == (f.rows.length : Int)) = false := by simp; omega
  have hlen : lenV S [.tup f.rows] = .ok (.int f.rows.length) S := rfl
  simp [b2, f.g3 o h, f.g0 o h, biV, hlen, hne]
  have hxl := o.xl
  have ha : augF1 T 3 (.obj a) S = some (a, f.c, .int f.pl) := by simp [augF1, h, Fr.ob, fO, o.f3, fget]
  have hb : ∀ env : Env, augF2 3 env a f.c (.int ((f.pl : Int) + 1)) S = .nx env (S.set a (Fr.ob { f with pl := f.pl + 1 })) := fun env => by
    simp [augF2, h, Fr.ob, fO, fput]
    omega
  have h1 : (S.set a (Fr.ob { f with pl := f.pl + 1 }))[a]? = some (Fr.ob { f with pl := f.pl + 1 }) := set_eq h
  have o1 : Fr.Ok { f with pl := f.pl + 1 } := ⟨o.f0, o.f1, o.f2, o.f3, o.m24, o.x24, o.x20, o.x32, o.x29, o.m20, o.xl⟩
  have hi : ixV (S.set a (Fr.ob { f with pl := f.pl + 1 })) (.tup f.rows) (.int f.pl) = some x := by rw [tupI, atI_pos (by omega)]; simpa using hx
  have hw : (((f.pl + 1 : Nat) : Int) - 1) = f.pl := by omega
  have q0 := Fr.g0 o1 h1
  have q3 := Fr.g3 o1 h1
  simp only at q0 q3
  simp [b2_1, ha, augV, iaddV, hb, q0, q3, hw, hi]
end
end Nw.k54

set_option Elab.async false
set_option linter.all false
set_option maxRecDepth 100000
set_option maxHeartbeats 4000000
namespace Nw.k54
open PySem L2 Nw
/-! ## the machine -/
abbrev En := Val × Bool
def enN : En := (.non, false)
def mF (fr nd md : Nat) (sig want : Val) (fresh : Int) (en : En) : List (Nat × Val) := [(11, .obj fr), (12, .obj nd), (13, .obj md), (14, sig), (15, want), (16, .bl en.2), (17, .int 0), (18, .int fresh), (19, en.1)]
structure MS (S : Store) (m fr nd md : Nat) (as : List Nat) (fs : List Fr) (mk : List (Key × Val)) (sig want : Val) (fresh : Int) (en : En) : Prop where
  ob : S[m]? = some (.ins 7 (mF fr nd md sig want fresh en))
  hfr : S[fr]? = some (.lst false (as.map .obj))
  hnd : S[nd]? = some (.dK false [])
  hmd : S[md]? = some (.dK false mk)
  ne : nd ≠ md
  al : as.length = fs.length
  fo : ∀ (i : Nat) a f, as[i]? = some a → fs[i]? = some f → S[a]? = some f.ob
  ok : ∀ f ∈ fs, f.Ok
  nu : as.Nodup
  am : ∀ a ∈ as, a ≠ m
  fl : fs.length ≤ 9
  ml : mk.length ≤ 100
/-- lists and dicts of others stay -/
def Ky (fr md : Nat) (S S' : Store) : Prop := (∀ (i : Nat) o, S[i]? = some o → (∀ c fs, o ≠ .ins c fs) → i ≠ fr → i ≠ md → S'[i]? = some o) ∧ S.length ≤ S'.length
theorem Ky.refl {fr md : Nat} {S : Store} : Ky fr md S S := ⟨fun _ _ h _ _ _ => h, Nat.le_refl _⟩
theorem Ky.trans {fr md : Nat} {S T U : Store} (h : Ky fr md S T) (k : Ky fr md T U) : Ky fr md S U := ⟨fun i o e a b c => k.1 i o (h.1 i o e a b c) a b c, Nat.le_trans h.2 k.2⟩
theorem Ky.of {fr md : Nat} {S T : Store} (h : Le S T) : Ky fr md S T := ⟨fun i o e _ _ _ => h i o e, h.len⟩
def FS (fs : List Fr) : List (Option Int × Bool) := fs.map fun f => (f.sc, f.hd)
section
variable {S S' : Store} {m fr nd md n : Nat} {as : List Nat} {fs : List Fr} {mk : List (Key × Val)} {sig want v : Val} {en : En} {fresh : Int}
theorem MS.le (h : MS S m fr nd md as fs mk sig want fresh en) (l : Le S S') : MS S' m fr nd md as fs mk sig want fresh en := ⟨l _ _ h.ob, l _ _ h.hfr, l _ _ h.hnd, l _ _ h.hmd, h.ne, h.al, fun i a f e1 e2 => l _ _ (h.fo i a f e1 e2), h.ok, h.nu, h.am, h.fl, h.ml⟩
theorem MS.gm (h : MS S m fr nd md as fs mk sig want fresh en) {k : Nat} (hf : T.isF 7 k = true) : fldV T k (.obj m) S = Res.ofO (fget k (mF fr nd md sig want fresh en)) S := by simp [fldV, h.ob, hf]
theorem MS.g11 (h : MS S m fr nd md as fs mk sig want fresh en) : fldV T 11 (.obj m) S = .ok (.obj fr) S := by rw [h.gm (by decide)]; rfl
theorem MS.g12 (h : MS S m fr nd md as fs mk sig want fresh en) : fldV T 12 (.obj m) S = .ok (.obj nd) S := by rw [h.gm (by decide)]; rfl
theorem MS.g13 (h : MS S m fr nd md as fs mk sig want fresh en) : fldV T 13 (.obj m) S = .ok (.obj md) S := by rw [h.gm (by decide)]; rfl
theorem MS.g14 (h : MS S m fr nd md as fs mk sig want fresh en) : fldV T 14 (.obj m) S = .ok sig S := by rw [h.gm (by decide)]; rfl
theorem MS.g15 (h : MS S m fr nd md as fs mk sig want fresh en) : fldV T 15 (.obj m) S = .ok want S := by rw [h.gm (by decide)]; rfl
theorem MS.g16 (h : MS S m fr nd md as fs mk sig want fresh en) : fldV T 16 (.obj m) S = .ok (.bl en.2) S := by rw [h.gm (by decide)]; rfl
theorem MS.g17 (h : MS S m fr nd md as fs mk sig want fresh en) : fldV T 17 (.obj m) S = .ok (.int 0) S := by rw [h.gm (by decide)]; rfl
theorem MS.g18 (h : MS S m fr nd md as fs mk sig want fresh en) : fldV T 18 (.obj m) S = .ok (.int fresh) S := by rw [h.gm (by decide)]; rfl
theorem MS.g19 (h : MS S m fr nd md as fs mk sig want fresh en) : fldV T 19 (.obj m) S = .ok en.1 S := by rw [h.gm (by decide)]; rfl
theorem MS.mm (h : MS S m fr nd md as fs mk sig want fresh en) {k : Nat} {x : Nat × List Val} (hk : fget k (mF fr nd md sig want fresh en) = none) (hm : T.mt 7 k = some x) : methV T k (.obj m) S = some x := by simp [methV, h.ob, hk, hm]
/-- the machine's object anew -/
theorem MS.set (h : MS S m fr nd md as fs mk sig want fresh en) (sig' want' : Val) (fresh' : Int) (en' : En) : MS (S.set m (.ins 7 (mF fr nd md sig' want' fresh' en'))) m fr nd md as fs mk sig' want' fresh' en' ∧ Ky fr md S (S.set m (.ins 7 (mF fr nd md sig' want' fresh' en'))) := by
  refine ⟨⟨set_eq h.ob, set_ne h.hfr (ne_ob h.hfr h.ob (by simp)), set_ne h.hnd (ne_ob h.hnd h.ob (by simp)), set_ne h.hmd (ne_ob h.hmd h.ob (by simp)), h.ne, h.al, fun i a f e1 e2 => set_ne (h.fo i a f e1 e2) (h.am a (List.mem_of_getElem? e1)), h.ok, h.nu, h.am, h.fl, h.ml⟩, ⟨fun i o e a _ _ => set_ne e (ne_ob e h.ob (a _ _)), by simp⟩⟩
theorem MS.sv {env : Env} {k : Nat} {u : Val} (h : MS S m fr nd md as fs mk sig want fresh en) (hf : T.isF 7 k = true) : setFV T k env u (.obj m) S = .nx env (S.set m (.ins 7 (fput k u (mF fr nd md sig want fresh en)))) := by simp [setFV, h.ob, hf, mF]
theorem MS.s14 {env : Env} {u : Val} (h : MS S m fr nd md as fs mk sig want fresh en) : setFV T 14 env u (.obj m) S = .nx env (S.set m (.ins 7 (mF fr nd md u want fresh en))) := by rw [h.sv (by decide)]; rfl
theorem MS.s15 {env : Env} {u : Val} (h : MS S m fr nd md as fs mk sig want fresh en) : setFV T 15 env u (.obj m) S = .nx env (S.set m (.ins 7 (mF fr nd md sig u fresh en))) := by rw [h.sv (by decide)]; rfl
theorem MS.s19 {env : Env} {u : Val} (h : MS S m fr nd md as fs mk sig want fresh en) : setFV T 19 env u (.obj m) S = .nx env (S.set m (.ins 7 (mF fr nd md sig want fresh (u, en.2)))) := by rw [h.sv (by decide)]; rfl
theorem MS.at {k : Nat} {x : Val} (h : MS S m fr nd md as fs mk sig want fresh en) (hx : (as.map Val.obj).reverse[k]? = some x) : ∃ a f, x = .obj a ∧ fs.reverse[k]? = some f ∧ S[a]? = some f.ob ∧ f.Ok := by
  rw [← List.map_reverse, List.getElem?_map] at hx
  cases ha : as.reverse[k]? with
  | none => rw [ha] at hx; cases hx
  | some a =>
    rw [ha] at hx
    have hk : k < as.length := by have := (List.getElem?_eq_some_iff.mp ha).1; simpa using this
    have al := h.al
    rw [List.getElem?_reverse hk] at ha
    have hf : fs[as.length - 1 - k]? = some (fs[as.length - 1 - k]'(by omega)) := List.getElem?_eq_getElem _
    refine ⟨a, _, by simpa using hx.symm, ?_, h.fo _ _ _ ha hf, h.ok _ (List.mem_of_getElem? hf)⟩
    rw [List.getElem?_reverse (by omega)]
    have e : fs.length - 1 - k = as.length - 1 - k := by omega
    rw [e]
    exact hf
def TI (m : Nat) (fs : List Fr) (mk : List (Key × Val)) (S : Store) (k : Nat) (env : Env) (S' : Store) : Prop :=
  ∃ g e2, env = [some (.obj m), some (ov g), e2] ∧ S = S' ∧ go (mkf mk) g ((FS fs).reverse.drop k) = goal (mkf mk) (FS fs)
/-- target -/
theorem sp30 (h : MS S m fr nd md as fs mk sig want fresh en) : (run T D (n + 2) 30 [.obj m] S).wp (fun v S' => v = ov (goal (mkf mk) (FS fs)) ∧ S = S') noX := by
  rw [r30]
  simp [b30, b30_3, h.g11]
  refine wp_for (TI m fs mk S) (as.map Val.obj).reverse (walk_rv h.hfr) (by simp) ⟨none, none, rfl, rfl, rfl⟩ (fun k env S' ⟨_, _, _, e, _⟩ => e ▸ at_rv h.hfr k) ?_ ?_
  · rintro k x env S2 hx ⟨g, e2, rfl, rfl, hg⟩
    obtain ⟨a, f, rfl, hf, hob, ok⟩ := h.at hx
    refine ⟨_, by simp [tgt]; rfl, ?_⟩
    have hF : (FS fs).reverse[k]? = some (f.sc, f.hd) := by unfold FS; rw [← List.map_reverse, List.getElem?_map, hf]; rfl
    rw [drop_at hF, go_cons] at hg
    simp [b30_2, Fr.g2 ok hob, h.g13, mem_mk h.hmd]
    obtain ⟨i, hi, hr⟩ := Fr.hides ok hob
    have fin : (ex T (run T D (n + 1)) b30_1 [some (.obj m), some (ov (nx1 mk g f.sc)), some (.obj a)] S).wp { nx := TI m fs mk S (k + 1), rt := fun v S' => v = ov (goal (mkf mk) (FS fs)) ∧ S = S', bk := fun e S_1 => (Res.ofO (e[1]?.getD none) S_1).wp (fun v S' => v = ov (goal (mkf mk) (FS fs)) ∧ S = S') fun e S => noX e S, ct := TI m fs mk S (k + 1), ex := fun x x_1 S => noX x S } := by
      simp [b30_1, hi]
      refine (hr n).then ?_
      rintro _ _ ⟨rfl, rfl⟩
      cases hd : f.hd
      · rw [hd] at hg
        simp at hg
        simp
        exact ⟨_, _, rfl, rfl, hg⟩
      · rw [hd] at hg
        simp at hg
        simp [hg]
    refine ⟨fun e => ?_, fun e => ?_⟩
    · have : nx1 mk g f.sc = f.sc := by simp [nx1, e]
      rw [this] at fin
      exact fin
    · have : nx1 mk g f.sc = g := by simp [nx1, e]
      rw [this] at fin
      exact fin
  · rintro env S2 ⟨g, e2, rfl, rfl, hg⟩
    have al := h.al
    have : (FS fs).reverse.drop (as.map Val.obj).reverse.length = [] := by simp [FS]; omega
    rw [this] at hg
    simp [go] at hg
    simp [hg]
theorem zip_map {α β : Type} : ∀ {xs : List α} {ys : List β}, xs.length = ys.length → (xs.zip ys).map Prod.fst = xs ∧ (xs.zip ys).map Prod.snd = ys
  | [], [], _ => ⟨rfl, rfl⟩
  | x :: xs, y :: ys, h => by
    have ⟨a, b⟩ := zip_map (xs := xs) (ys := ys) (by simpa using h)
    simp [a, b]
theorem zip_at {α β : Type} {xs : List α} {ys : List β} {p : α × β} (h : p ∈ xs.zip ys) : ∃ i : Nat, xs[i]? = some p.1 ∧ ys[i]? = some p.2 := by
  obtain ⟨i, hi⟩ := List.getElem?_of_mem h
  exact ⟨i, by rw [List.getElem?_zip_eq_some] at hi; exact hi⟩
def scs (F : List (Option Int × Bool)) : List (Option Int) := F.map (·.1)
/-- scopes -/
theorem sp31 (h : MS S m fr nd md as fs mk sig want fresh en) : (run T D (n + 1) 31 [.obj m] S).wp (fun v S' => ∃ q, v = .obj q ∧ Le S S' ∧ S.length ≤ q ∧ S'[q]? = some (.lst false (((scs (FS fs)).filterMap id).map .int))) noX := by
  rw [r31]
  simp [b31, h.g11]
  obtain ⟨z1, z2⟩ := zip_map h.al
  have al := h.al
  have fll := h.fl
  have hxs : ((as.zip fs).map fun p => Val.obj p.1) = as.map .obj := by
    conv => rhs; rw [← z1]
    rw [List.map_map]; rfl
  refine wp_comp (as.zip fs) (fun p => .obj p.1) (fun p => p.2.sc.map .int) (walk_lst h.hfr) (by simp; omega) (by rw [lineq]; simp; omega) (fun S' k l => by simp [walkAt, lst?, l _ _ h.hfr, hxs]) ?_ ?_
  · intro p hp S1 l1
    obtain ⟨i, h1, h2⟩ := zip_at hp
    have ob := l1 _ _ (h.fo _ _ _ h1 h2)
    have ok := h.ok _ (List.mem_of_getElem? h2)
    simp [compT, tgt, setAll, Fr.g2 ok ob]
    cases hs : p.2.sc
    · simp [ov, isNon, xorB, ifV_false, Le.refl]
    · simp [ov, isNon, xorB, ifV_true, Le.refl]
  · intro S1 l1 e1
    refine ⟨_, rfl, l1, Nat.le_refl _, ?_⟩
    rw [e1]
    congr 2
    have : (scs (FS fs)) = (as.zip fs).map fun p => p.2.sc := by
      conv => lhs; rw [← z2]
      simp [scs, FS, List.map_map]
    rw [this, List.filterMap_map, ← List.filterMap_eq_map, List.filterMap_filterMap]
    congr 1
    funext p
    cases hs : p.2.sc <;> simp [hs]
end
end Nw.k54

set_option Elab.async false
set_option linter.all false
set_option maxRecDepth 100000
set_option maxHeartbeats 4000000
namespace Nw.k54
open PySem L2 Nw
theorem wp_ite_of {G : Tab} {ft : Fns} {env : Env} {S : Store} {Q : Po} {c : PyE} {a b : PyS} (R : Bool → Store → Prop) (hc : (ev G ft c env S).wp (fun v S1 => ∃ t, v = .bl t ∧ R t S1) (fun e S => Q.ex e env S)) (h1 : ∀ S1, R true S1 → (ex G ft a env S1).wp Q) (h2 : ∀ S1, R false S1 → (ex G ft b env S1).wp Q) : (ex G ft (.ite c a b) env S).wp Q := by
  rw [ex_ite, wp_out]
  refine hc.mono ?_ fun _ _ z => z
  rintro v S1 ⟨t, rfl, q⟩
  rw [wp_ifS]
  exact ⟨fun e => h1 S1 (e ▸ q), fun e => h2 S1 (e ▸ q)⟩
def inF (s : Int) (F : List (Option Int × Bool)) : Bool := (scs F).any fun o => decide (o = some s)
def mkN (F : List (Option Int × Bool)) (mk : List (Key × Val)) (s : Int) (w : Str) : List (Key × Val) := if inF s F && !mkf mk s then put mk (.inl s) (.str w) else mk
def waitV : Val := .tup [.str (Str.ofString "wait"), .int 90, .int 5]
def hearV : Val := .tup [.str (Str.ofString "hear"), .int 91, .str (Str.ofString "bell")]
section
variable {S S' : Store} {m fr nd md n q : Nat} {as : List Nat} {fs : List Fr} {mk : List (Key × Val)} {sig want v : Val} {en : En} {fresh s : Int} {w : Str} {F : List (Option Int × Bool)}
theorem flats_ov : ∀ {L : List (Option Int)}, (L.map ov).all flat = true
  | [] => rfl
  | o :: L => by rw [List.map_cons, List.all_cons, flats_ov]; simp
theorem mem_scs {l : Bool} (h : S[q]? = some (.lst l ((scs F).map ov))) : memV S (.int s) (.obj q) = some (inF s F) := by
  have h1 : flat (.int s) = true := rfl
  have h2 := @flats_ov (scs F)
  simp only [memV, h]
  rw [if_pos (by rw [h1, h2]; rfl)]
  have : ∀ L : List (Option Int), ((L.map ov).any fun y => eqF y (.int s)) = L.any fun o => decide (o = some s) := by
    intro L
    induction L with
    | nil => rfl
    | cons o L ih =>
      rw [List.map_cons, List.any_cons, List.any_cons, ih, show Val.int s = ov (some s) from rfl, eqF_ov]
  rw [this]; rfl
theorem MS.setM (h : MS S m fr nd md as fs mk sig want fresh en) {mk' : List (Key × Val)} (hl : mk'.length ≤ 100) : MS (S.set md (.dK false mk')) m fr nd md as fs mk' sig want fresh en ∧ Ky fr md S (S.set md (.dK false mk')) := by
  refine ⟨⟨set_ne h.ob (ne_ob h.ob h.hmd (by simp)), set_ne h.hfr (ne_ob h.hfr h.hmd (by simp)), set_ne h.hnd h.ne, set_eq h.hmd, h.ne, h.al, fun i a f e1 e2 => set_ne (h.fo i a f e1 e2) (ne_ob (h.fo i a f e1 e2) h.hmd (by simp [Fr.ob, fO])), h.ok, h.nu, h.am, h.fl, hl⟩, ⟨fun i o e _ _ a => set_ne e a, by simp⟩⟩
theorem lim_put {mk : List (Key × Val)} {k : Key} {v : Val} (h : mk.length < 100) : (put mk k v).length ≤ 100 := by have := @put_len _ _ mk k v; omega
/-- waiting -/
theorem sp32 (h : MS S m fr nd md as fs mk sig want fresh en) : (run T D (n + 1) 32 [.obj m] S).wp (fun v S' => v = want ∧ S = S') noX := by
  rw [r32]; simp [b32, h.g15]
theorem isNon_ov {o : Option Int} : isNon (ov o) = o.isNone := by cases o <;> rfl
end
end Nw.k54

set_option Elab.async false
set_option linter.all false
set_option maxRecDepth 100000
set_option maxHeartbeats 4000000
namespace Nw.k54
open PySem L2 Nw
/-! ## frames made -/
section
variable {S S' : Store} {n c k : Nat} {fs : List (Nat × Val)} {rows : List Val} {ln : Int} {sc : Val} {u : Val} {env : Env}
theorem set_last {S : Store} {x y : Obj} : (S ++ [x]).set S.length y = S ++ [y] := by simp [List.set_append]
theorem sfl (hf : T.isF c k = true) (hl : fs.length < 1000) : setFV T k env u (.obj S.length) (S ++ [.ins c fs]) = .nx env (S ++ [.ins c (fput k u fs)]) := by
  simp [setFV, hf, hl, set_last]
structure CF (c : Nat) : Prop where
  f0 : T.isF c 0 = true
  f1 : T.isF c 1 = true
  f2 : T.isF c 2 = true
  f3 : T.isF c 3 = true
theorem cf (h : c ≤ 6) : CF c := by
  have : c = 0 ∨ c = 1 ∨ c = 2 ∨ c = 3 ∨ c = 4 ∨ c = 5 ∨ c = 6 := by omega
  rcases this with rfl | rfl | rfl | rfl | rfl | rfl | rfl <;> exact ⟨rfl, rfl, rfl, rfl⟩
def bas (rows : List Val) (ln : Int) (sc : Val) : List (Nat × Val) := [(0, .tup rows), (1, .int ln), (2, sc), (3, .int 0)]
theorem sp1 (h : c ≤ 6) : (run T D (n + 1) 1 [.obj S.length, .tup rows, .int ln, sc] (S ++ [.ins c []])).wp (fun v S' => v = .non ∧ S' = S ++ [.ins c (bas rows ln sc)]) noX := by
  rw [r1]
  have C := cf h
  simp [b1, sfl C.f0, fput]
  simp [b1_2, sfl C.f1, fput]
  simp [b1_1, sfl C.f2, sfl C.f3, fput]
  rfl
theorem sp7 : (run T D (n + 2) 7 [.obj S.length, .tup rows, .int ln, .int 1] (S ++ [.ins 1 []])).wp (fun v S' => v = .non ∧ S' = S ++ [.ins 1 (bas rows ln .non ++ [(4, .int 0)])]) noX := by
  rw [r7]
  simp [b7]
  refine (sp1 (by omega)).then ?_
  rintro _ _ ⟨rfl, rfl⟩
  simp [sfl (c := 1) (k := 4) rfl, bas, fput]
theorem sp11 {f : Str} {o : List Val} : (run T D (n + 2) 11 [.obj S.length, .tup rows, .int ln, .str f, .tup o] (S ++ [.ins 3 []])).wp (fun v S' => v = .non ∧ S' = S ++ [.ins 3 (bas rows ln .non ++ [(5, .str f), (6, .tup o)])]) noX := by
  rw [r11]
  simp [b11]
  refine (sp1 (by omega)).then ?_
  rintro _ _ ⟨rfl, rfl⟩
  simp [b11_1, sfl (c := 3) (k := 5) rfl, sfl (c := 3) (k := 6) rfl, bas, fput]
theorem sp14 {o : List Val} : (run T D (n + 2) 14 [.obj S.length, .tup rows, .int ln, .tup o] (S ++ [.ins 4 []])).wp (fun v S' => v = .non ∧ S' = S ++ [.ins 4 (bas rows ln .non ++ [(6, .tup o), (7, .bl false), (8, .non)])]) noX := by
  rw [r14]
  simp [b14]
  refine (sp1 (by omega)).then ?_
  rintro _ _ ⟨rfl, rfl⟩
  simp [b14_2, b14_1, sfl (c := 4) (k := 6) rfl, sfl (c := 4) (k := 7) rfl, sfl (c := 4) (k := 8) rfl, bas, fput]
theorem sp20 {s : Int} {o : List Val} : (run T D (n + 2) 20 [.obj S.length, .tup rows, .int ln, .int s, .tup o] (S ++ [.ins 5 []])).wp (fun v S' => v = .non ∧ S' = S ++ [.ins 5 (bas rows ln (.int s) ++ [(6, .tup o)])]) noX := by
  rw [r20]
  simp [b20]
  refine (sp1 (by omega)).then ?_
  rintro _ _ ⟨rfl, rfl⟩
  simp [sfl (c := 5) (k := 6) rfl, bas, fput]
theorem sp23 {s : Int} {o : Str} : (run T D (n + 2) 23 [.obj S.length, .tup rows, .int ln, .int s, .str o] (S ++ [.ins 6 []])).wp (fun v S' => v = .non ∧ S' = S ++ [.ins 6 (bas rows ln (.int s) ++ [(9, .str o), (8, .non), (10, .non)])]) noX := by
  rw [r23]
  simp [b23]
  refine (sp1 (by omega)).then ?_
  rintro _ _ ⟨rfl, rfl⟩
  simp [b23_2, b23_1, sfl (c := 6) (k := 9) rfl, sfl (c := 6) (k := 8) rfl, sfl (c := 6) (k := 10) rfl, bas, fput]
end
section
variable {S S' : Store} {m fr nd md n q a : Nat} {as : List Nat} {fs : List Fr} {mk : List (Key × Val)} {sig want v : Val} {en : En} {fresh s : Int} {f g : Fr}
/-- the innermost one -/
theorem MS.last (h : MS S m fr nd md (as ++ [a]) (fs ++ [f]) mk sig want fresh en) : ixV S (.obj fr) (.int (-1)) = some (.obj a) ∧ S[a]? = some f.ob ∧ f.Ok := by
  have al := h.al
  simp at al
  refine ⟨?_, h.fo as.length a f (by simp) (by rw [al]; simp), h.ok f (by simp)⟩
  rw [seqI h.hfr, List.map_append, List.map_cons, List.map_nil, atI_neg (by omega) (by simp; omega)]
  have : (-1 + ((List.map Val.obj as ++ [Val.obj a]).length : Int)).toNat = (as.map Val.obj).length := by simp; omega
  rw [this]
  simp
theorem MS.setL (h : MS S m fr nd md (as ++ [a]) (fs ++ [f]) mk sig want fresh en) (ok : g.Ok) : MS (S.set a g.ob) m fr nd md (as ++ [a]) (fs ++ [g]) mk sig want fresh en ∧ Ky fr md S (S.set a g.ob) := by
  obtain ⟨_, ha, _⟩ := h.last
  have hi : ∀ {i : Nat} {o : Obj}, S[i]? = some o → (∀ c fs, o ≠ .ins c fs) → i ≠ a := fun e no => ne_ob e ha (by simpa [Fr.ob, fO] using no _ _)
  have al := h.al
  simp at al
  have hm : m ≠ a := (h.am a (by simp)).symm
  refine ⟨⟨set_ne h.ob hm, set_ne h.hfr (hi h.hfr (by simp)), set_ne h.hnd (hi h.hnd (by simp)), set_ne h.hmd (hi h.hmd (by simp)), h.ne, by simp [al], fun i x y e1 e2 => ?_, fun y hy => ?_, h.nu, h.am, by have := h.fl; simpa using this, h.ml⟩, ⟨fun i o e no _ _ => set_ne e (hi e no), by simp⟩⟩
  · by_cases hl : i < as.length
    · rw [List.getElem?_append_left hl] at e1
      rw [List.getElem?_append_left (by omega)] at e2
      have ne : x ≠ a := by
        rintro rfl
        have := (List.nodup_append.mp h.nu).2.2 x (List.mem_of_getElem? e1) x (by simp)
        exact this rfl
      exact set_ne (h.fo i x y (by rw [List.getElem?_append_left hl]; exact e1) (by rw [List.getElem?_append_left (by omega)]; exact e2)) ne
    · have e : i = as.length := by
        have := (List.getElem?_eq_some_iff.mp e1).1
        simp at this; omega
      subst e
      simp at e1
      rw [al] at e2
      simp at e2
      subst e1 e2
      exact set_eq ha
  · rcases List.mem_append.mp hy with hy | hy
    · exact h.ok y (by simp [hy])
    · simp at hy; subst hy; exact ok
/-- one more -/
theorem MS.push (h : MS S m fr nd md as fs mk sig want fresh en) (ok : g.Ok) (hl : fs.length ≤ 8) :
    appV (S ++ [g.ob]) (.obj fr) [.obj S.length] = .ok .non ((S ++ [g.ob]).set fr (.lst false (as.map .obj ++ [.obj S.length]))) ∧
    MS ((S ++ [g.ob]).set fr (.lst false (as.map .obj ++ [.obj S.length]))) m fr nd md (as ++ [S.length]) (fs ++ [g]) mk sig want fresh en ∧ Ky fr md S ((S ++ [g.ob]).set fr (.lst false (as.map .obj ++ [.obj S.length]))) := by
  have l := Le.app S [g.ob]
  have e := at_end S g.ob
  have h1 := h.le l
  have al := h.al
  have neF : ∀ {i : Nat} {o : Obj}, (S ++ [g.ob])[i]? = some o → (∀ xs, o ≠ .lst false xs) → i ≠ fr := fun e no => ne_ob e h1.hfr (no _)
  have old : ∀ x ∈ as, x < S.length := fun x hx => by
    obtain ⟨i, hi⟩ := List.getElem?_of_mem hx
    have : i < fs.length := by have := (List.getElem?_eq_some_iff.mp hi).1; omega
    exact lt_ob (h.fo i x _ hi (List.getElem?_eq_getElem this))
  refine ⟨app_ok h1.hfr (by rw [lineq]; simp; omega), ⟨set_ne h1.ob (neF h1.ob (by simp)), by rw [set_eq h1.hfr]; simp, set_ne h1.hnd (neF h1.hnd (by simp)), set_ne h1.hmd (neF h1.hmd (by simp)), h.ne, by simp [al], fun i x y e1 e2 => ?_, fun y hy => ?_, ?_, fun x hx => ?_, by simp; omega, h.ml⟩, ⟨fun i o eo _ nf _ => set_ne (l _ _ eo) nf, by simp⟩⟩
  · by_cases hl : i < as.length
    · rw [List.getElem?_append_left hl] at e1
      rw [List.getElem?_append_left (by omega)] at e2
      exact set_ne (h1.fo i x y e1 e2) (neF (h1.fo i x y e1 e2) (by simp [Fr.ob, fO]))
    · have ei : i = as.length := by
        have := (List.getElem?_eq_some_iff.mp e1).1
        simp at this; omega
      subst ei
      simp at e1
      rw [al] at e2
      simp at e2
      subst e1 e2
      exact set_ne e (neF e (by simp [Fr.ob, fO]))
  · rcases List.mem_append.mp hy with hy | hy
    · exact h.ok y hy
    · simp at hy; subst hy; exact ok
  · rw [List.nodup_append]
    refine ⟨h.nu, by simp, fun x hx y hy => ?_⟩
    simp at hy
    have := old x hx
    omega
  · rcases List.mem_append.mp hx with hx | hx
    · exact h.am x hx
    · simp at hx
      have := lt_ob h.ob
      omega
end
end Nw.k54

set_option Elab.async false
set_option linter.all false
set_option maxRecDepth 100000
set_option maxHeartbeats 4000000
namespace Nw.k54
open PySem L2 Nw
def due (b : Blk) (f : Int) : Val := match b.kd with
  | .group => .tup [.str (Str.ofString "group"), .int b.ln, .int f]
  | .limit => .tup [.str (Str.ofString "limit"), .int b.ln, .int f, .int (1 + b.pk % 99)]
  | _ => .tup [.str (Str.ofString "did"), .int b.ln]
theorem tix {S : Store} {xs : List Val} {k : Nat} {y : Val} (e : xs[k]? = some y) : ixV S (.tup xs) (.int (k : Int)) = some y := by
  rw [tupI, atI_pos (by omega)]; simpa using e
theorem tix0 {S : Store} {x : Val} {xs : List Val} : ixV S (.tup (x :: xs)) (.int 0) = some x := tix (k := 0) rfl
theorem tix1 {S : Store} {x y : Val} {xs : List Val} : ixV S (.tup (x :: y :: xs)) (.int 1) = some y := tix (k := 1) rfl
theorem tix2 {S : Store} {x y z : Val} {xs : List Val} : ixV S (.tup (x :: y :: z :: xs)) (.int 2) = some z := tix (k := 2) rfl
theorem tix3 {S : Store} {x y z u : Val} {xs : List Val} : ixV S (.tup (x :: y :: z :: u :: xs)) (.int 3) = some u := tix (k := 3) rfl
theorem tix4 {S : Store} {x y z u t : Val} {xs : List Val} : ixV S (.tup (x :: y :: z :: u :: t :: xs)) (.int 4) = some t := tix (k := 4) rfl
theorem sw_x : Txt.startswith (Str.ofString "x") (Str.ofString ":") = false := by decide +kernel
theorem get2 {S : Store} {d : Nat} {kv : List (Key × Val)} {s : Str} {u : Val} {P : Val → Store → Prop} {E : Exn → Store → Prop} (h : S[d]? = some (.dK false kv)) (hP : P ((look kv (.inr s)).getD u) S) : (optR (bmGo .get2 S (.obj d)) fun k => bmV .get2 k S (.obj d) [.str s, u]).wp P E := by
  have hk : kdOf S (.obj d) = some .dict := by simp [kdOf, h]
  simp [bmGo, hk, bmK, bmV, bmV0, get2V, getV, h]
  cases e : look kv (.inr s) with
  | none => rw [e] at hP; simpa using hP
  | some w => rw [e] at hP; simpa using hP
theorem st_ok {S : Store} {a b : Str} {P : Val → Store → Prop} {E : Exn → Store → Prop} (hP : P (.bl (Txt.startswith a b)) S) : (optR (bmGo .startswith S (.str a)) fun k => bmV .startswith k S (.str a) [.str b]).wp P E := by
  have hk : kdOf S (.str a) = some .str := rfl
  simp [bmGo, hk, bmK, bmV, bmV0, startsV]
  exact hP
section
variable {S S' : Store} {m fr nd md n q a : Nat} {as : List Nat} {fs : List Fr} {mk : List (Key × Val)} {sig want v : Val} {en : En} {fresh s : Int} {f g : Fr} {b : Blk} {rows : List Val}
/-- value_of, of a number and of the name x -/
theorem sp27i {i : Int} : (run T D (n + 1) 27 [.obj m, .int i] S).wp (fun u S' => u = .int i ∧ S = S') noX := by
  rw [r27]
  simp [b27, biV, isi1V, isiV, ifV_true]
theorem sp27x (h : MS S m fr nd md as fs mk sig want fresh en) : (run T D (n + 1) 27 [.obj m, .str (Str.ofString "x")] S).wp (fun u S' => u = .int 0 ∧ S = S') noX := by
  rw [r27]
  simp [b27, biV, isi1V, isiV, ifV_false]
  refine st_ok ?_
  simp [sw_x, h.g12]
  exact get2 h.hnd (by simp [look])
def EP (S : Store) (m fr nd md : Nat) (as : List Nat) (fs : List Fr) (mk : List (Key × Val)) (sig want : Val) (fresh : Int) (en : En) (b : Blk) (rows : List Val) (v : Val) (S' : Store) : Prop :=
  v = due b fresh ∧ (∃ x, MS S' m fr nd md (as ++ [x]) (fs ++ [frOf b rows fresh 0]) mk sig want (nxf fresh b) en) ∧ Ky fr md S S'
theorem newV_non {x : Val} {S : Store} : newV x .non S = .ok x S := rfl
theorem MS.kd (h : MS S m fr nd md as fs mk sig want fresh en) : kdOf S (.obj fr) = some .list := by simp [kdOf, h.hfr]
theorem ob_eq {rows : List Val} {f : Int} : (frOf b rows f 0).ob = .ins (cls b.kd) (bas rows b.ln (ov (scof f b)) ++ ext b) := rfl
/-- entered -/
theorem sp48 (h : MS S m fr nd md as fs mk sig want fresh en) (hl : fs.length ≤ 8) : (run T D (n + 3) 48 [.obj m, rowOf b rows] S).wp (EP S m fr nd md as fs mk sig want fresh en b rows) noX := by
  rw [r48]
  obtain ⟨kd, ln, pk⟩ := b
  have pushed : ∀ {S : Store} {fresh : Int}, MS S m fr nd md as fs mk sig want fresh en → ∀ g : Fr, g.Ok → kdOf (S ++ [g.ob]) (.obj fr) = some .list := fun h g _ => by
    have := (h.le (Le.app _ [g.ob])).hfr
    simp [kdOf, this]
  cases kd
  · -- group
    obtain ⟨h1, k1⟩ := h.set sig want (fresh + 1) en
    have ha : augF1 T 18 (.obj m) S = some (m, 7, .int fresh) := by
      have : T.isF 7 18 = true := by decide
      simp [augF1, h.ob, this, mF, fget]
    have hb : ∀ env : Env, augF2 18 env m 7 (.int (fresh + 1)) S = .nx env (S.set m (.ins 7 (mF fr nd md sig want (fresh + 1) en))) := fun env => by simp [augF2, h.ob, mF, fput]
    simp [b48, rowOf, tix0, b48_6, tix1, b48_5, mem2, lineq, h.g18, b48_3, ha, augV, iaddV, hb]
    generalize S.set m (.ins 7 (mF fr nd md sig want (fresh + 1) en)) = S1 at h1 k1
    simp [b48_2, h1.g11, bmGo, h1.kd, bmK, tix2, tix3]
    refine (sp23 (S := S1)).then ?_
    rintro _ S2 ⟨rfl, rfl⟩
    obtain ⟨p1, p2, p3⟩ := h1.push (g := frOf ⟨.group, ln, pk⟩ rows fresh 0) frOf_ok hl
    have hkd := pushed h1 (frOf ⟨.group, ln, pk⟩ rows fresh 0) frOf_ok
    have he : (frOf ⟨.group, ln, pk⟩ rows fresh 0).ob = .ins 6 (bas rows ln (.int fresh) ++ [(9, .str (gname ⟨.group, ln, pk⟩)), (8, .non), (10, .non)]) := rfl
    rw [he] at p1 p2 p3 hkd
    simp [newV_non, bmV, hkd, bmV0, p1, lineq]
    exact ⟨rfl, ⟨_, p2⟩, k1.trans p3⟩
  · -- limit
    obtain ⟨h1, k1⟩ := h.set sig want (fresh + 1) en
    have ha : augF1 T 18 (.obj m) S = some (m, 7, .int fresh) := by
      have : T.isF 7 18 = true := by decide
      simp [augF1, h.ob, this, mF, fget]
    have hb : ∀ env : Env, augF2 18 env m 7 (.int (fresh + 1)) S = .nx env (S.set m (.ins 7 (mF fr nd md sig want (fresh + 1) en))) := fun env => by simp [augF2, h.ob, mF, fput]
    simp [b48, rowOf, tix0, b48_6, tix1, b48_5, mem2, lineq, h.g18, b48_3, ha, augV, iaddV, hb]
    generalize S.set m (.ins 7 (mF fr nd md sig want (fresh + 1) en)) = S1 at h1 k1
    simp [b48_2, b48_1, h1.g11, bmGo, h1.kd, bmK, tix2, tix3, tix4]
    refine (sp20 (S := S1)).then ?_
    rintro _ S2 ⟨rfl, rfl⟩
    obtain ⟨p1, p2, p3⟩ := h1.push (g := frOf ⟨.limit, ln, pk⟩ rows fresh 0) frOf_ok hl
    have hkd := pushed h1 (frOf ⟨.limit, ln, pk⟩ rows fresh 0) frOf_ok
    have he : (frOf ⟨.limit, ln, pk⟩ rows fresh 0).ob = .ins 5 (bas rows ln (.int fresh) ++ [(6, .tup (lateR ⟨.limit, ln, pk⟩))]) := rfl
    rw [he] at p1 p2 p3 hkd
    simp [newV_non, bmV, hkd, bmV0, p1, lineq, tix2]
    exact ⟨rfl, ⟨_, p2⟩, k1.trans p3⟩
  · -- keep
    simp [b48, rowOf, tix0, b48_6, tix1, b48_5, mem2, lineq, b48_4, h.g11, bmGo, h.kd, bmK, tix2, tix3]
    refine (sp1 (S := S) (c := 2) (by omega)).then ?_
    rintro _ S2 ⟨rfl, rfl⟩
    obtain ⟨p1, p2, p3⟩ := h.push (g := frOf ⟨.keep, ln, pk⟩ rows fresh 0) frOf_ok hl
    have hkd := pushed h (frOf ⟨.keep, ln, pk⟩ rows fresh 0) frOf_ok
    have he : (frOf ⟨.keep, ln, pk⟩ rows fresh 0).ob = .ins 2 (bas rows ln .non) := rfl
    rw [he] at p1 p2 p3 hkd
    simp [newV_non, bmV, hkd, bmV0, p1, lineq]
    exact ⟨rfl, ⟨_, p2⟩, p3⟩
  · -- try
    simp [b48, rowOf, tix0, b48_6, tix1, b48_5, mem2, lineq, b48_4, h.g11, bmGo, h.kd, bmK, tix2, tix3, tix4]
    refine (sp11 (S := S)).then ?_
    rintro _ S2 ⟨rfl, rfl⟩
    obtain ⟨p1, p2, p3⟩ := h.push (g := frOf ⟨.try_, ln, pk⟩ rows fresh 0) frOf_ok hl
    have hkd := pushed h (frOf ⟨.try_, ln, pk⟩ rows fresh 0) frOf_ok
    have he : (frOf ⟨.try_, ln, pk⟩ rows fresh 0).ob = .ins 3 (bas rows ln .non ++ [(5, .str (flt ⟨.try_, ln, pk⟩)), (6, .tup [ringV (100 + ln) "caught"])]) := rfl
    rw [he] at p1 p2 p3 hkd
    simp [newV_non, bmV, hkd, bmV0, p1, lineq]
    exact ⟨rfl, ⟨_, p2⟩, p3⟩
  · -- do
    simp [b48, rowOf, tix0, b48_6, tix1, b48_5, mem2, lineq, b48_4, h.g11, bmGo, h.kd, bmK, tix2, tix3, tix4]
    refine (sp14 (S := S)).then ?_
    rintro _ S2 ⟨rfl, rfl⟩
    obtain ⟨p1, p2, p3⟩ := h.push (g := frOf ⟨.do_, ln, pk⟩ rows fresh 0) frOf_ok hl
    have hkd := pushed h (frOf ⟨.do_, ln, pk⟩ rows fresh 0) frOf_ok
    have he : (frOf ⟨.do_, ln, pk⟩ rows fresh 0).ob = .ins 4 (bas rows ln .non ++ [(6, .tup [ringV (100 + ln) "clean"]), (7, .bl false), (8, .non)]) := rfl
    rw [he] at p1 p2 p3 hkd
    simp [newV_non, bmV, hkd, bmV0, p1, lineq]
    exact ⟨rfl, ⟨_, p2⟩, p3⟩
  · -- when
    simp [b48, rowOf, tix0, b48_6, tix1, b48_5, mem2, lineq, b48_4, tix2, tix3, tix4, h.mm (k := 33) (x := (27, [])) rfl rfl]
    refine (sp27x h).then ?_
    rintro _ _ ⟨rfl, rfl⟩
    simp [h.mm (k := 33) (x := (27, [])) rfl rfl]
    refine sp27i.then ?_
    rintro _ _ ⟨rfl, rfl⟩
    simp [h.g11, bmGo, h.kd, bmK, tix4]
    refine (sp1 (S := S) (c := 0) (by omega)).then ?_
    rintro _ S2 ⟨rfl, rfl⟩
    obtain ⟨p1, p2, p3⟩ := h.push (g := frOf ⟨.when, ln, pk⟩ rows fresh 0) frOf_ok hl
    have hkd := pushed h (frOf ⟨.when, ln, pk⟩ rows fresh 0) frOf_ok
    have he : (frOf ⟨.when, ln, pk⟩ rows fresh 0).ob = .ins 0 (bas rows ln .non) := rfl
    rw [he] at p1 p2 p3 hkd
    simp [newV_non, bmV, hkd, bmV0, p1, lineq]
    exact ⟨rfl, ⟨_, p2⟩, p3⟩
  · -- repeat
    simp [b48, rowOf, tix0, b48_6, tix1, b48_5, mem2, lineq, b48_4, h.g11, bmGo, h.kd, bmK, tix2, tix3, tix4]
    refine (sp7 (S := S)).then ?_
    rintro _ S2 ⟨rfl, rfl⟩
    obtain ⟨p1, p2, p3⟩ := h.push (g := frOf ⟨.rep, ln, pk⟩ rows fresh 0) frOf_ok hl
    have hkd := pushed h (frOf ⟨.rep, ln, pk⟩ rows fresh 0) frOf_ok
    have he : (frOf ⟨.rep, ln, pk⟩ rows fresh 0).ob = .ins 1 (bas rows ln .non ++ [(4, .int 0)]) := rfl
    rw [he] at p1 p2 p3 hkd
    simp [newV_non, bmV, hkd, bmV0, p1, lineq]
    exact ⟨rfl, ⟨_, p2⟩, p3⟩
end
end Nw.k54

set_option Elab.async false
set_option linter.all false
set_option maxRecDepth 100000
set_option maxHeartbeats 4000000
namespace Nw.k54
open PySem L2 Nw
def strikeV (g : Int) : Val := .tup [.str (Str.ofString "strike"), .int g]
section
variable {S S' : Store} {m fr nd md n q a : Nat} {as : List Nat} {fs : List Fr} {mk : List (Key × Val)} {sig want v x : Val} {en : En} {fresh s : Int} {f g : Fr} {b : Blk} {rows : List Val} {Q : Po}
/-- done: a block -/
theorem sp46b (h : MS S m fr nd md as fs mk sig want fresh en) (hl : fs.length ≤ 8) : (run T D (n + 4) 46 [.obj m, rowOf b rows] S).wp (EP S m fr nd md as fs mk sig want fresh en b rows) noX := by
  rw [r46]
  have e := @sp48 S m fr nd md n as fs mk sig want en fresh b rows h hl
  obtain ⟨kd, ln, pk⟩ := b
  cases kd <;>
  · simp only [rowOf] at e ⊢
    simp [b46, tix0, b46_8, tix1, b46_7, flat, eqF, xorB, b46_6, b46_5, b46_4, b46_3, b46_2, b46_1, h.mm (k := 35) (x := (48, [])) rfl rfl]
    exact e
def WP (S : Store) (m fr nd md : Nat) (as : List Nat) (fs : List Fr) (mk : List (Key × Val)) (want : Val) (fresh : Int) (en : En) (row v : Val) (S' : Store) : Prop :=
  (goal (mkf mk) (FS fs) = none ∧ v = row ∧ S = S') ∨ ∃ g, goal (mkf mk) (FS fs) = some g ∧ v = .non ∧ MS S' m fr nd md as fs mk (strikeV g) want fresh en ∧ Ky fr md S S'
/-- waits -/
theorem sp45 (h : MS S m fr nd md as fs mk sig want fresh en) : (run T D (n + 3) 45 [.obj m, x] S).wp (WP S m fr nd md as fs mk want fresh en x) noX := by
  rw [r45]
  simp [b45, h.mm (k := 21) (x := (30, [])) rfl rfl]
  refine (sp30 h).then ?_
  rintro _ _ ⟨rfl, rfl⟩
  cases hg : goal (mkf mk) (FS fs) with
  | none => simp [b45_2, ov, isNon, xorB]; exact .inl ⟨hg, rfl, rfl⟩
  | some g =>
    simp [b45_2, ov, isNon, xorB, b45_1, lineq, h.s14]
    obtain ⟨h1, k1⟩ := h.set (strikeV g) want fresh en
    exact .inr ⟨g, hg, rfl, h1, k1⟩
/-- done: a waiting row -/
theorem sp46w (h : MS S m fr nd md as fs mk sig want fresh en) (hx : x = waitV ∨ x = hearV) : (run T D (n + 4) 46 [.obj m, x] S).wp (WP S m fr nd md as fs mk want fresh en x) noX := by
  rw [r46]
  have e := sp45 (n := n) (x := x) h
  rcases hx with rfl | rfl
  · simp only [waitV] at e ⊢
    simp [b46, tix0, b46_8, tix1, b46_7, flat, eqF, xorB, h.mm (k := 27) (x := (45, [])) rfl rfl]
    exact e
  · simp only [hearV] at e ⊢
    simp [b46, tix0, b46_8, tix1, b46_7, flat, eqF, xorB, h.mm (k := 27) (x := (45, [])) rfl rfl]
    exact e
theorem neg1 {S : Store} : negV (.int 1) S = .ok (.int (-1)) S := rfl
/-- go_on, where there is a row -/
theorem sp42 {P : Val → Store → Prop} (h : MS S m fr nd md (as ++ [a]) (fs ++ [f]) mk sig want fresh en) (hx : f.rows[f.pl]? = some x) (hn : isNon x = false)
    (hd : ∀ S1, MS S1 m fr nd md (as ++ [a]) (fs ++ [{ f with pl := f.pl + 1 }]) mk sig want fresh en → Ky fr md S S1 → (run T D (n + 4) 46 [.obj m, x] S1).wp P noX) : (run T D (n + 5) 42 [.obj m] S).wp P noX := by
  rw [r42]
  obtain ⟨hi, ha, ok⟩ := h.last
  simp [b42, h.g11, neg1, hi, b42_9, Fr.m ha ok.x24 (by omega) ok.m24]
  refine (Fr.next ok ha hx).then ?_
  rintro _ _ ⟨rfl, rfl⟩
  obtain ⟨h1, k1⟩ := h.setL (g := { f with pl := f.pl + 1 }) ⟨ok.f0, ok.f1, ok.f2, ok.f3, ok.m24, ok.x24, ok.x20, ok.x32, ok.x29, ok.m20, ok.xl⟩
  simp [b42_8, hn, xorB, h1.mm (k := 25) (x := (46, [])) rfl rfl]
  exact hd _ h1 k1
/-- the turns of a step -/
theorem step_turns (I : Nat → Store → Prop) (R : Val → Store → Prop) {N : Nat} (hN : N < 1000) (h0 : I N S)
    (turn : ∀ j S1, I j S1 → (ex T (run T D n) b39_1 [some (.obj m), some .non] S1).wp { Q with nx := fun env S2 => ∃ v, env = [some (.obj m), some v] ∧ ((v = .non ∧ ∃ i, j = i + 1 ∧ I i S2) ∨ (isNon v = false ∧ R v S2)), ct := fun _ _ => False, bk := fun _ _ => False })
    (hQ : ∀ v S', isNon v = false → R v S' → Q.nx [some (.obj m), some v] S') : (whlW (ev T (run T D n) (.isN false (.var 1))) (ex T (run T D n) b39_1) whileBound [some (.obj m), some .non] S).wp Q := by
  refine wp_whl (fun k env S' => (env = [some (.obj m), some .non] ∧ ∃ i, k = i + 1 ∧ I i S') ∨ (∃ v, env = [some (.obj m), some v] ∧ isNon v = false ∧ R v S')) (N + 1) (by unfold whileBound; omega) (.inl ⟨rfl, N, rfl, h0⟩) ?_
  rintro k env S1 (⟨rfl, i, rfl, hi⟩ | ⟨v, rfl, hv, hr⟩)
  · have hnn : isNon .non = true := rfl
    simp [hnn, xorB]
    refine .inr ⟨rfl, ?_⟩
    refine (turn i S1 hi).mono ?_ (fun _ _ z => z) (fun _ _ z => z.elim) (fun _ _ z => z.elim) (fun _ _ _ z => z)
    rintro env S2 ⟨v, rfl, (⟨rfl, i', rfl, hi'⟩ | ⟨hv, hr⟩)⟩
    · exact .inl ⟨rfl, i', rfl, hi'⟩
    · exact .inr ⟨v, rfl, hv, hr⟩
  · simp [hv, xorB]
    exact .inl ⟨rfl, hQ v S1 hv hr⟩
/-- step, the struck flag off -/
theorem sp39 (I : Nat → Store → Prop) (R : Val → Store → Prop) {N : Nat} {P : Val → Store → Prop} (h : MS S m fr nd md as fs mk sig want fresh en) (he : en.2 = false) (hN : N < 1000) (h0 : I N S)
    (turn : ∀ j S1, I j S1 → ∀ {Q : Po}, (∀ v S2, ((v = .non ∧ ∃ i, j = i + 1 ∧ I i S2) ∨ (isNon v = false ∧ R v S2)) → Q.nx [some (.obj m), some v] S2) → (ex T (run T D (n + 6)) b39_1 [some (.obj m), some .non] S1).wp Q)
    (fin : ∀ v S', isNon v = false → R v S' → (fin (ex T (run T D (n + 6)) b39_2 [some (.obj m), some v] S')).wp P noX) : (run T D (n + 7) 39 [.obj m] S).wp P noX := by
  rw [r39]
  simp [b39, h.g16, he, ifV_false]
  simp [b39_4]
  simp only [b39_3, ex_seq, wp_seq, ex_whl]
  refine step_turns I R hN h0 (fun j S1 hj => turn j S1 hj fun v S2 hv => ⟨v, rfl, hv⟩) fun v S' hv hr => ?_
  have := fin v S' hv hr
  simpa using this
end
end Nw.k54

set_option Elab.async false
set_option linter.all false
set_option maxRecDepth 100000
set_option maxHeartbeats 4000000
namespace Nw.k54
open PySem L2 Nw
theorem go_none {mk : Int → Bool} (h : ∀ i, mk i = false) : ∀ (F : List (Option Int × Bool)) (g : Option Int), go mk g F = g
  | [], g => rfl
  | (s, hd) :: r, g => by
    have ih := go_none h r g
    cases s with
    | none => simp [go, ih]
    | some i => simp [go, h i, ih]
theorem goal_nil {F : List (Option Int × Bool)} : goal (mkf []) F = none := go_none (fun i => rfl) _ _
section
variable {S S' : Store} {m fr nd md n q a : Nat} {as : List Nat} {fs : List Fr} {mk : List (Key × Val)} {sig want v x : Val} {en : En} {fresh s : Int} {f g : Fr} {b : Blk} {rows : List Val} {Q : Po}
/-- a turn, no signal -/
theorem turn_on {P : Val → Store → Prop} (h : MS S m fr nd md as fs mk .non want fresh en) (hg : (run T D n 42 [.obj m] S).wp P noX) (hQ : ∀ v S2, P v S2 → Q.nx [some (.obj m), some v] S2) : (ex T (run T D n) b39_1 [some (.obj m), some .non] S).wp Q := by
  have hnn : isNon .non = true := rfl
  simp [b39_1, h.g14, hnn, xorB, h.mm (k := 23) (x := (42, [])) rfl rfl]
  refine hg.then ?_
  intro v S2 hv
  exact hQ v S2 hv
theorem due_word {fresh : Int} : ∃ w xs, due b fresh = .tup (.str w :: xs) ∧ (w = Str.ofString "group" ∨ w = Str.ofString "limit" ∨ w = Str.ofString "did") := by
  obtain ⟨kd, ln, pk⟩ := b
  cases kd
  · exact ⟨_, _, rfl, .inl rfl⟩
  · exact ⟨_, _, rfl, .inr (.inl rfl)⟩
  · exact ⟨_, _, rfl, .inr (.inr rfl)⟩
  · exact ⟨_, _, rfl, .inr (.inr rfl)⟩
  · exact ⟨_, _, rfl, .inr (.inr rfl)⟩
  · exact ⟨_, _, rfl, .inr (.inr rfl)⟩
  · exact ⟨_, _, rfl, .inr (.inr rfl)⟩
def SB (S : Store) (m fr nd md : Nat) (as : List Nat) (fs : List Fr) (mk : List (Key × Val)) (fresh : Int) (en : En) (b : Blk) (rows : List Val) (v : Val) (S' : Store) : Prop :=
  v = due b fresh ∧ (∃ x, MS S' m fr nd md (as ++ [x]) (fs ++ [frOf b rows fresh 0]) mk .non .non (nxf fresh b) en) ∧ Ky fr md S S'
/-- step: a block is entered -/
theorem sp39b (h : MS S m fr nd md (as ++ [a]) (fs ++ [f]) mk .non .non fresh en) (he : en.2 = false) (hl : fs.length ≤ 7) (hx : f.rows[f.pl]? = some (rowOf b rows)) : (run T D (n + 7) 39 [.obj m] S).wp (SB S m fr nd md (as ++ [a]) (fs ++ [{ f with pl := f.pl + 1 }]) mk fresh en b rows) noX := by
  have hn : isNon (rowOf b rows) = false := by obtain ⟨kd, ln, pk⟩ := b; cases kd <;> rfl
  refine sp39 (I := fun j S1 => S1 = S) (R := SB S m fr nd md (as ++ [a]) (fs ++ [{ f with pl := f.pl + 1 }]) mk fresh en b rows) (N := 0) h he (by omega) rfl ?_ ?_
  · rintro j S1 rfl Q hQ
    refine turn_on h (sp42 (n := n + 1) h hx hn fun S2 h2 k2 => (sp46b (n := n + 1) h2 (by simpa using hl)).then fun v S3 ⟨e, q1, q2⟩ => ?_) hQ
    · obtain ⟨w, xs, ew, _⟩ := @due_word b fresh
      exact .inr ⟨by rw [e, ew]; rfl, e, q1, k2.trans q2⟩
  · rintro v S2 hv ⟨rfl, ⟨y, h2⟩, k2⟩
    obtain ⟨w, xs, ew, hw⟩ := @due_word b fresh
    have key : (fin (ex T (run T D (n + 6)) b39_2 [some (.obj m), some (.tup (.str w :: xs))] S2)).wp (fun v S' => v = .tup (.str w :: xs) ∧ S2 = S') noX := by
      rcases hw with rfl | rfl | rfl <;> simp [b39_2, tix0, flat, eqF, xorB, mem2, lineq]
    rw [ew]
    refine key.then ?_
    rintro _ _ ⟨rfl, rfl⟩
    exact ⟨ew.symm, ⟨y, h2⟩, k2⟩
def SW (S : Store) (m fr nd md : Nat) (as : List Nat) (fs : List Fr) (mk : List (Key × Val)) (fresh : Int) (en : En) (v : Val) (S' : Store) : Prop :=
  v = waitV ∧ MS S' m fr nd md as fs mk .non waitV fresh en ∧ Ky fr md S S'
/-- step: it waits -/
theorem sp39w (h : MS S m fr nd md (as ++ [a]) (fs ++ [f]) [] .non .non fresh en) (he : en.2 = false) (hx : f.rows[f.pl]? = some waitV) : (run T D (n + 7) 39 [.obj m] S).wp (SW S m fr nd md (as ++ [a]) (fs ++ [{ f with pl := f.pl + 1 }]) [] fresh en) noX := by
  refine sp39 (I := fun j S1 => S1 = S) (R := fun v S' => v = waitV ∧ MS S' m fr nd md (as ++ [a]) (fs ++ [{ f with pl := f.pl + 1 }]) [] .non .non fresh en ∧ Ky fr md S S') (N := 0) h he (by omega) rfl ?_ ?_
  · rintro j S1 rfl Q hQ
    refine turn_on h (sp42 (n := n + 1) h hx rfl fun S2 h2 k2 => (sp46w (n := n + 1) h2 (.inl rfl)).then fun v S3 hv => ?_) hQ
    rcases hv with ⟨hg, rfl, rfl⟩ | ⟨g, hg, _⟩
    · exact .inr ⟨rfl, rfl, h2, k2⟩
    · rw [goal_nil] at hg; cases hg
  · rintro v S2 hv ⟨rfl, h2, k2⟩
    obtain ⟨h3, k3⟩ := h2.set .non waitV fresh en
    have hi : ixV S2 waitV (.int 0) = some (.str (Str.ofString "wait")) := tix0
    simp [b39_2, hi, flat, eqF, xorB, lineq, ifV_true, h2.s15]
    exact ⟨rfl, h3, k2.trans k3⟩
end
end Nw.k54

set_option Elab.async false
set_option linter.all false
set_option maxRecDepth 100000
set_option maxHeartbeats 4000000
namespace Nw.k54
open PySem L2 Nw
/-! ## a signal goes out -/
def mkD (mk : List (Key × Val)) : Option Int → List (Key × Val)
  | some s => if (look mk (.inl s)).isSome then drop mk (.inl s) else mk
  | none => mk
theorem mkD_look {mk : List (Key × Val)} {sc : Option Int} {g : Int} (h : sc ≠ some g) : look (mkD mk sc) (.inl g) = look mk (.inl g) := by
  cases sc with
  | none => rfl
  | some s =>
    have hne : g ≠ s := fun e => h (by rw [e])
    show look (if (look mk (.inl s)).isSome = true then drop mk (.inl s) else mk) _ = _
    split
    · rw [look_drop, if_neg (by simpa using hne)]
    · rfl
def cleanV (b : Blk) : Val := .tup [.str (Str.ofString "clean"), .int b.ln]
def fV (F : List Str) : Val := .tup (F.map .str)
def faultsV (F : List Str) : Val := .tup [.str (Str.ofString "faults"), fV F]
def haltV (b : Blk) (f : Int) (F : List Str) : Val := .tup [.str (Str.ofString "halt"), .int b.ln, .int f, fV F]
def leftV (b : Blk) (f : Int) : Val := .tup [.str (Str.ofString "left"), .int b.ln, .int f]
def caughtV (b : Blk) (F : List Str) : Val := .tup [.str (Str.ofString "caught"), .int b.ln, fV F]
def cleanF (b : Blk) (pl : Nat) (sg : Val) : Fr := ⟨4, [ringV (100 + b.ln) "clean"], b.ln, none, pl, [(6, .tup [ringV (100 + b.ln) "clean"]), (7, .bl true), (8, sg)]⟩
def haltF (b : Blk) (rows : List Val) (f : Int) (nt : Val) : Fr := ⟨6, rows, b.ln, some f, rows.length, [(9, .str (gname b)), (8, .non), (10, nt)]⟩
def caughtF (b : Blk) (pl : Nat) : Fr := ⟨0, [ringV (100 + b.ln) "caught"], b.ln, none, pl, []⟩
theorem cleanF_ok {b : Blk} {pl : Nat} {sg : Val} : (cleanF b pl sg).Ok := ⟨rfl, rfl, rfl, rfl, rfl, rfl, rfl, rfl, rfl, .inr (.inr ⟨rfl, rfl, rfl⟩), by simp [cleanF]⟩
theorem haltF_ok {b : Blk} {rows : List Val} {f : Int} {nt : Val} : (haltF b rows f nt).Ok := ⟨rfl, rfl, rfl, rfl, rfl, rfl, rfl, rfl, rfl, .inl ⟨rfl, rfl⟩, by simp [haltF]⟩
theorem caughtF_ok {b : Blk} {pl : Nat} : (caughtF b pl).Ok := ⟨rfl, rfl, rfl, rfl, rfl, rfl, rfl, rfl, rfl, .inl ⟨rfl, rfl⟩, by simp [caughtF]⟩
section
variable {S S' : Store} {m fr nd md n q a : Nat} {as : List Nat} {fs : List Fr} {mk : List (Key × Val)} {sig want v x u : Val} {en : En} {fresh s g : Int} {f : Fr} {b : Blk} {rows : List Val} {Q : Po} {F : List Str} {env : Env}
/-- a frame's field is set -/
theorem Fr.sx (ok : f.Ok) (h : S[a]? = some f.ob) {k : Nat} (h4 : 4 ≤ k) (hk : T.isF f.c k = true) : setFV T k env u (.obj a) S = .nx env (S.set a (Fr.ob { f with ex := fput k u f.ex })) := by
  have e0 : (0 = k) = False := by simp; omega
  have e1 : (1 = k) = False := by simp; omega
  have e2 : (2 = k) = False := by simp; omega
  have e3 : (3 = k) = False := by simp; omega
  have hxl := ok.xl
  have : (f.ex.length + 1 + 1 + 1 + 1 < 1000) := by omega
  simp [setFV, h, Fr.ob, fO, fput, e0, e1, e2, e3, hk, this]
theorem Fr.s3 (ok : f.Ok) (h : S[a]? = some f.ob) {p : Nat} : setFV T 3 env (.int p) (.obj a) S = .nx env (S.set a (Fr.ob { f with pl := p })) := by
  have hxl := ok.xl
  have : (f.ex.length + 1 + 1 + 1 + 1 < 1000) := by omega
  simp [setFV, h, Fr.ob, fO, fput, ok.f3, this]
theorem Fr.s0 (ok : f.Ok) (h : S[a]? = some f.ob) {r : List Val} : setFV T 0 env (.tup r) (.obj a) S = .nx env (S.set a (Fr.ob { f with rows := r })) := by
  have hxl := ok.xl
  have : (f.ex.length + 1 + 1 + 1 + 1 < 1000) := by omega
  simp [setFV, h, Fr.ob, fO, fput, ok.f0, this]
theorem Fr.gx (h : S[a]? = some f.ob) {k : Nat} (h4 : 4 ≤ k) (hk : T.isF f.c k = true) (hx : fget k f.ex = some u) : fldV T k (.obj a) S = .ok u S := by
  have e0 : (0 = k) = False := by simp; omega
  have e1 : (1 = k) = False := by simp; omega
  have e2 : (2 = k) = False := by simp; omega
  have e3 : (3 = k) = False := by simp; omega
  simp [fldV, h, Fr.ob, fO, fget, e0, e1, e2, e3, hk, hx]
theorem MS.pop (h : MS S m fr nd md (as ++ [a]) (fs ++ [f]) mk sig want fresh en) : pop0V S (.obj fr) [] = .ok (.obj a) (S.set fr (.lst false (as.map .obj))) ∧ MS (S.set fr (.lst false (as.map .obj))) m fr nd md as fs mk sig want fresh en ∧ Ky fr md S (S.set fr (.lst false (as.map .obj))) := by
  have al := h.al
  simp at al
  have neF : ∀ {i : Nat} {o : Obj}, S[i]? = some o → (∀ xs, o ≠ .lst false xs) → i ≠ fr := fun e no => ne_ob e h.hfr (no _)
  refine ⟨by simp [pop0V, h.hfr], ⟨set_ne h.ob (neF h.ob (by simp)), set_eq h.hfr, set_ne h.hnd (neF h.hnd (by simp)), set_ne h.hmd (neF h.hmd (by simp)), h.ne, al, fun i x y e1 e2 => ?_, fun y hy => h.ok y (by simp [hy]), (List.nodup_append.mp h.nu).1, fun x hx => h.am x (by simp [hx]), by have := h.fl; simp at this; omega, h.ml⟩, ⟨fun i o e _ nf _ => set_ne e nf, by simp⟩⟩
  have e1' : (as ++ [a])[i]? = some x := by rw [List.getElem?_append_left (List.getElem?_eq_some_iff.mp e1).1]; exact e1
  have e2' : (fs ++ [f])[i]? = some y := by rw [List.getElem?_append_left (List.getElem?_eq_some_iff.mp e2).1]; exact e2
  have := h.fo i x y e1' e2'
  exact set_ne this (neF this (by simp [Fr.ob, fO]))
/-- drop -/
theorem sp40 (h : MS S m fr nd md (as ++ [a]) (fs ++ [f]) mk sig want fresh en) : (run T D (n + 1) 40 [.obj m] S).wp (fun v S' => v = .obj a ∧ S'[a]? = S[a]? ∧ MS S' m fr nd md as fs (mkD mk f.sc) sig want fresh en ∧ Ky fr md S S') noX := by
  rw [r40]
  obtain ⟨_, ha, ok⟩ := h.last
  obtain ⟨p1, h1, k1⟩ := h.pop
  have hk0 : kdOf S (.obj fr) = some .list := h.kd
  simp [b40, h.g11, bmGo, hk0, bmK, bmV, bmV0, p1]
  have hne : a ≠ fr := ne_ob ha h.hfr (by simp [Fr.ob, fO])
  have ha1 : (S.set fr (.lst false (as.map .obj)))[a]? = some f.ob := set_ne ha hne
  generalize S.set fr (.lst false (as.map .obj)) = S1 at h1 ha1 k1
  have hk1 : kdOf S1 (.obj md) = some .dict := by simp [kdOf, h1.hmd]
  have hmda : a ≠ md := ne_ob ha1 h1.hmd (by simp [Fr.ob, fO])
  simp [b40_1, h1.g13, bmGo, hk1, bmK, Fr.g2 ok ha1, bmV, bmV0]
  cases hs : f.sc with
  | none =>
    simp [ov, pop2V, h1.hmd]
    exact ⟨by rw [ha1, ha], h1, k1⟩
  | some s =>
    cases e : look mk (.inl s) with
    | none =>
      simp [ov, pop2V, h1.hmd, e]
      have : mkD mk (some s) = mk := by simp [mkD, e]
      rw [this]
      exact ⟨by rw [ha1, ha], h1, k1⟩
    | some u =>
      simp [ov, pop2V, h1.hmd, e]
      have : mkD mk (some s) = drop mk (.inl s) := by simp [mkD, e]
      rw [this]
      have hl : (drop mk (.inl s)).length ≤ 100 := Nat.le_trans drop_len h1.ml
      obtain ⟨h2, k2⟩ := h1.setM hl
      exact ⟨by rw [set_ne ha1 hmda, ha], h2, k1.trans k2⟩
theorem dat_ov {n : Nat} {o : Option Int} : dat n S (ov o) = some (match o with | some i => .int i | none => .none) := by cases o <;> cases n <;> rfl
theorem mkD_nil {sc : Option Int} : mkD [] sc = [] := by cases sc <;> rfl
theorem sv0 {F : List Str} : ixV S (faultsV F) (.int 0) = some (.str (Str.ofString "faults")) := tix0
theorem sv1 {F : List Str} : ixV S (faultsV F) (.int 1) = some (fV F) := tix1
theorem dat_strs {n : Nat} : ∀ {F : List Str}, (F.map Val.str).mapM (dat n S) = some (F.map PyData.str)
  | [] => rfl
  | x :: F => by
    have : dat n S (.str x) = some (.str x) := by cases n <;> rfl
    rw [List.map_cons, List.mapM_cons, this, dat_strs]; rfl
theorem fV_dat {n : Nat} {F : List Str} : dat (n + 1) S (fV F) = some (.tuple (F.map PyData.str)) := by
  unfold fV
  rw [dat_tup, dat_strs]; rfl
theorem strike_ne {F : List Str} {o : Option Int} : eqD S (faultsV F) (.tup [.str (Str.ofString "strike"), ov o]) = some false := by
  have hs : ((Str.ofString "faults") == (Str.ofString "strike")) = false := by decide +kernel
  cases o <;> simp [eqD, faultsV, dat_tup, List.mapM_cons, fV_dat, dat, ov, PyData.eqv, PyData.eqvAll, hs]
/-- go_out, by what the frame says -/
theorem go_out_of {P : Val → Store → Prop} {i : Nat} {w : Str} (h : MS S m fr nd md (as ++ [a]) (fs ++ [f]) mk (faultsV F) want fresh en) (hm : methV T 32 (.obj a) S = some (i, []))
    (hw : (run T D (n + 2) i [.obj a, faultsV F] S).wp (fun v S' => v = .str w ∧ S = S') noX) (hk : (fin (ex T (run T D (n + 2)) b44_10 [some (.obj m), some (.obj a), some (faultsV F), some (.str w)] S)).wp P noX) : (run T D (n + 3) 44 [.obj m] S).wp P noX := by
  rw [r44]
  obtain ⟨hi, ha, ok⟩ := h.last
  simp [b44, h.g11, neg1, hi, b44_12, h.g14, b44_11, hm]
  refine hw.then ?_
  rintro _ _ ⟨rfl, rfl⟩
  simpa using hk
theorem len_fr (h : MS S m fr nd md as fs mk sig want fresh en) : lenV S [.obj fr] = .ok (.int fs.length) S := by
  simp [lenV, h.hfr, h.al]
def OUT (S : Store) (m fr nd md : Nat) (as : List Nat) (fs : List Fr) (F : List Str) (want : Val) (fresh : Int) (en : En) (v : Val) (S' : Store) : Prop :=
  v = .non ∧ MS S' m fr nd md as fs [] (faultsV F) want fresh en ∧ Ky fr md S S'
/-- out, and not the last -/
theorem out_more (h : MS S m fr nd md (as ++ [a]) (fs ++ [f]) [] (faultsV F) want fresh en) (hf : fs ≠ []) : (fin (ex T (run T D (n + 2)) b44_10 [some (.obj m), some (.obj a), some (faultsV F), some (.str (Str.ofString "out"))] S)).wp (OUT S m fr nd md as fs F want fresh en) noX := by
  have hl : ((fs.length : Int) + 1 == 1) = false := by have := List.length_pos_iff.mpr hf; simp; omega
  simp [b44_10, h.g11, biV, len_fr h, hl, b44_9, h.mm (k := 31) (x := (40, [])) rfl rfl]
  refine (sp40 h).then ?_
  rintro _ S1 ⟨rfl, _, h1, k1⟩
  rw [mkD_nil] at h1
  exact ⟨rfl, h1, k1⟩
end
end Nw.k54

set_option Elab.async false
set_option linter.all false
set_option maxRecDepth 100000
set_option maxHeartbeats 4000000
namespace Nw.k54
open PySem L2 Nw
def hit (b : Blk) (f0 : Str) : Bool := (Str.ofString "any" == flt b) || (f0 == flt b)
section
variable {S S' : Store} {m fr nd md n q a pl : Nat} {as : List Nat} {fs : List Fr} {mk : List (Key × Val)} {sig want v x : Val} {en : En} {fresh s g fr' : Int} {f : Fr} {b : Blk} {rows : List Val} {Q : Po} {F : List Str} {f0 : Str}
def RH (S : Store) (m fr nd md : Nat) (as : List Nat) (fs : List Fr) (want : Val) (fresh : Int) (en : En) (w v : Val) (S' : Store) : Prop := v = w ∧ MS S' m fr nd md as fs [] .non want fresh en ∧ Ky fr md S S'
/-- a group halts -/
theorem out_group (h : MS S m fr nd md (as ++ [a]) (fs ++ [frOf b rows fr' pl]) [] (faultsV F) want fresh en) (hb : b.kd = .group) : (run T D (n + 3) 44 [.obj m] S).wp (RH S m fr nd md (as ++ [a]) (fs ++ [haltF b rows fr' .non]) want fresh en (haltV b fr' F)) noX := by
  obtain ⟨hi, ha, ok⟩ := h.last
  obtain ⟨kd, ln, pk⟩ := b
  subst hb
  have hm : m ≠ a := (h.am a (by simp)).symm
  refine go_out_of h (w := Str.ofString "halt") (i := 25) (Fr.m ha rfl (by omega) rfl) (by rw [r25]; simp [b25]) ?_
  simp [b44_10, b44_9, b44_8, h.s14, ifV_false]
  obtain ⟨h1, k1⟩ := h.set .non want fresh en
  generalize S.set m (.ins 7 (mF fr nd md .non want fresh en)) = S1 at h1 k1
  obtain ⟨_, ha1, ok1⟩ := h1.last
  have hlen : lenV S1 [.tup rows] = .ok (.int rows.length) S1 := rfl
  have hg0 := Fr.g0 ok ha1
  simp only [frOf] at hg0
  obtain ⟨h2, k2⟩ := h1.setL (g := haltF ⟨.group, ln, pk⟩ rows fr' .non) haltF_ok
  have e3 := fun env => Fr.s3 (env := env) (p := rows.length) ok1 ha1
  have he3 : Fr.ob { c := (frOf ⟨.group, ln, pk⟩ rows fr' pl).c, rows := (frOf ⟨.group, ln, pk⟩ rows fr' pl).rows, ln := (frOf ⟨.group, ln, pk⟩ rows fr' pl).ln, sc := (frOf ⟨.group, ln, pk⟩ rows fr' pl).sc, pl := rows.length, ex := (frOf ⟨.group, ln, pk⟩ rows fr' pl).ex } = (haltF ⟨.group, ln, pk⟩ rows fr' .non).ob := rfl
  rw [he3] at e3
  simp [b44_7, b44_6, hg0, biV, hlen, e3]
  generalize S1.set a (haltF ⟨.group, ln, pk⟩ rows fr' .non).ob = S3 at h2 k2 ⊢
  obtain ⟨_, ha3, ok3⟩ := h2.last
  have f1 : fldV T 1 (.obj a) S3 = .ok (.int ln) S3 := Fr.g1 ok3 ha3
  have f2 : fldV T 2 (.obj a) S3 = .ok (.int fr') S3 := Fr.g2 ok3 ha3
  simp [b44_2, sv0, sv1, f1, f2, lineq]
  exact ⟨rfl, h2, k1.trans k2⟩
/-- a do's clean-up begins -/
theorem out_do (h : MS S m fr nd md (as ++ [a]) (fs ++ [frOf b rows fr' pl]) [] (faultsV F) want fresh en) (hb : b.kd = .do_) : (run T D (n + 3) 44 [.obj m] S).wp (RH S m fr nd md (as ++ [a]) (fs ++ [cleanF b 0 (faultsV F)]) want fresh en (cleanV b)) noX := by
  obtain ⟨hi, ha, ok⟩ := h.last
  obtain ⟨kd, ln, pk⟩ := b
  subst hb
  have f7 : fldV T 7 (.obj a) S = .ok (.bl false) S := Fr.gx ha (by omega) rfl rfl
  refine go_out_of h (w := Str.ofString "clean") (i := 18) (Fr.m ha rfl (by omega) rfl) (by rw [r18]; simp [b18, f7, ifV_false]) ?_
  simp [b44_10, b44_9, b44_8, h.s14, ifV_false]
  obtain ⟨h1, k1⟩ := h.set .non want fresh en
  generalize S.set m (.ins 7 (mF fr nd md .non want fresh en)) = S1 at h1 k1
  obtain ⟨_, ha1, ok1⟩ := h1.last
  simp [b44_7, Fr.m ha1 (k := 29) (x := (15, [])) rfl (by omega) rfl]
  have run15 : (run T D (n + 2) 15 [.obj a, faultsV F] S1).wp (fun v S' => MS S' m fr nd md (as ++ [a]) (fs ++ [cleanF ⟨.do_, ln, pk⟩ 0 (faultsV F)]) [] .non want fresh en ∧ Ky fr md S1 S') noX := by
    rw [r15]
    have f6 : fldV T 6 (.obj a) S1 = .ok (.tup [ringV (100 + ln) "clean"]) S1 := Fr.gx ha1 (by omega) rfl rfl
    have gk : ∀ (rws : List Val) (p : Nat) (bb : Bool) (u : Val), Fr.Ok ⟨4, rws, ln, none, p, [(6, .tup [ringV (100 + ln) "clean"]), (7, .bl bb), (8, u)]⟩ := fun rws p bb u => ⟨rfl, rfl, rfl, rfl, rfl, rfl, rfl, rfl, rfl, .inr (.inr ⟨rfl, rfl, rfl⟩), by simp⟩
    obtain ⟨h2, k2⟩ := h1.setL (gk [ringV (100 + ln) "clean"] pl false .non)
    have e0 := fun env => Fr.s0 (env := env) (r := [ringV (100 + ln) "clean"]) ok1 ha1
    simp [b15, f6, e0]
    have q1 : Fr.ob { c := (frOf ⟨.do_, ln, pk⟩ rows fr' pl).c, rows := [ringV (100 + ln) "clean"], ln := (frOf ⟨.do_, ln, pk⟩ rows fr' pl).ln, sc := (frOf ⟨.do_, ln, pk⟩ rows fr' pl).sc, pl := (frOf ⟨.do_, ln, pk⟩ rows fr' pl).pl, ex := (frOf ⟨.do_, ln, pk⟩ rows fr' pl).ex } = Fr.ob ⟨4, [ringV (100 + ln) "clean"], ln, none, pl, [(6, .tup [ringV (100 + ln) "clean"]), (7, .bl false), (8, .non)]⟩ := rfl
    rw [q1]
    generalize S1.set a (Fr.ob ⟨4, [ringV (100 + ln) "clean"], ln, none, pl, [(6, .tup [ringV (100 + ln) "clean"]), (7, .bl false), (8, .non)]⟩) = S2 at h2 k2 ⊢
    obtain ⟨_, ha2, ok2⟩ := h2.last
    obtain ⟨h3, k3⟩ := h2.setL (gk [ringV (100 + ln) "clean"] 0 false .non)
    have e3 := fun env => Fr.s3 (env := env) (p := 0) ok2 ha2
    simp at e3
    simp [b15_2, e3]
    generalize S2.set a (Fr.ob ⟨4, [ringV (100 + ln) "clean"], ln, none, 0, [(6, .tup [ringV (100 + ln) "clean"]), (7, .bl false), (8, .non)]⟩) = S3 at h3 k3 ⊢
    obtain ⟨_, ha3, ok3⟩ := h3.last
    obtain ⟨h4, k4⟩ := h3.setL (gk [ringV (100 + ln) "clean"] 0 true .non)
    have e7 := fun env => Fr.sx (u := .bl true) (env := env) ok3 ha3 (k := 7) (by omega) rfl
    simp [fput] at e7
    simp [b15_1, e7]
    generalize S3.set a (Fr.ob ⟨4, [ringV (100 + ln) "clean"], ln, none, 0, [(6, .tup [ringV (100 + ln) "clean"]), (7, .bl true), (8, .non)]⟩) = S4 at h4 k4 ⊢
    obtain ⟨_, ha4, ok4⟩ := h4.last
    obtain ⟨h5, k5⟩ := h4.setL (gk [ringV (100 + ln) "clean"] 0 true (faultsV F))
    have e8 := fun env => Fr.sx (u := faultsV F) (env := env) ok4 ha4 (k := 8) (by omega) rfl
    simp [fput] at e8
    simp [e8]
    exact ⟨h5, k2.trans (k3.trans (k4.trans k5))⟩
  refine run15.then ?_
  rintro _ S2 ⟨h2, k2⟩
  obtain ⟨_, ha2, ok2⟩ := h2.last
  have f1 : fldV T 1 (.obj a) S2 = .ok (.int ln) S2 := Fr.g1 ok2 ha2
  simp [f1, lineq]
  exact ⟨rfl, h2, k1.trans k2⟩
/-- a try catches -/
theorem out_caught (h : MS S m fr nd md (as ++ [a]) (fs ++ [frOf b rows fr' pl]) [] (faultsV (f0 :: F)) want fresh en) (hb : b.kd = .try_) (hh : hit b f0 = true) : (run T D (n + 4) 44 [.obj m] S).wp (fun v S' => ∃ x, RH S m fr nd md (as ++ [x]) (fs ++ [caughtF b 0]) want fresh en (caughtV b (f0 :: F)) v S') noX := by
  obtain ⟨hi, ha, ok⟩ := h.last
  obtain ⟨kd, ln, pk⟩ := b
  subst hb
  have hm : m ≠ a := (h.am a (by simp)).symm
  have f5 : fldV T 5 (.obj a) S = .ok (.str (flt ⟨.try_, ln, pk⟩)) S := Fr.gx ha (by omega) rfl rfl
  have i1 : ixV S (fV (f0 :: F)) (.int 0) = some (.str f0) := tix0
  unfold hit at hh
  refine go_out_of h (w := Str.ofString "caught") (i := 12) (Fr.m ha rfl (by omega) rfl) (by rw [r12]; simp [b12, sv0, sv1, f5, i1, ifV_true, lineq, mem2, hh]) ?_
  simp [b44_10, b44_9, b44_8, h.s14, ifV_false]
  obtain ⟨h1, k1⟩ := h.set .non want fresh en
  generalize S.set m (.ins 7 (mF fr nd md .non want fresh en)) = S1 at h1 k1
  obtain ⟨_, ha1, ok1⟩ := h1.last
  simp [b44_7, b44_6, b44_5, h1.mm (k := 31) (x := (40, [])) rfl rfl]
  refine (sp40 (n := n + 2) h1).then ?_
  rintro _ S2 ⟨rfl, ha2, h2, k2⟩
  rw [mkD_nil] at h2
  rw [ha1] at ha2
  have f6 : fldV T 6 (.obj a) S2 = .ok (.tup [ringV (100 + ln) "caught"]) S2 := Fr.gx ha2 (by omega) rfl rfl
  have f1 : fldV T 1 (.obj a) S2 = .ok (.int ln) S2 := Fr.g1 ok ha2
  simp [b44_4, h2.g11, bmGo, h2.kd, bmK, f6, f1]
  refine (sp1 (S := S2) (c := 0) (by omega)).then ?_
  rintro _ S3 ⟨rfl, rfl⟩
  have fl := h.fl
  simp at fl
  obtain ⟨p1, p2, p3⟩ := h2.push (g := caughtF ⟨.try_, ln, pk⟩ 0) caughtF_ok (by omega)
  have he : (caughtF ⟨.try_, ln, pk⟩ 0).ob = .ins 0 (bas [ringV (100 + ln) "caught"] ln .non) := rfl
  rw [he] at p1 p2 p3
  have hkd : kdOf (S2 ++ [.ins 0 (bas [ringV (100 + ln) "caught"] ln .non)]) (.obj fr) = some .list := (h2.le (Le.app _ _)).kd
  simp [newV_non, bmV, hkd, bmV0, p1]
  have hne : a ≠ fr := ne_ob ha2 h2.hfr (by simp [Fr.ob, fO])
  have ha3 := set_ne (u := .lst false (as.map .obj ++ [.obj S2.length])) (Le.app S2 [.ins 0 (bas [ringV (100 + ln) "caught"] ln .non)] _ _ ha2) hne
  generalize (S2 ++ [Obj.ins 0 (bas [ringV (100 + ln) "caught"] ln .non)]).set fr (Obj.lst false (as.map Val.obj ++ [Val.obj S2.length])) = S4 at p2 p3 ha3 ⊢
  have q1 : fldV T 1 (.obj a) S4 = .ok (.int ln) S4 := Fr.g1 ok ha3
  simp [b44_3, q1, sv1, lineq]
  exact ⟨_, rfl, p2, k1.trans (k2.trans p3)⟩
/-- silent -/
def Sil (b : Blk) (f0 : Str) : Prop := b.kd ≠ .group ∧ b.kd ≠ .do_ ∧ (b.kd = .try_ → hit b f0 = false)
theorem out_sil (h : MS S m fr nd md (as ++ [a]) (fs ++ [frOf b rows fr' pl]) [] (faultsV (f0 :: F)) want fresh en) (hs : Sil b f0) (hf : fs ≠ []) : (run T D (n + 4) 44 [.obj m] S).wp (OUT S m fr nd md as fs (f0 :: F) want fresh en) noX := by
  obtain ⟨hi, ha, ok⟩ := h.last
  obtain ⟨h1, h2, h3⟩ := hs
  obtain ⟨kd, ln, pk⟩ := b
  cases kd
  · exact absurd rfl h1
  · have f2 : fldV T 2 (.obj a) S = .ok (ov (some fr')) S := Fr.g2 ok ha
    have e := @strike_ne S (f0 :: F) (some fr')
    refine go_out_of (n := n + 1) h (w := Str.ofString "out") (i := 21) (Fr.m ha rfl (by omega) rfl) (by rw [r21]; simp [b21, f2, lineq, e, ifV_false]) ?_
    exact out_more (n := n + 1) h hf
  · refine go_out_of (n := n + 1) h (w := Str.ofString "out") (i := 5) (Fr.m ha rfl (by omega) rfl) (by rw [r5]; simp [b5]) ?_
    exact out_more (n := n + 1) h hf
  · have f5 : fldV T 5 (.obj a) S = .ok (.str (flt ⟨.try_, ln, pk⟩)) S := Fr.gx ha (by omega) rfl rfl
    have i1 : ixV S (fV (f0 :: F)) (.int 0) = some (.str f0) := tix0
    have hh := h3 rfl
    unfold hit at hh
    refine go_out_of (n := n + 1) h (w := Str.ofString "out") (i := 12) (Fr.m ha rfl (by omega) rfl) (by rw [r12]; simp [b12, sv0, sv1, f5, i1, ifV_true, lineq, mem2, hh]) ?_
    exact out_more (n := n + 1) h hf
  · exact absurd rfl h2
  · refine go_out_of (n := n + 1) h (w := Str.ofString "out") (i := 5) (Fr.m ha rfl (by omega) rfl) (by rw [r5]; simp [b5]) ?_
    exact out_more (n := n + 1) h hf
  · refine go_out_of (n := n + 1) h (w := Str.ofString "out") (i := 5) (Fr.m ha rfl (by omega) rfl) (by rw [r5]; simp [b5]) ?_
    exact out_more (n := n + 1) h hf
def endV (F : List Str) : Val := .tup [.str (Str.ofString "ended"), .int 0, faultsV F]
/-- the errand itself ends -/
theorem out_base (h : MS S m fr nd md [a] [base rows pl] [] (faultsV F) want fresh en) : (run T D (n + 4) 44 [.obj m] S).wp (RH S m fr nd md [a] [base rows pl] want fresh (faultsV F, en.2) (endV F)) noX := by
  have h' : MS S m fr nd md ([] ++ [a]) ([] ++ [base rows pl]) [] (faultsV F) want fresh en := h
  obtain ⟨hi, ha, ok⟩ := h'.last
  refine go_out_of (n := n + 1) h' (w := Str.ofString "out") (i := 5) (Fr.m ha rfl (by omega) rfl) (by rw [r5]; simp [b5]) ?_
  have hl : lenV S [.obj fr] = .ok (.int 1) S := len_fr h
  simp [b44_10, h.g11, biV, hl, ifV_true, sv0, h.mm (k := 30) (x := (41, [])) rfl rfl, lineq]
  rw [r41]
  obtain ⟨h1, k1⟩ := h.set (faultsV F) want fresh (faultsV F, en.2)
  simp [b41, h.s19]
  generalize S.set m (.ins 7 (mF fr nd md (faultsV F) want fresh (faultsV F, en.2))) = S1 at h1 k1
  obtain ⟨h2, k2⟩ := h1.set .non want fresh (faultsV F, en.2)
  simp [b41_1, h1.s14, lineq]
  exact ⟨rfl, h2, k1.trans k2⟩
end
end Nw.k54

set_option Elab.async false
set_option linter.all false
set_option maxRecDepth 100000
set_option maxHeartbeats 4000000
namespace Nw.k54
open PySem L2 Nw
/-! ## turns, one by one -/
def LPj (n m j : Nat) (S : Store) (P : Val → Store → Prop) : Prop :=
  (fin (seqV (whlW (ev T (run T D (n + 6)) (.isN false (.var 1))) (ex T (run T D (n + 6)) b39_1) j [some (.obj m), some .non] S) (ex T (run T D (n + 6)) b39_2))).wp P noX
def LP (n m c : Nat) (S : Store) (P : Val → Store → Prop) : Prop := ∀ j, c < j → LPj n m j S P
def FIN (n m : Nat) (v : Val) (S : Store) (P : Val → Store → Prop) : Prop := (fin (ex T (run T D (n + 6)) b39_2 [some (.obj m), some v] S)).wp P noX
def TQ (n m c : Nat) (P : Val → Store → Prop) (v : Val) (S2 : Store) : Prop := (v = .non ∧ LP n m c S2 P) ∨ (isNon v = false ∧ FIN n m v S2 P)
section
variable {S S' : Store} {m fr nd md n q a pl c : Nat} {as : List Nat} {fs : List Fr} {mk : List (Key × Val)} {sig want v x : Val} {en : En} {fresh s g fr' : Int} {f : Fr} {b : Blk} {rows : List Val} {Q : Po} {P : Val → Store → Prop} {F : List Str}
theorem lp_turn (h : (ex T (run T D (n + 6)) b39_1 [some (.obj m), some .non] S).wp { nx := fun env S2 => ∃ v, env = [some (.obj m), some v] ∧ TQ n m c P v S2, rt := fun _ _ => False, bk := fun _ _ => False, ct := fun _ _ => False, ex := fun _ _ _ => False }) : LP n m (c + 1) S P := by
  intro j hj
  obtain ⟨j, rfl⟩ : ∃ i, j = i + 1 := ⟨j - 1, by omega⟩
  have hnn : isNon .non = true := rfl
  have hx : xorB false true = true := rfl
  unfold LPj whlW
  have e0 : ev T (run T D (n + 6)) (.isN false (.var 1)) [some (.obj m), some .non] S = .ok (.bl true) S := by simp [hnn, hx]
  rw [e0]
  simp only [Res.out_ok]
  have e1 : ∀ (t f : Out), ifS (.bl true) S t f = t := fun _ _ => rfl
  rw [e1]
  cases eo : ex T (run T D (n + 6)) b39_1 [some (.obj m), some .non] S with
  | nx e S2 =>
    rw [eo] at h
    obtain ⟨v, rfl, hv⟩ := h
    simp only
    rcases hv with ⟨rfl, hl⟩ | ⟨hv, hf⟩
    · exact hl j (by omega)
    · obtain ⟨j, rfl⟩ : ∃ i, j = i + 1 := ⟨j - 1, by omega⟩
      unfold whlW
      have hx2 : xorB false false = false := rfl
      have e2 : ev T (run T D (n + 6)) (.isN false (.var 1)) [some (.obj m), some v] S2 = .ok (.bl false) S2 := by simp [hv, hx2]
      rw [e2]
      exact hf
  | rt v S2 => rw [eo] at h; exact h.elim
  | bk e S2 => rw [eo] at h; exact h.elim
  | ct e S2 => rw [eo] at h; exact h.elim
  | ex x e S2 => rw [eo] at h; exact h.elim
  | no => rw [eo] at h; exact h.elim
/-- a turn without a signal, with one -/
theorem lp_on (h : MS S m fr nd md as fs mk .non want fresh en) (hg : (run T D (n + 6) 42 [.obj m] S).wp (TQ n m c P) noX) : LP n m (c + 1) S P :=
  lp_turn (turn_on h hg fun v S2 hv => ⟨v, rfl, hv⟩)
theorem lp_out (h : MS S m fr nd md as fs mk (faultsV F) want fresh en) (hg : (run T D (n + 6) 44 [.obj m] S).wp (TQ n m c P) noX) : LP n m (c + 1) S P := by
  refine lp_turn ?_
  have hnn : isNon (faultsV F) = false := rfl
  simp [b39_1, h.g14, hnn, xorB, h.mm (k := 22) (x := (44, [])) rfl rfl]
  exact hg
/-- step -/
theorem step_lp (h : MS S m fr nd md as fs mk sig want fresh en) (he : en.2 = false) (hc : c ≤ 1000) (hl : LP n m c S P) : (run T D (n + 7) 39 [.obj m] S).wp P noX := by
  rw [r39]
  simp [b39, h.g16, he, ifV_false]
  simp [b39_4]
  have := hl whileBound (by unfold whileBound; omega)
  unfold LPj at this
  simpa [b39_3] using this
/-- what a step tells -/
theorem fin_word {w : Str} {xs : List Val} (hw : w = Str.ofString "clean" ∨ w = Str.ofString "caught" ∨ w = Str.ofString "left" ∨ w = Str.ofString "ring" ∨ w = Str.ofString "ended") (hP : P (.tup (.str w :: xs)) S) : FIN n m (.tup (.str w :: xs)) S P := by
  have hl : ∀ s ∈ ["wait", "hear", "take", "ask", "join", "halt"], ∀ w ∈ ["left", "ring", "caught", "clean", "ended"], ((Str.ofString s) == (Str.ofString w)) = false := by decide +kernel
  have z_wait_left := hl "wait" (by simp) "left" (by simp)
  have z_hear_left := hl "hear" (by simp) "left" (by simp)
  have z_take_left := hl "take" (by simp) "left" (by simp)
  have z_ask_left := hl "ask" (by simp) "left" (by simp)
  have z_join_left := hl "join" (by simp) "left" (by simp)
  have z_halt_left := hl "halt" (by simp) "left" (by simp)
  have z_wait_ring := hl "wait" (by simp) "ring" (by simp)
  have z_hear_ring := hl "hear" (by simp) "ring" (by simp)
  have z_take_ring := hl "take" (by simp) "ring" (by simp)
  have z_ask_ring := hl "ask" (by simp) "ring" (by simp)
  have z_join_ring := hl "join" (by simp) "ring" (by simp)
  have z_halt_ring := hl "halt" (by simp) "ring" (by simp)
  have z_wait_caught := hl "wait" (by simp) "caught" (by simp)
  have z_hear_caught := hl "hear" (by simp) "caught" (by simp)
  have z_take_caught := hl "take" (by simp) "caught" (by simp)
  have z_ask_caught := hl "ask" (by simp) "caught" (by simp)
  have z_join_caught := hl "join" (by simp) "caught" (by simp)
  have z_halt_caught := hl "halt" (by simp) "caught" (by simp)
  have z_wait_clean := hl "wait" (by simp) "clean" (by simp)
  have z_hear_clean := hl "hear" (by simp) "clean" (by simp)
  have z_take_clean := hl "take" (by simp) "clean" (by simp)
  have z_ask_clean := hl "ask" (by simp) "clean" (by simp)
  have z_join_clean := hl "join" (by simp) "clean" (by simp)
  have z_halt_clean := hl "halt" (by simp) "clean" (by simp)
  have z_wait_ended := hl "wait" (by simp) "ended" (by simp)
  have z_hear_ended := hl "hear" (by simp) "ended" (by simp)
  have z_take_ended := hl "take" (by simp) "ended" (by simp)
  have z_ask_ended := hl "ask" (by simp) "ended" (by simp)
  have z_join_ended := hl "join" (by simp) "ended" (by simp)
  have z_halt_ended := hl "halt" (by simp) "ended" (by simp)
  unfold FIN
  rcases hw with rfl | rfl | rfl | rfl | rfl <;> simp [b39_2, tix0, flat, eqF, xorB, mem2, lineq, ifV_false, z_wait_left, z_hear_left, z_take_left, z_ask_left, z_join_left, z_halt_left, z_wait_ring, z_hear_ring, z_take_ring, z_ask_ring, z_join_ring, z_halt_ring, z_wait_caught, z_hear_caught, z_take_caught, z_ask_caught, z_join_caught, z_halt_caught, z_wait_clean, z_hear_clean, z_take_clean, z_ask_clean, z_join_clean, z_halt_clean, z_wait_ended, z_hear_ended, z_take_ended, z_ask_ended, z_join_ended, z_halt_ended] <;> exact hP
theorem fin_halt {xs : List Val} (h : MS S m fr nd md as fs mk sig want fresh en) (hP : ∀ S', MS S' m fr nd md as fs mk sig (.tup (.str (Str.ofString "halt") :: xs)) fresh en → Ky fr md S S' → P (.tup (.str (Str.ofString "halt") :: xs)) S') : FIN n m (.tup (.str (Str.ofString "halt") :: xs)) S P := by
  obtain ⟨h1, k1⟩ := h.set sig (.tup (.str (Str.ofString "halt") :: xs)) fresh en
  unfold FIN
  simp [b39_2, tix0, flat, eqF, xorB, mem2, lineq, ifV_false, h.s15]
  exact hP _ h1 k1
/-- done: a ring -/
theorem sp46r {l : Int} {w : Str} : (run T D (n + 4) 46 [.obj m, ringV l w] S).wp (fun v S' => v = ringV l w ∧ S = S') noX := by
  have hr : ∀ s ∈ ["wait", "hear", "take", "ask", "raise"], ((Str.ofString s) == (Str.ofString "ring")) = false := by decide +kernel
  have hr2 : ((Str.ofString "ring") == (Str.ofString "raise")) = false := by decide +kernel
  have q1 := hr "wait" (by simp)
  have q2 := hr "hear" (by simp)
  have q3 := hr "take" (by simp)
  have q4 := hr "ask" (by simp)
  rw [r46]
  simp only [ringV]
  simp [b46, tix0, b46_8, tix1, b46_7, flat, eqF, xorB, b46_6, b46_5, q1, q2, q3, q4, hr2]
/-- no row any more -/
theorem Fr.nextE (o : f.Ok) (h : S[a]? = some f.ob) (hx : f.pl = f.rows.length) : (run T D (n + 1) 2 [.obj a] S).wp (fun v S' => v = .non ∧ S = S') noX := by
  rw [r2]
  have hlen : lenV S [.tup f.rows] = .ok (.int f.rows.length) S := rfl
  simp [b2, f.g3 o h, f.g0 o h, biV, hlen, hx]
/-- go_on, where there is none -/
theorem sp42e {i : Nat} {w : Str} (h : MS S m fr nd md (as ++ [a]) (fs ++ [f]) mk sig want fresh en) (hx : f.pl = f.rows.length) (hm : methV T 26 (.obj a) S = some (i, []))
    (hw : (run T D (n + 5) i [.obj a] S).wp (fun v S' => v = .str w ∧ S = S') noX) (hk : (fin (ex T (run T D (n + 5)) b42_6 [some (.obj m), some (.obj a), some .non, some (.str w)] S)).wp P noX) : (run T D (n + 6) 42 [.obj m] S).wp P noX := by
  rw [r42]
  obtain ⟨hi, ha, ok⟩ := h.last
  simp [b42, h.g11, neg1, hi, b42_9, Fr.m ha ok.x24 (by omega) ok.m24]
  refine (Fr.nextE ok ha hx).then ?_
  rintro _ _ ⟨rfl, rfl⟩
  have hnn : isNon .non = true := rfl
  simp [b42_8, hnn, xorB, b42_7, hm]
  refine hw.then ?_
  rintro _ _ ⟨rfl, rfl⟩
  simpa using hk
end
end Nw.k54

set_option Elab.async false
set_option linter.all false
set_option maxRecDepth 100000
set_option maxHeartbeats 4000000
namespace Nw.k54
open PySem L2 Nw
section
variable {S S' : Store} {m fr nd md n q a pl c : Nat} {as : List Nat} {fs : List Fr} {mk : List (Key × Val)} {sig want v x : Val} {en : En} {fresh s g fr' : Int} {f : Fr} {b : Blk} {rows : List Val} {Q : Po} {P : Val → Store → Prop} {F : List Str}
theorem Fr.is (h : S[a]? = some f.ob) {j : Nat} {t : Bool} (hk : T.isI j f.c = some t) : isCV T j S (.obj a) = some t := by
  simp only [isCV, h, Fr.ob, fO]; exact hk
/-- a clean-up is done -/
theorem clean_end (h : MS S m fr nd md (as ++ [a]) (fs ++ [cleanF b 1 (faultsV F)]) [] .non want fresh en) (hf : fs ≠ []) : (run T D (n + 6) 42 [.obj m] S).wp (fun v S' => v = .non ∧ MS S' m fr nd md as fs [] (faultsV F) want fresh en ∧ Ky fr md S S') noX := by
  obtain ⟨hi, ha, ok⟩ := h.last
  have f7 : fldV T 7 (.obj a) S = .ok (.bl true) S := Fr.gx ha (by omega) rfl rfl
  refine sp42e h rfl (i := 17) (w := Str.ofString "out") (Fr.m ha rfl (by omega) rfl) (by rw [r17]; simp [b17, f7, ifV_true]) ?_
  have hl : ((fs.length : Int) + 1 == 1) = false := by have := List.length_pos_iff.mpr hf; simp; omega
  simp [b42_6, b42_5, b42_4, b42_3, h.g11, biV, len_fr h, hl, b42_2, h.mm (k := 31) (x := (40, [])) rfl rfl]
  refine (sp40 h).then ?_
  rintro _ S1 ⟨rfl, ha1, h1, k1⟩
  rw [mkD_nil] at h1
  rw [ha] at ha1
  have hc : isCV T 4 S1 (.obj a) = some true := Fr.is ha1 rfl
  have f8 : fldV T 8 (.obj a) S1 = .ok (faultsV F) S1 := Fr.gx ha1 (by omega) rfl rfl
  obtain ⟨h2, k2⟩ := h1.set (faultsV F) want fresh en
  simp [b42_1, hc, f8, h1.s14]
  exact ⟨h2, k1.trans k2⟩
/-- late rows are done -/
theorem caught_end (h : MS S m fr nd md (as ++ [a]) (fs ++ [caughtF b 1]) [] .non want fresh en) (hf : fs ≠ []) : (run T D (n + 6) 42 [.obj m] S).wp (fun v S' => v = .non ∧ MS S' m fr nd md as fs [] .non want fresh en ∧ Ky fr md S S') noX := by
  obtain ⟨hi, ha, ok⟩ := h.last
  refine sp42e h rfl (i := 4) (w := Str.ofString "out") (Fr.m ha rfl (by omega) rfl) (by rw [r4]; simp [b4]) ?_
  have hl : ((fs.length : Int) + 1 == 1) = false := by have := List.length_pos_iff.mpr hf; simp; omega
  simp [b42_6, b42_5, b42_4, b42_3, h.g11, biV, len_fr h, hl, b42_2, h.mm (k := 31) (x := (40, [])) rfl rfl]
  refine (sp40 h).then ?_
  rintro _ S1 ⟨rfl, ha1, h1, k1⟩
  rw [mkD_nil] at h1
  rw [ha] at ha1
  have hc : isCV T 4 S1 (.obj a) = some false := Fr.is ha1 rfl
  simp [b42_1, hc]
  exact ⟨h1, k1⟩
def sg (F : List Str) : Val := if F = [] then .non else faultsV F
theorem eq_nil {F : List Str} : eqD S (fV F) (.tup []) = some (decide (F = [])) := by
  simp [eqD, fV_dat, dat_tup, PyData.eqv]
  cases F <;> simp [PyData.eqvAll]
/-- a group is left -/
theorem group_end (h : MS S m fr nd md (as ++ [a]) (fs ++ [haltF b rows fr' (fV F)]) [] .non want fresh en) : (run T D (n + 6) 42 [.obj m] S).wp (fun v S' => v = leftV b fr' ∧ MS S' m fr nd md as fs [] (sg F) want fresh en ∧ Ky fr md S S') noX := by
  obtain ⟨hi, ha, ok⟩ := h.last
  have f10 : fldV T 10 (.obj a) S = .ok (fV F) S := Fr.gx ha (by omega) rfl rfl
  have hnn : isNon (fV F) = false := rfl
  refine sp42e h rfl (i := 24) (w := Str.ofString "leave") (Fr.m ha rfl (by omega) rfl) (by rw [r24]; simp [b24, f10, hnn, xorB, ifV_false]) ?_
  simp [b42_6, b42_5, h.mm (k := 28) (x := (43, [])) rfl rfl]
  rw [r43]
  simp [b43, h.mm (k := 31) (x := (40, [])) rfl rfl]
  refine (sp40 (n := n + 3) h).then ?_
  rintro _ S1 ⟨rfl, ha1, h1, k1⟩
  rw [mkD_nil] at h1
  rw [ha] at ha1
  have f10 : fldV T 10 (.obj a) S1 = .ok (fV F) S1 := Fr.gx ha1 (by omega) rfl rfl
  have f8 : fldV T 8 (.obj a) S1 = .ok .non S1 := Fr.gx ha1 (by omega) rfl rfl
  have f1 : fldV T 1 (.obj a) S1 = .ok (.int b.ln) S1 := Fr.g1 ok ha1
  have f2 : fldV T 2 (.obj a) S1 = .ok (ov (some fr')) S1 := Fr.g2 ok ha1
  have e0 := @eq_nil S1 F
  have hns : isNon .non = true := rfl
  by_cases hF : F = []
  · have e1 : sg F = .non := by simp [sg, hF]
    have e0' : eqD S1 (fV F) (.tup []) = some true := by rw [e0]; simp [hF]
    simp [b43_1, f10, e0', f8, hns, xorB, ifV_false, f1, f2, lineq]
    rw [e1]
    exact ⟨rfl, h1, k1⟩
  · have e1 : sg F = faultsV F := by simp [sg, hF]
    obtain ⟨h2, k2⟩ := h1.set (faultsV F) want fresh en
    have e2 : Val.tup [.str (Str.ofString "faults"), fV F] = faultsV F := rfl
    simp [b43_1, f10, e0, hF, lineq, e2, h1.s14]
    have hm : m ≠ a := (h.am a (by simp)).symm
    have ha2 := set_ne (u := .ins 7 (mF fr nd md (faultsV F) want fresh en)) ha1 hm.symm
    generalize S1.set m (.ins 7 (mF fr nd md (faultsV F) want fresh en)) = S2 at h2 k2 ha2 ⊢
    have f1 : fldV T 1 (.obj a) S2 = .ok (.int b.ln) S2 := Fr.g1 ok ha2
    have f2 : fldV T 2 (.obj a) S2 = .ok (ov (some fr')) S2 := Fr.g2 ok ha2
    simp [f1, f2, lineq]
    rw [e1]
    exact ⟨rfl, h2, k1.trans k2⟩
/-- joined -/
theorem sp38 (h : MS S m fr nd md (as ++ [a]) (fs ++ [haltF b rows fr' .non]) mk sig want fresh en) : (run T D (n + 1) 38 [.obj m, fV F] S).wp (fun v S' => v = .non ∧ MS S' m fr nd md (as ++ [a]) (fs ++ [haltF b rows fr' (fV F)]) mk sig .non fresh en ∧ Ky fr md S S') noX := by
  rw [r38]
  obtain ⟨h1, k1⟩ := h.set sig .non fresh en
  simp [b38, h.s15]
  generalize S.set m (.ins 7 (mF fr nd md sig .non fresh en)) = S1 at h1 k1
  obtain ⟨hi1, ha1, ok1⟩ := h1.last
  obtain ⟨h2, k2⟩ := h1.setL (g := haltF b rows fr' (fV F)) haltF_ok
  have e10 := fun env => Fr.sx (u := fV F) (env := env) ok1 ha1 (k := 10) (by omega) rfl
  have he : Fr.ob { c := (haltF b rows fr' .non).c, rows := (haltF b rows fr' .non).rows, ln := (haltF b rows fr' .non).ln, sc := (haltF b rows fr' .non).sc, pl := (haltF b rows fr' .non).pl, ex := fput 10 (fV F) (haltF b rows fr' .non).ex } = (haltF b rows fr' (fV F)).ob := rfl
  rw [he] at e10
  simp [h1.g11, neg1, hi1, e10]
  exact ⟨h2, k1.trans k2⟩
/-- outcome -/
theorem sp34 (h : MS S m fr nd md as fs mk sig want fresh en) : (run T D (n + 1) 34 [.obj m] S).wp (fun v S' => v = en.1 ∧ S = S') noX := by
  rw [r34]; simp [b34, h.g19]
end
end Nw.k54

set_option Elab.async false
set_option linter.all false
set_option maxRecDepth 100000
set_option maxHeartbeats 4000000
namespace Nw.k54
open PySem L2 Nw
/-! ## all frames, each at its second row -/
def fo (inner : List Val) : Int → List Blk → List Fr
  | _, [] => []
  | f, b :: bs => frOf b (nest inner bs) f 1 :: fo inner (nxf f b) bs
def FR (inner : List Val) (bs : List Blk) : List Fr := base (nest inner bs) 1 :: fo inner 1 bs
theorem fo_at {inner : List Val} : ∀ {bs : List Blk} {f : Int} {k : Nat} {b : Blk}, bs[k]? = some b → ∃ fk, f ≤ fk ∧ (fo inner f bs)[k]? = some (frOf b (nest inner (bs.drop (k + 1))) fk 1) ∧ (sfr f bs)[k]? = some (scof fk b, hid b)
  | [], f, k, b, h => by simp at h
  | b0 :: bs, f, 0, b, h => by
    simp at h
    subst h
    exact ⟨f, by omega, rfl, rfl⟩
  | b0 :: bs, f, k + 1, b, h => by
    simp at h
    obtain ⟨fk, h1, h2, h3⟩ := fo_at (inner := inner) (f := nxf f b0) h
    have : f ≤ nxf f b0 := by unfold nxf; split <;> omega
    exact ⟨fk, by omega, by simpa [fo] using h2, by simpa [sfr] using h3⟩
theorem fr_at {inner : List Val} {bs : List Blk} {k : Nat} {b : Blk} (h : bs[k]? = some b) : ∃ fk, 1 ≤ fk ∧ (FR inner bs).take (k + 1 + 1) = (FR inner bs).take (k + 1) ++ [frOf b (nest inner (bs.drop (k + 1))) fk 1] ∧ (sfr0 bs)[k + 1]? = some (scof fk b, hid b) := by
  obtain ⟨fk, h1, h2, h3⟩ := fo_at (inner := inner) (f := 1) h
  refine ⟨fk, h1, ?_, by simpa [sfr0] using h3⟩
  have : (FR inner bs)[k + 1]? = some (frOf b (nest inner (bs.drop (k + 1))) fk 1) := by simpa [FR] using h2
  rw [List.take_add_one, this]; rfl
theorem top_at {inner : List Val} {bs : List Blk} {k : Nat} {b : Blk} (h : bs[k]? = some b) : ∃ L f, (FR inner bs).take (k + 1) = L ++ [f] ∧ f.pl = 1 ∧ f.rows[1]? = some (ringV (200 + b.ln) "behind") := by
  cases k with
  | zero =>
    refine ⟨[], base (nest inner bs) 1, rfl, rfl, ?_⟩
    cases bs with
    | nil => simp at h
    | cons b0 bs => simp at h; subst h; rfl
  | succ k =>
    have hk := (List.getElem?_eq_some_iff.mp h).1
    obtain ⟨b', hb'⟩ : ∃ b', bs[k]? = some b' := ⟨bs[k], List.getElem?_eq_getElem (by omega)⟩
    obtain ⟨fk, _, e, _⟩ := fr_at (inner := inner) hb'
    refine ⟨_, _, e, rfl, ?_⟩
    show (nest inner (bs.drop (k + 1)))[1]? = _
    rw [drop_at h]; rfl
theorem fo_len {inner : List Val} : ∀ {bs : List Blk} {f : Int}, (fo inner f bs).length = bs.length
  | [], _ => rfl
  | b :: bs, f => by simp [fo, fo_len (bs := bs)]
theorem FR_len {inner : List Val} {bs : List Blk} : (FR inner bs).length = bs.length + 1 := by simp [FR, fo_len]
theorem FR_FS {inner : List Val} {bs : List Blk} : FS (FR inner bs) = sfr0 bs := by
  have key : ∀ (bs : List Blk) (f : Int), FS (fo inner f bs) = sfr f bs := by
    intro bs
    induction bs with
    | nil => intro f; rfl
    | cons b bs ih =>
      intro f
      show ((frOf b (nest inner bs) f 1).sc, (frOf b (nest inner bs) f 1).hd) :: FS (fo inner (nxf f b) bs) = _
      rw [ih]
      have : (frOf b (nest inner bs) f 1).hd = hid b := by
        obtain ⟨kd, ln, pk⟩ := b
        cases kd <;> rfl
      rw [this]; rfl
  show ((base (nest inner bs) 1).sc, (base (nest inner bs) 1).hd) :: FS (fo inner 1 bs) = _
  rw [key]; rfl
theorem snoc_of {α : Type} {l : List α} (h : l ≠ []) : ∃ L b, l = L ++ [b] := ⟨l.dropLast, l.getLast h, (List.dropLast_concat_getLast h).symm⟩
section
variable {S S' S0 : Store} {m fr nd md n q a pl c k : Nat} {as : List Nat} {fs : List Fr} {mk : List (Key × Val)} {sig want v x : Val} {en : En} {fresh s g fr' fk : Int} {f : Fr} {b : Blk} {rows inner : List Val} {bs : List Blk} {Q : Po} {P : Val → Store → Prop} {F : List Str} {f0 : Str} {d o : Val}
theorem MS.snoc (h : MS S m fr nd md as (fs ++ [f]) mk sig want fresh en) : ∃ as0 a, as = as0 ++ [a] := by
  refine snoc_of ?_
  rintro rfl
  have := h.al
  simp at this
/-- a ring is next -/
theorem ring_lp {l : Int} {w : Str} (h : MS S m fr nd md as (fs ++ [f]) mk .non want fresh en) (hx : f.rows[f.pl]? = some (ringV l w))
    (hP : ∀ S', MS S' m fr nd md as (fs ++ [{ f with pl := f.pl + 1 }]) mk .non want fresh en → Ky fr md S S' → P (ringV l w) S') : LP n m (c + 1) S P := by
  obtain ⟨as0, a, rfl⟩ := h.snoc
  refine lp_on h (sp42 (n := n + 1) h hx rfl fun S1 h1 k1 => ?_)
  refine sp46r.then ?_
  rintro _ _ ⟨rfl, rfl⟩
  exact .inr ⟨rfl, fin_word (.inr (.inr (.inr (.inl rfl)))) (hP _ h1 k1)⟩
def ST (S : Store) (m fr nd md : Nat) (as : List Nat) (fs : List Fr) (mk : List (Key × Val)) (sig want : Val) (fresh : Int) (en : En) (w v : Val) (S' : Store) : Prop := v = w ∧ MS S' m fr nd md as fs mk sig want fresh en ∧ Ky fr md S S'
theorem step_ring {l : Int} {w : Str} (h : MS S m fr nd md as (fs ++ [f]) mk .non want fresh en) (he : en.2 = false) (hx : f.rows[f.pl]? = some (ringV l w)) : (run T D (n + 7) 39 [.obj m] S).wp (ST S m fr nd md as (fs ++ [{ f with pl := f.pl + 1 }]) mk .non want fresh en (ringV l w)) noX :=
  step_lp h he (c := 1) (by omega) (ring_lp h hx fun S' h' k' => ⟨rfl, h', k'⟩)
/-- ... behind a caught one -/
theorem step_caught {l : Int} {w : Str} (h : MS S m fr nd md as (fs ++ [f] ++ [caughtF b 1]) [] .non want fresh en) (he : en.2 = false) (hx : f.rows[f.pl]? = some (ringV l w)) : (run T D (n + 7) 39 [.obj m] S).wp (fun v S' => ∃ as', ST S m fr nd md as' (fs ++ [{ f with pl := f.pl + 1 }]) [] .non want fresh en (ringV l w) v S') noX := by
  obtain ⟨as0, a, rfl⟩ := h.snoc
  refine step_lp h he (c := 2) (by omega) (lp_on h ((caught_end h (by simp)).then ?_))
  rintro _ S1 ⟨rfl, h1, k1⟩
  exact .inl ⟨rfl, ring_lp h1 hx fun S' h' k' => ⟨_, rfl, h', k1.trans k'⟩⟩
/-- what is ahead: the faults, at the innermost one left -/
def Pend (m fr nd md : Nat) (inner : List Val) (bs : List Blk) (F : List Str) (fresh : Int) (k : Nat) (S : Store) : Prop :=
  ∀ S1, Le S S1 → methV T 36 (.obj m) S1 = some (39, []) ∧ ∀ (n : Nat) (P : Val → Store → Prop) (c : Nat), c ≤ 900 + k →
    (∀ S' as, MS S' m fr nd md as ((FR inner bs).take (k + 1)) [] (faultsV F) .non fresh enN → Ky fr md S1 S' → LP n m c S' P) → (run T D (n + 7) 39 [.obj m] S1).wp P noX
theorem Pend.le (h : Pend m fr nd md inner bs F fresh k S) (l : Le S S') : Pend m fr nd md inner bs F fresh k S' := fun S1 l1 => h S1 (l.trans l1)
theorem Pend.m36 (h : Pend m fr nd md inner bs F fresh k S) : methV T 36 (.obj m) S = some (39, []) := (h S (Le.refl _)).1
/-- one that says nothing -/
theorem Pend.sil (h : Pend m fr nd md inner bs (f0 :: F) fresh (k + 1) S) (hF : (FR inner bs).take (k + 1 + 1) = (FR inner bs).take (k + 1) ++ [frOf b rows fk 1]) (hs : Sil b f0) : Pend m fr nd md inner bs (f0 :: F) fresh k S := by
  refine fun S0 l0 => ⟨(h S0 l0).1, fun n P c hc hl => (h S0 l0).2 n P (c + 1) (by omega) fun S' as h' k' => ?_⟩
  rw [hF] at h'
  obtain ⟨as0, a, rfl⟩ := h'.snoc
  refine lp_out h' ((out_sil (n := n + 2) h' hs (by simp [FR])).then ?_)
  rintro _ S2 ⟨rfl, h2, k2⟩
  exact .inl ⟨rfl, hl _ _ h2 (k'.trans k2)⟩
/-- one that speaks -/
theorem Pend.go (h : Pend m fr nd md inner bs F fresh k S) (ho : ∀ S' as, MS S' m fr nd md as ((FR inner bs).take (k + 1)) [] (faultsV F) .non fresh enN → Ky fr md S S' → (run T D (n + 6) 44 [.obj m] S').wp (fun v S' => isNon v = false ∧ FIN n m v S' P) noX) : (run T D (n + 7) 39 [.obj m] S).wp P noX :=
  (h S (Le.refl _)).2 n P 1 (by omega) fun S' as h' k' => lp_out h' ((ho S' as h' k').then fun v S2 hv => .inr hv)
theorem Pend.of_sig (h : MS S m fr nd md as ((FR inner bs).take (k + 1)) [] (faultsV F) .non fresh enN) (hk : k ≤ 50) : Pend m fr nd md inner bs F fresh k S :=
  fun S0 l0 => ⟨(h.le l0).mm rfl rfl, fun n P c hc hl => step_lp (h.le l0) rfl (by omega) (hl S0 as (h.le l0) Ky.refl)⟩
theorem Pend.of_clean (h : MS S m fr nd md as ((FR inner bs).take (k + 1) ++ [cleanF b 1 (faultsV F)]) [] .non .non fresh enN) (hk : k ≤ 50) : Pend m fr nd md inner bs F fresh k S := by
  refine fun S0 l0 => ⟨(h.le l0).mm rfl rfl, fun n P c hc hl => ?_⟩
  replace h := h.le l0
  obtain ⟨as0, a, rfl⟩ := h.snoc
  refine step_lp h rfl (c := c + 1) (by omega) (lp_on h ((clean_end h (by simp [FR])).then ?_))
  rintro _ S2 ⟨rfl, h2, k2⟩
  exact .inl ⟨rfl, hl _ _ h2 k2⟩
/-- what the next step tells -/
def DUE (m fr nd md : Nat) (fresh : Int) (d o : Val) (S : Store) : Prop :=
  methV T 36 (.obj m) S = some (39, []) ∧ ∀ n, (run T D (n + 7) 39 [.obj m] S).wp (fun v S' => v = d ∧ (∃ as fs, MS S' m fr nd md as fs [] .non .non fresh (o, false)) ∧ Ky fr md S S') noX
/-- do: two steps -/
theorem do_step1 (h : Pend m fr nd md inner bs F fresh (k + 1) S) (hb : b.kd = .do_) (hF : (FR inner bs).take (k + 1 + 1) = (FR inner bs).take (k + 1) ++ [frOf b rows fk 1]) :
    (run T D (n + 7) 39 [.obj m] S).wp (fun v S' => v = cleanV b ∧ (∃ as, MS S' m fr nd md as ((FR inner bs).take (k + 1) ++ [cleanF b 0 (faultsV F)]) [] .non .non fresh enN) ∧ Ky fr md S S') noX := by
  refine h.go fun S1 as h1 k1 => ?_
  rw [hF] at h1
  obtain ⟨as0, a, rfl⟩ := h1.snoc
  refine (out_do (n := n + 3) h1 hb).then ?_
  rintro _ S2 ⟨rfl, h2, k2⟩
  exact ⟨rfl, fin_word (.inl rfl) ⟨rfl, ⟨_, h2⟩, k1.trans k2⟩⟩
theorem do_step2 (h : MS S m fr nd md as ((FR inner bs).take (k + 1) ++ [cleanF b 0 (faultsV F)]) [] .non .non fresh enN) (hk : k ≤ 50) :
    (run T D (n + 7) 39 [.obj m] S).wp (fun v S' => v = ringV (100 + b.ln) "clean" ∧ Pend m fr nd md inner bs F fresh k S' ∧ Ky fr md S S') noX := by
  refine (step_ring h rfl (l := 100 + b.ln) (w := "clean") rfl).then ?_
  rintro _ S2 ⟨rfl, h2, k2⟩
  exact ⟨rfl, Pend.of_clean h2 hk, k2⟩
theorem fV_ok {n : Nat} {S : Store} {F : List Str} : Dat (n + 1) S (fV F) := Dat_tup fun x hx => by
  obtain ⟨y, _, rfl⟩ := List.mem_map.mp hx
  exact Dat_str
theorem eq_halt {S : Store} : eqD S (haltV b fk F) (haltV b fk F) = some true := eqD_refl (Dat_tup (by simp; exact fV_ok))
theorem eq_left {S : Store} : eqD S (leftV b fk) (leftV b fk) = some true := eqD_refl (Dat_tup (by simp))
theorem eq_caught {S : Store} : eqD S (caughtV b F) (caughtV b F) = some true := eqD_refl (Dat_tup (by simp; exact fV_ok))
theorem eq_clean {S : Store} : eqD S (cleanV b) (cleanV b) = some true := eqD_refl (Dat_tup (by simp))
theorem eq_ring {S : Store} {l : Int} {w : Str} : eqD S (ringV l w) (ringV l w) = some true := eqD_refl (Dat_tup (by simp))
theorem eq_faults {S : Store} : eqD S (faultsV F) (faultsV F) = some true := eqD_refl (Dat_tup (by simp; exact fV_ok))
theorem eq_end {S : Store} : eqD S (endV F) (endV F) = some true := eqD_refl (Dat_tup (by simp; exact Dat_tup (by simp; exact fV_ok)))
/-- a group halts, and is left -/
theorem halt_step (h : Pend m fr nd md inner bs F fresh (k + 1) S) (hb : b.kd = .group) (hF : (FR inner bs).take (k + 1 + 1) = (FR inner bs).take (k + 1) ++ [frOf b rows fk 1]) :
    (run T D (n + 7) 39 [.obj m] S).wp (fun v S' => v = haltV b fk F ∧ (∃ as, MS S' m fr nd md as ((FR inner bs).take (k + 1) ++ [haltF b rows fk .non]) [] .non (haltV b fk F) fresh enN) ∧ Ky fr md S S') noX := by
  refine h.go fun S1 as h1 k1 => ?_
  rw [hF] at h1
  obtain ⟨as0, a, rfl⟩ := h1.snoc
  refine (out_group (n := n + 3) h1 hb).then ?_
  rintro _ S2 ⟨rfl, h2, k2⟩
  exact ⟨rfl, fin_halt h2 fun S3 h3 k3 => ⟨rfl, ⟨_, h3⟩, k1.trans (k2.trans k3)⟩⟩
theorem left_step (h : MS S m fr nd md as (fs ++ [haltF b rows fk (fV F)]) [] .non .non fresh enN) :
    (run T D (n + 7) 39 [.obj m] S).wp (fun v S' => v = leftV b fk ∧ (∃ as, MS S' m fr nd md as fs [] (sg F) .non fresh enN) ∧ Ky fr md S S') noX := by
  obtain ⟨as0, a, rfl⟩ := h.snoc
  refine step_lp h rfl (c := 1) (by omega) (lp_on h ((group_end h).then ?_))
  rintro _ S3 ⟨rfl, h3, k3⟩
  exact .inr ⟨rfl, fin_word (.inr (.inr (.inl rfl))) ⟨rfl, ⟨_, h3⟩, k3⟩⟩
/-- a try catches -/
theorem caught_step (h : Pend m fr nd md inner bs (f0 :: F) fresh (k + 1) S) (hb : b.kd = .try_) (hh : hit b f0 = true) (hF : (FR inner bs).take (k + 1 + 1) = (FR inner bs).take (k + 1) ++ [frOf b rows fk 1]) :
    (run T D (n + 7) 39 [.obj m] S).wp (fun v S' => v = caughtV b (f0 :: F) ∧ (∃ as, MS S' m fr nd md as ((FR inner bs).take (k + 1) ++ [caughtF b 0]) [] .non .non fresh enN) ∧ Ky fr md S S') noX := by
  refine h.go fun S1 as h1 k1 => ?_
  rw [hF] at h1
  obtain ⟨as0, a, rfl⟩ := h1.snoc
  refine (out_caught (n := n + 2) h1 hb hh).then ?_
  rintro _ S2 ⟨y, rfl, h2, k2⟩
  exact ⟨rfl, fin_word (.inr (.inl rfl)) ⟨rfl, ⟨_, h2⟩, k1.trans k2⟩⟩
/-- the errand has ended -/
theorem Pend.due (h : Pend m fr nd md inner bs F fresh 0 S) : DUE m fr nd md fresh (endV F) (faultsV F) S := by
  refine ⟨h.m36, fun n => ?_⟩
  refine h.go fun S1 as h1 k1 => ?_
  have e : (FR inner bs).take (0 + 1) = [base (nest inner bs) 1] := rfl
  rw [e] at h1
  obtain ⟨as0, a, rfl⟩ := (show MS S1 m fr nd md as ([] ++ [base (nest inner bs) 1]) [] (faultsV F) .non fresh enN from h1).snoc
  have al := h1.al
  simp at al
  subst al
  refine (out_base (n := n + 2) h1).then ?_
  rintro _ S2 ⟨rfl, h2, k2⟩
  exact ⟨rfl, fin_word (.inr (.inr (.inr (.inr rfl)))) ⟨rfl, ⟨_, _, h2⟩, k1.trans k2⟩⟩
theorem ring_due (hb : bs[k]? = some b) (h : MS S m fr nd md as ((FR inner bs).take (k + 1)) [] .non .non fresh enN) : DUE m fr nd md fresh (ringV (200 + b.ln) "behind") .non S := by
  refine ⟨h.mm rfl rfl, fun n => ?_⟩
  obtain ⟨L, f, hL, hpl, hrow⟩ := top_at (inner := inner) hb
  rw [hL] at h
  refine (step_ring h rfl (by rw [hpl]; exact hrow)).then ?_
  rintro _ S2 ⟨rfl, h2, k2⟩
  exact ⟨rfl, ⟨_, _, h2⟩, k2⟩
theorem caught_due (hb : bs[k]? = some b) (h : MS S m fr nd md as ((FR inner bs).take (k + 1) ++ [caughtF b 1]) [] .non .non fresh enN) : DUE m fr nd md fresh (ringV (200 + b.ln) "behind") .non S := by
  refine ⟨h.mm rfl rfl, fun n => ?_⟩
  obtain ⟨L, f, hL, hpl, hrow⟩ := top_at (inner := inner) hb
  rw [hL] at h
  refine (step_caught h rfl (by rw [hpl]; exact hrow)).then ?_
  rintro _ S2 ⟨as2, rfl, h2, k2⟩
  exact ⟨rfl, ⟨_, _, h2⟩, k2⟩
end
end Nw.k54

set_option Elab.async false
set_option linter.all false
set_option maxRecDepth 100000
set_option maxHeartbeats 4000000
namespace Nw.k54
open PySem L2 Nw
section
variable {S S' S0 : Store} {m fr nd md n q a pl c k j fl : Nat} {as : List Nat} {fs : List Fr} {mk : List (Key × Val)} {sig want v x : Val} {en : En} {fresh s g fr' fk : Int} {f : Fr} {b : Blk} {rows inner : List Val} {bs : List Blk} {Q : Po} {P : Val → Store → Prop} {F : List Str} {f0 : Str} {d o : Val} {e4 e5 e6 e7 : Option Val}
theorem add_l {x : Str} (h : F.length ≤ 30) : binV .add S (fV F) (.tup [.str x]) = .ok (fV (F ++ [x])) S := by
  have : F.length + 1 ≤ line := by rw [lineq]; omega
  simp [binV, addV, fV, this]
theorem add_r {x : Str} (h : F.length ≤ 30) : binV .add S (.tup [.str x]) (fV F) = .ok (fV (x :: F)) S := by
  have : 1 + F.length ≤ line := by rw [lineq]; omega
  simp [binV, addV, fV, this]
theorem lit_fV {xs : List (List Str)} {z : Int} (h0 : 0 ≤ z) (h1 : z < xs.length) : ∃ F', F' ∈ xs ∧ ixV (S ++ [.lst false (xs.map fV)]) (.obj S.length) (.int z) = some (fV F') := by
  have hz : z.toNat < xs.length := by omega
  refine ⟨xs[z.toNat], List.getElem_mem _, ?_⟩
  rw [seqI (at_end _ _), atI_pos h0, List.getElem?_map, List.getElem?_eq_getElem hz]; rfl
/-- halted -/
theorem sp57 (h : Pend m fr nd md inner bs F fresh (k + 1) S) (hb : b.kd = .group) (hl : F.length ≤ 20) (hF : (FR inner bs).take (k + 1 + 1) = (FR inner bs).take (k + 1) ++ [frOf b rows fk 1]) :
    (run T D (n + 8) 57 [.obj m, .int b.ln, .int fk, fV F, .int b.pk] S).wp (fun v S' => ∃ F', v = fV F' ∧ F'.length ≤ F.length + 1 ∧ (∃ as, MS S' m fr nd md as ((FR inner bs).take (k + 1)) [] (sg F') .non fresh enN) ∧ Ky fr md S S') noX := by
  rw [r57]
  have e0 := fun S => @eq_halt fk b F S
  have e1 := fun S => @eq_left fk b S
  simp only [haltV, leftV] at e0 e1
  simp [b57, lineq]
  simp [b57_3, h.m36]
  refine (halt_step h hb hF).then ?_
  rintro _ S1 ⟨rfl, ⟨as, h1⟩, k1⟩
  simp only [haltV] at h1 ⊢
  simp [e0, ifV_false, h1.mm (k := 37) (x := (32, [])) rfl rfl]
  refine (sp32 h1).then ?_
  rintro _ _ ⟨rfl, rfl⟩
  simp [e0]
  have hm := k54.md (b.pk / 7) (k := 6) (by omega)
  obtain ⟨F', hF', hlit⟩ := lit_fV (S := S1) (xs := [F, F ++ [Str.ofString "lost"], Str.ofString "first" :: F, [Str.ofString "oops"], F, []]) hm.1 (by simpa using hm.2)
  have hlit' : ixV (S1 ++ [.lst false [fV F, fV (F ++ [Str.ofString "lost"]), fV (Str.ofString "first" :: F), .tup [.str "oops"], fV F, .tup []]]) (.obj S1.length) (.int (b.pk / 7 % 6)) = some (fV F') := hlit
  have hlen : F'.length ≤ F.length + 1 := by
    simp at hF'
    rcases hF' with rfl | rfl | rfl | rfl | rfl | rfl <;> simp
  have a1 := fun S => @add_l S F "lost" (by omega)
  have a2 := fun S => @add_r S F "first" (by omega)
  simp only [b57_2, ex_seq, wp_seq]
  simp [a1, a2, lineq, hlit']
  have l1 := Le.app S1 [.lst false [fV F, fV (F ++ [Str.ofString "lost"]), fV (Str.ofString "first" :: F), .tup [.str "oops"], fV F, .tup []]]
  generalize S1 ++ [Obj.lst false [fV F, fV (F ++ [Str.ofString "lost"]), fV (Str.ofString "first" :: F), .tup [.str "oops"], fV F, .tup []]] = S2 at l1 ⊢
  have h2 := h1.le l1
  obtain ⟨as0, a, rfl⟩ := h2.snoc
  simp [b57_1, h2.mm (k := 38) (x := (38, [])) rfl rfl]
  refine (sp38 (F := F') h2).then ?_
  rintro _ S3 ⟨rfl, h3, k3⟩
  have hnn : isNon .non = true := rfl
  simp [hnn, xorB, ifV_false, h3.mm (k := 36) (x := (39, [])) rfl rfl]
  refine (left_step h3).then ?_
  rintro _ S4 ⟨rfl, h4, k4⟩
  simp only [leftV]
  simp [lineq, e1]
  exact ⟨F', rfl, hlen, h4, k1.trans ((Ky.of l1).trans (k3.trans k4))⟩
theorem sv_0 {S : Store} {p : Option Int × Bool} : ixV S (sv p) (.int 0) = some (ov p.1) := tix0
theorem hit_sel {ln pk : Int} : (sel ["boom", "oops", f0] (pk % 3) == f0) = hit ⟨.try_, ln, pk⟩ f0 := by
  have hm := k54.md pk (k := 3) (by omega)
  unfold hit flt
  show _ = ((Str.ofString "any" == sel ["boom", "oops", "any"] (pk % 3)) || (f0 == sel ["boom", "oops", "any"] (pk % 3)))
  generalize pk % 3 = z at hm ⊢
  have : z = 0 ∨ z = 1 ∨ z = 2 := by omega
  rcases this with rfl | rfl | rfl
  · have e1 : sel ["boom", "oops", f0] 0 = Str.ofString "boom" := rfl
    have e2 : sel ["boom", "oops", "any"] 0 = Str.ofString "boom" := rfl
    have e3 : (Str.ofString "any" == Str.ofString "boom") = false := by decide +kernel
    rw [e1, e2, e3]
    exact (BEq.comm).trans (Bool.false_or _).symm
  · have e1 : sel ["boom", "oops", f0] 1 = Str.ofString "oops" := rfl
    have e2 : sel ["boom", "oops", "any"] 1 = Str.ofString "oops" := rfl
    have e3 : (Str.ofString "any" == Str.ofString "oops") = false := by decide +kernel
    rw [e1, e2, e3]
    exact (BEq.comm).trans (Bool.false_or _).symm
  · have e1 : sel ["boom", "oops", f0] 2 = f0 := rfl
    have e2 : sel ["boom", "oops", "any"] 2 = Str.ofString "any" := rfl
    rw [e1, e2]
    simp
def OR (m fr nd md : Nat) (fresh : Int) (S : Store) (v : Val) (S' : Store) : Prop :=
  ((∃ l, v = ringV l "behind" ∧ DUE m fr nd md fresh v .non S') ∨ (∃ F, v = endV F ∧ DUE m fr nd md fresh v (faultsV F) S')) ∧ Ky fr md S S'
end
end Nw.k54

set_option Elab.async false
set_option linter.all false
set_option maxRecDepth 100000
set_option maxHeartbeats 4000000
namespace Nw.k54
open PySem L2 Nw
section
variable {S S' S0 : Store} {m fr nd md n q a pl c k j fl : Nat} {as : List Nat} {fs : List Fr} {mk : List (Key × Val)} {sig want v x : Val} {en : En} {fresh s g fr' fk : Int} {f : Fr} {b : Blk} {rows inner : List Val} {bs : List Blk} {Q : Po} {P : Val → Store → Prop} {F : List Str} {f0 : Str} {d o : Val} {e4 e5 e6 e7 : Option Val}
/-- faults go on -/
theorem out_go {w : Str} (hF : F ≠ []) (hw : (w == Str.ofString "try") = false) (hQ : ∀ e5 e6 e7, Q.nx [some (.obj m), some (.obj q), some (.obj fl), some (fV F), some (.int j), e5, e6, e7] S) :
    (ex T (run T D (n + 8)) b58_3 [some (.obj m), some (.obj q), some (.obj fl), some (fV F), some (.int j), some (.str w), e6, e7] S).wp Q := by
  have e0 : eqD S (fV F) (.tup []) = some false := by rw [eq_nil]; simp [hF]
  simp [b58_3, e0, b58_2, hw, ifV_false]
  exact hQ _ _ _
/-- a turn -/
theorem out_turn (h : Pend m fr nd md inner bs (f0 :: F) fresh (j + 1) S) (hb : bs[j]? = some b) (hl : bs.length ≤ 7) (hfl20 : F.length ≤ 18) (hq : S[q]? = some (.lst false (bs.map bv))) (hfl : S[fl]? = some (.lst false ((sfr0 bs).map sv)))
    (hret : ∀ v S', OR m fr nd md fresh S v S' → Q.rt v S')
    (hnx : ∀ e5 e6 e7 S' F', Pend m fr nd md inner bs F' fresh j S' → Ky fr md S S' → F' ≠ [] → F'.length ≤ F.length + 2 → Q.nx [some (.obj m), some (.obj q), some (.obj fl), some (fV F'), some (.int j), e5, e6, e7] S') :
    (ex T (run T D (n + 8)) b58_6 [some (.obj m), some (.obj q), some (.obj fl), some (fV (f0 :: F)), some (.int j), e5, e6, e7] S).wp Q := by
  obtain ⟨fk, hfk, hF, hs⟩ := fr_at (inner := inner) hb
  have hj := (List.getElem?_eq_some_iff.mp hb).1
  have hix : ixV S (.obj q) (.int j) = some (bv b) := by
    rw [seqI hq, atI_pos (by omega)]; simp [hb]
  have ixf : ixV S (.obj fl) (.int ((j : Int) + 1)) = some (sv (scof fk b, hid b)) := by
    rw [seqI hfl, atI_pos (by omega)]
    have : ((j : Int) + 1).toNat = j + 1 := by omega
    rw [this, List.getElem?_map, hs]; rfl
  have sil : Sil b f0 → Pend m fr nd md inner bs (f0 :: F) fresh j S := fun hs => h.sil hF hs
  obtain ⟨kd, ln, pk⟩ := b
  cases kd
  · -- group
    simp [b58_6, hix, bv, tgt, setAll, ofNx, ifV_true, ifV_false, kw, b58_5, b58_4, ixf, sv_0, scof, isGL, ov]
    refine (sp57 h rfl (by simp; omega) hF).then ?_
    rintro _ S2 ⟨F', rfl, hl2, ⟨as, h2⟩, k2⟩
    simp at hl2
    have hnn : isNon (fV F') = false := rfl
    simp [b58_1, hnn, xorB]
    by_cases hF' : F' = []
    · have e1 : sg F' = .non := by simp [sg, hF']
      rw [e1] at h2
      have e0 : eqD S2 (fV F') (.tup []) = some true := by rw [eq_nil]; simp [hF']
      simp [b58_3, e0, lineq]
      exact hret _ _ ⟨.inl ⟨200 + ln, rfl, ring_due hb h2⟩, k2⟩
    · have e1 : sg F' = faultsV F' := by simp [sg, hF']
      rw [e1] at h2
      exact out_go hF' rfl fun e5 e6 e7 => hnx _ _ _ _ _ (Pend.of_sig h2 (by omega)) k2 hF' (by omega)
  · simp [b58_6, hix, bv, tgt, setAll, ofNx, ifV_true, ifV_false, kw, b58_5, b58_4]
    exact out_go (by simp) rfl fun e5 e6 e7 => hnx _ _ _ _ _ (sil ⟨by simp, by simp, fun z => by cases z⟩) Ky.refl (by simp) (by simp)
  · simp [b58_6, hix, bv, tgt, setAll, ofNx, ifV_true, ifV_false, kw, b58_5, b58_4]
    exact out_go (by simp) rfl fun e5 e6 e7 => hnx _ _ _ _ _ (sil ⟨by simp, by simp, fun z => by cases z⟩) Ky.refl (by simp) (by simp)
  · -- try
    have e0 : eqD S (fV (f0 :: F)) (.tup []) = some false := by rw [eq_nil]; simp
    have i1 : ∀ S, ixV S (fV (f0 :: F)) (.int 0) = some (.str f0) := fun S => tix0
    have hm := k54.md pk (k := 3) (by omega)
    have hlit := lit_strs (S := S) (xs := ["boom", "oops", f0]) hm.1 (by simpa using hm.2)
    have hsel := @hit_sel f0 ln pk
    simp at hlit
    generalize sel ["boom", "oops", f0] (pk % 3) = w at hlit hsel
    simp [b58_6, hix, bv, tgt, setAll, ofNx, ifV_true, ifV_false, kw, b58_5, b58_4, b58_3, e0, b58_2, i1, lineq, hlit]
    have l1 := Le.app S [Obj.lst false [.str "boom", .str "oops", .str f0]]
    generalize S ++ [Obj.lst false [.str "boom", .str "oops", .str f0]] = S1 at l1 ⊢
    have h1 := h.le l1
    refine ⟨fun e => ?_, fun e => ?_⟩
    · have hh : hit ⟨.try_, ln, pk⟩ f0 = true := by rw [← hsel]; simpa using e
      simp [h1.m36]
      refine (caught_step (n := n + 1) h1 rfl hh hF).then ?_
      rintro _ S2 ⟨rfl, ⟨as, h2⟩, k2⟩
      have el := fun S => @eq_caught ⟨.try_, ln, pk⟩ (f0 :: F) S
      simp only [caughtV] at el ⊢
      simp [lineq, el, ifV_false, h2.mm (k := 36) (x := (39, [])) rfl rfl]
      refine (step_ring (n := n + 1) h2 rfl (l := 100 + ln) (w := "caught") rfl).then ?_
      rintro _ S3 ⟨rfl, h3, k3⟩
      have e1 := fun S => @eq_ring S (100 + ln) "caught"
      simp only [ringV] at e1 ⊢
      simp [lineq, e1]
      exact hret _ _ ⟨.inl ⟨200 + ln, rfl, caught_due hb h3⟩, (Ky.of l1).trans (k2.trans k3)⟩
    · have hh : hit ⟨.try_, ln, pk⟩ f0 = false := by rw [← hsel]; simpa using e
      exact hnx _ _ _ _ _ ((sil ⟨by simp, by simp, fun _ => hh⟩).le l1) (Ky.of l1) (by simp) (by simp)
  · -- do
    simp [b58_6, hix, bv, tgt, setAll, ofNx, ifV_true, ifV_false, kw, b58_5, h.m36]
    refine (do_step1 (n := n + 1) h rfl hF).then ?_
    rintro _ S2 ⟨rfl, ⟨as, h2⟩, k2⟩
    have el := fun S => @eq_clean ⟨.do_, ln, pk⟩ S
    simp only [cleanV] at el ⊢
    simp [lineq, el, ifV_false, h2.mm (k := 36) (x := (39, [])) rfl rfl]
    refine (do_step2 (n := n + 1) h2 (by omega)).then ?_
    rintro _ S3 ⟨rfl, h3, k3⟩
    have e1 := fun S => @eq_ring S (100 + ln) "clean"
    simp only [ringV] at e1 ⊢
    simp [lineq, e1, b58_4]
    exact out_go (by simp) rfl fun e5 e6 e7 => hnx _ _ _ _ _ h3 (k2.trans k3) (by simp) (by simp)
  · simp [b58_6, hix, bv, tgt, setAll, ofNx, ifV_true, ifV_false, kw, b58_5, b58_4]
    exact out_go (by simp) rfl fun e5 e6 e7 => hnx _ _ _ _ _ (sil ⟨by simp, by simp, fun z => by cases z⟩) Ky.refl (by simp) (by simp)
  · simp [b58_6, hix, bv, tgt, setAll, ofNx, ifV_true, ifV_false, kw, b58_5, b58_4]
    exact out_go (by simp) rfl fun e5 e6 e7 => hnx _ _ _ _ _ (sil ⟨by simp, by simp, fun z => by cases z⟩) Ky.refl (by simp) (by simp)
end
end Nw.k54

set_option Elab.async false
set_option linter.all false
set_option maxRecDepth 100000
set_option maxHeartbeats 4000000
namespace Nw.k54
open PySem L2 Nw
section
variable {S S' S0 : Store} {m fr nd md n q fl : Nat} {g fresh : Int} {b : Blk} {inner : List Val} {bs : List Blk} {L0 : Option Val}
theorem sfr_len : ∀ {bs : List Blk} {f : Int}, (sfr f bs).length = bs.length
  | [], _ => rfl
  | b :: bs, f => by simp [sfr, sfr_len (bs := bs)]
theorem rng_rev {L k : Nat} {x : Val} (hx : (rangeL 0 L).reverse[k]? = some x) : k < L ∧ x = .int ((L - 1 - k : Nat) : Int) := by
  have hk : k < L := by have := (List.getElem?_eq_some_iff.mp hx).1; simpa [rangeL] using this
  refine ⟨hk, ?_⟩
  rw [List.getElem?_reverse (by simpa [rangeL] using hk)] at hx
  simp [rangeL, hk] at hx
  rw [List.getElem?_range (by omega)] at hx
  simp at hx
  exact hx.symm
def OI (m fr nd md q fl : Nat) (inner : List Val) (bs : List Blk) (fresh : Int) (S : Store) (k : Nat) (env : Env) (S' : Store) : Prop :=
  ∃ F e4 e5 e6 e7, env = [some (.obj m), some (.obj q), some (.obj fl), some (fV F), e4, e5, e6, e7] ∧ Pend m fr nd md inner bs F fresh (bs.length - k) S' ∧ Ky fr md S S' ∧ F ≠ [] ∧ F.length ≤ k + 1
/-- out -/
theorem sp58 {ft : Str} (h : Pend m fr nd md inner bs [ft] fresh bs.length S) (hl : bs.length ≤ 7) (hq : S[q]? = some (.lst false (bs.map bv))) (hfl : S[fl]? = some (.lst false ((sfr0 bs).map sv))) (hqf : q ≠ fr) (hqm : q ≠ md) (hff : fl ≠ fr) (hfm : fl ≠ md) :
    (run T D (n + 9) 58 [.obj m, .obj q, .obj fl, .tup [.str ft]] S).wp (OR m fr nd md fresh S) noX := by
  rw [r58]
  obtain ⟨z, hz⟩ : ∃ z : Int, z = bs.length := ⟨_, rfl⟩
  have hln : lenV S [.obj q] = .ok (.int z) S := by simp [lenV, hq, hz]
  have hw : mkWalk .rvr S [.int z] = some (.sq (rangeL 0 bs.length).reverse, bs.length) := by
    have : small (bs.length : Int) = true := by simp [small]; omega
    rw [hz]
    simp [mkWalk, wkRvr, this]
  simp [b58, biV, hln]
  refine wp_for (OI m fr nd md q fl inner bs fresh S) (rangeL 0 bs.length).reverse hw (by simp [rangeL]) ⟨[ft], none, none, none, none, rfl, h, Ky.refl, by simp, by simp⟩ (fun _ _ _ _ => rfl) ?_ ?_
  · rintro k x env S2 hx ⟨F, e4, e5, e6, e7, rfl, hP, k2, hF1, hF2⟩
    obtain ⟨hk, rfl⟩ := rng_rev hx
    obtain ⟨j, hj⟩ : ∃ j, bs.length - k = j + 1 := ⟨bs.length - k - 1, by omega⟩
    have ej : bs.length - 1 - k = j := by omega
    have ej2 : bs.length - (k + 1) = j := by omega
    rw [hj] at hP
    rw [ej]
    refine ⟨_, by simp [tgt]; rfl, ?_⟩
    cases F with
    | nil => exact absurd rfl hF1
    | cons f0 F =>
      simp at hF2
      refine out_turn (b := bs[j]) hP (List.getElem?_eq_getElem (by omega)) hl (by omega) (k2.1 _ _ hq (by simp) hqf hqm) (k2.1 _ _ hfl (by simp) hff hfm) ?_ ?_
      · rintro v S3 ⟨hv, k3⟩
        exact ⟨hv, k2.trans k3⟩
      · intro e5 e6 e7 S3 F' h3 k3 h4 h5
        exact ⟨F', _, _, _, _, rfl, by rw [ej2]; exact h3, k2.trans k3, h4, by omega⟩
  · rintro env S2 ⟨F, e4, e5, e6, e7, rfl, hP, k2, hF1, hF2⟩
    have e0 : bs.length - (rangeL 0 bs.length).reverse.length = 0 := by simp [rangeL]
    rw [e0] at hP
    simp [lineq]
    exact ⟨.inr ⟨F, rfl, hP.due⟩, k2⟩
end
/-! ## the machine is made, the blocks entered -/
section
variable {S S' : Store} {n : Nat}
theorem sf {S : Store} {i c k : Nat} {fs : List (Nat × Val)} {env : Env} {u : Val} (h : S[i]? = some (.ins c fs)) (hf : T.isF c k = true) (hl : fs.length < 1000) : setFV T k env u (.obj i) S = .nx env (S.set i (.ins c (fput k u fs))) := by simp [setFV, h, hf, hl]
/-- a machine made -/
theorem sp26 {m : Nat} {rows : List Val} (h : S[m]? = some (.ins 7 [])) : (run T D (n + 2) 26 [.obj m, .tup rows] S).wp (fun v S' => v = .non ∧ (∃ fr nd md f, MS S' m fr nd md [f] [base rows 0] [] .non .non 1 enN ∧ S.length ≤ fr ∧ S.length ≤ md) ∧ (∀ (i : Nat) o, S[i]? = some o → i ≠ m → S'[i]? = some o) ∧ S.length ≤ S'.length) noX := by
  rw [r26]
  have hm := lt_ob h
  have isf : ∀ k ∈ [11, 12, 13, 14, 15, 16, 17, 18, 19], T.isF 7 k = true := by decide
  simp [b26]
  refine (sp1 (S := S) (c := 0) (by omega)).then ?_
  rintro _ _ ⟨rfl, rfl⟩
  simp [newV, lineq]
  obtain ⟨f, hf⟩ : ∃ f, f = S.length := ⟨_, rfl⟩
  have hfm : f ≠ m := by omega
  rw [← hf]
  have l0 := Le.app S [Obj.ins 0 (bas rows 0 (.int 0)), .lst false [.obj f]]
  have f0 : (S ++ [Obj.ins 0 (bas rows 0 (.int 0)), .lst false [.obj f]])[f]? = some (.ins 0 (bas rows 0 (.int 0))) := by rw [hf]; exact at0
  have r0 : (S ++ [Obj.ins 0 (bas rows 0 (.int 0)), .lst false [.obj f]])[f + 1]? = some (.lst false [.obj f]) := by rw [hf]; exact at1
  have k0 : ∀ (i : Nat) o, S[i]? = some o → i ≠ m → (S ++ [Obj.ins 0 (bas rows 0 (.int 0)), .lst false [.obj f]])[i]? = some o := fun i o e _ => l0 _ _ e
  have n0 : S.length ≤ (S ++ [Obj.ins 0 (bas rows 0 (.int 0)), .lst false [.obj f]]).length := l0.len
  have m0 := l0 _ _ h
  generalize S ++ [Obj.ins 0 (bas rows 0 (.int 0)), .lst false [.obj f]] = U at f0 r0 k0 n0 m0
  simp [sf m0 (isf 11 (by simp)), fput]
  have f1 := set_ne (u := Obj.ins 7 [(11, .obj (f + 1))]) f0 hfm
  have r1' := set_ne (u := Obj.ins 7 [(11, .obj (f + 1))]) r0 (show f + 1 ≠ m by omega)
  have m1 := set_eq (u := Obj.ins 7 [(11, .obj (f + 1))]) m0
  have k1 : ∀ (i : Nat) o, S[i]? = some o → i ≠ m → (U.set m (.ins 7 [(11, .obj (f + 1))]))[i]? = some o := fun i o e a => set_ne (k0 i o e a) a
  have n1 : S.length ≤ (U.set m (.ins 7 [(11, .obj (f + 1))])).length := by simpa using n0
  generalize U.set m (.ins 7 [(11, .obj (f + 1))]) = U1 at f1 r1' m1 k1 n1
  -- names
  simp [b26_7]
  have l2 := Le.app U1 [Obj.dK false []]
  have d2 := at_end U1 (Obj.dK false [])
  have hd : U1.length ≠ m := by have := lt_ob m1; omega
  obtain ⟨nd, hnd⟩ : ∃ nd, nd = U1.length := ⟨_, rfl⟩
  rw [← hnd] at d2 hd ⊢
  have L2 : (U1 ++ [Obj.dK false []]).length = nd + 1 := by simp [hnd]
  have f2 := l2 _ _ f1
  have r2' := l2 _ _ r1'
  have m2 := l2 _ _ m1
  have k2 : ∀ (i : Nat) o, S[i]? = some o → i ≠ m → (U1 ++ [Obj.dK false []])[i]? = some o := fun i o e a => l2 _ _ (k1 i o e a)
  have n2 : S.length ≤ (U1 ++ [Obj.dK false []]).length := by omega
  generalize U1 ++ [Obj.dK false []] = U2 at f2 r2' m2 k2 n2 d2 L2
  simp [sf m2 (isf 12 (by simp)), fput]
  have f3 := set_ne (u := Obj.ins 7 [(11, .obj (f + 1)), (12, .obj nd)]) f2 hfm
  have r3' := set_ne (u := Obj.ins 7 [(11, .obj (f + 1)), (12, .obj nd)]) r2' (show f + 1 ≠ m by omega)
  have m3 := set_eq (u := Obj.ins 7 [(11, .obj (f + 1)), (12, .obj nd)]) m2
  have d3 := set_ne (u := Obj.ins 7 [(11, .obj (f + 1)), (12, .obj nd)]) d2 hd
  have k3 : ∀ (i : Nat) o, S[i]? = some o → i ≠ m → (U2.set m (.ins 7 [(11, .obj (f + 1)), (12, .obj nd)]))[i]? = some o := fun i o e a => set_ne (k2 i o e a) a
  have L3 : (U2.set m (.ins 7 [(11, .obj (f + 1)), (12, .obj nd)])).length = nd + 1 := by simpa using L2
  generalize U2.set m (.ins 7 [(11, .obj (f + 1)), (12, .obj nd)]) = U3 at f3 r3' m3 k3 d3 L3
  -- marks
  simp [b26_6]
  have l4 := Le.app U3 [Obj.dK false []]
  have e4 := at_end U3 (Obj.dK false [])
  rw [L3] at e4 ⊢
  have hlt : m < nd + 1 := by have := lt_ob m3; omega
  have f4 := l4 _ _ f3
  have r4' := l4 _ _ r3'
  have m4 := l4 _ _ m3
  have d4 := l4 _ _ d3
  have k4 : ∀ (i : Nat) o, S[i]? = some o → i ≠ m → (U3 ++ [Obj.dK false []])[i]? = some o := fun i o e a => l4 _ _ (k3 i o e a)
  have n4 : S.length ≤ (U3 ++ [Obj.dK false []]).length := by simp; omega
  generalize U3 ++ [Obj.dK false []] = U4 at f4 r4' m4 d4 k4 n4 e4
  have fin : ∀ u : Obj, ∃ U5, U5 = U4.set m u ∧ U5[m]? = some u := fun u => ⟨_, rfl, set_eq m4⟩
  simp [sf m4 (isf 13 (by simp)), fput]
  have m5 := set_eq (u := Obj.ins 7 [(11, .obj (f + 1)), (12, .obj nd), (13, .obj (nd + 1))]) m4
  simp [b26_5, sf m5 (isf 14 (by simp)), fput, List.set_set]
  have m6 := set_eq (u := Obj.ins 7 [(11, .obj (f + 1)), (12, .obj nd), (13, .obj (nd + 1)), (14, .non)]) m4
  simp [b26_4, sf m6 (isf 15 (by simp)), fput, List.set_set]
  have m7 := set_eq (u := Obj.ins 7 [(11, .obj (f + 1)), (12, .obj nd), (13, .obj (nd + 1)), (14, .non), (15, .non)]) m4
  simp [b26_3, sf m7 (isf 16 (by simp)), fput, List.set_set]
  have m8 := set_eq (u := Obj.ins 7 [(11, .obj (f + 1)), (12, .obj nd), (13, .obj (nd + 1)), (14, .non), (15, .non), (16, .bl false)]) m4
  simp [b26_2, sf m8 (isf 17 (by simp)), fput, List.set_set]
  have m9 := set_eq (u := Obj.ins 7 [(11, .obj (f + 1)), (12, .obj nd), (13, .obj (nd + 1)), (14, .non), (15, .non), (16, .bl false), (17, .int 0)]) m4
  have m10 := set_eq (u := Obj.ins 7 [(11, .obj (f + 1)), (12, .obj nd), (13, .obj (nd + 1)), (14, .non), (15, .non), (16, .bl false), (17, .int 0), (18, .int 1)]) m4
  simp [b26_1, sf m9 (isf 18 (by simp)), fput, List.set_set, sf m10 (isf 19 (by simp))]
  have lnd : S.length ≤ nd := by omega
  exact ⟨⟨f + 1, nd, nd + 1, ⟨f, ⟨set_eq m4, set_ne r4' (by omega), set_ne d4 hd, set_ne e4 (by omega), by omega, rfl, fun i x y e1 e2 => by
    cases i with
    | zero => cases e1; cases e2; exact set_ne f4 hfm
    | succ i => simp at e1, fun y hy => by simp at hy; subst hy; exact base_ok, by simp, fun x hx => by simp at hx; omega, by simp, by simp⟩⟩, by omega, by omega⟩, fun i o e a => set_ne (k4 i o e a) a, by omega⟩
end
section
variable {S S' : Store} {m fr nd md n q a pl k : Nat} {as : List Nat} {fs : List Fr} {mk : List (Key × Val)} {sig want v x : Val} {fresh s g : Int} {f : Fr} {b : Blk} {bs : List Blk} {rows inner : List Val} {Q : Po}
theorem eq_due {fresh : Int} : eqD S (due b fresh) (due b fresh) = some true := by
  refine eqD_refl ?_
  obtain ⟨kd, ln, pk⟩ := b
  cases kd <;> exact Dat_tup (by simp)
theorem hd_frOf {fr' : Int} {pl : Nat} : (frOf b rows fr' pl).hd = hid b := by
  obtain ⟨kd, ln, pk⟩ := b
  cases kd <;> rfl
theorem FS_next : FS (fs ++ [{ f with pl := f.pl + 1 }]) = FS (fs ++ [f]) := by simp [FS, Fr.hd]
/-- the machine stands ahead of the block k -/
def At (S : Store) (m fr nd md : Nat) (inner : List Val) (bs : List Blk) (k : Nat) (fresh : Int) : Prop :=
  ∃ as a fs f, MS S m fr nd md (as ++ [a]) (fs ++ [f]) [] .non .non fresh enN ∧ f.pl = 0 ∧ f.rows = nest inner (bs.drop k) ∧ (fs ++ [f]).length = k + 1 ∧ fs ++ [{ f with pl := 1 }] ++ fo inner fresh (bs.drop k) = FR inner bs
theorem At.step (h : At S m fr nd md inner bs k fresh) (hb : bs[k]? = some b) (hl : bs.length ≤ 7) : (run T D (n + 7) 39 [.obj m] S).wp (fun v S' => v = due b fresh ∧ At S' m fr nd md inner bs (k + 1) (nxf fresh b) ∧ Ky fr md S S') noX := by
  obtain ⟨as, a, fs, f, h, hp, hr, hk, hF⟩ := h
  have hkl := (List.getElem?_eq_some_iff.mp hb).1
  rw [drop_at hb] at hr hF
  have hx : f.rows[f.pl]? = some (rowOf b (nest inner (bs.drop (k + 1)))) := by rw [hr, hp]; rfl
  simp at hk
  refine (sp39b h rfl (by omega) hx).then ?_
  rintro v S' ⟨rfl, ⟨y, h2⟩, k2⟩
  refine ⟨rfl, ⟨as ++ [a], y, fs ++ [{ f with pl := f.pl + 1 }], _, h2, rfl, rfl, by simp [hk], ?_⟩, k2⟩
  rw [← hF, hp]
  simp [fo, frOf]
def EI (m fr nd md q : Nat) (inner : List Val) (bs : List Blk) (S : Store) (k : Nat) (env : Env) (S' : Store) : Prop :=
  ∃ fresh e3 e4 e5 e6, env = [some (.obj m), some (.obj q), some (.int fresh), e3, e4, e5, e6] ∧ At S' m fr nd md inner bs k fresh ∧ Ky fr md S S'
/-- entered, of the law -/
theorem sp56 (h : At S m fr nd md inner bs 0 1) (hq : S[q]? = some (.lst false (bs.map bv))) (hl : bs.length ≤ 7) (hqf : q ≠ fr) (hqm : q ≠ md) : (run T D (n + 8) 56 [.obj m, .obj q] S).wp (fun v S' => v = .bl true ∧ (∃ fresh, At S' m fr nd md inner bs bs.length fresh) ∧ Ky fr md S S') noX := by
  rw [r56]
  simp [b56]
  simp [b56_6]
  refine wp_for (EI m fr nd md q inner bs S) (bs.map bv) (walk_lst hq) (by simp) ⟨1, none, none, none, none, rfl, h, Ky.refl⟩ (fun k env S' ⟨_, _, _, _, _, _, _, l⟩ => by simp [walkAt, lst?, l.1 _ _ hq (by simp) hqf hqm]) ?_ ?_
  · rintro k x env S2 hx ⟨fresh, e3, e4, e5, e6, rfl, hA, k2⟩
    rw [List.getElem?_map] at hx
    cases hb : bs[k]? with
    | none => rw [hb] at hx; cases hx
    | some b =>
      rw [hb] at hx
      simp at hx
      subst hx
      refine ⟨_, by simp [tgt, bv]; rfl, ?_⟩
      have hm : methV T 36 (.obj m) S2 = some (39, []) := by
        obtain ⟨as, a, fs, f, h, _⟩ := hA
        exact h.mm rfl rfl
      have st := hA.step (n := n) hb hl
      have e0 := fun S => @eq_due S b fresh
      have fin : ∀ {Q : Po} {e3 e4 e5 : Option Val}, (∀ env S', EI m fr nd md q inner bs S (k + 1) env S' → Q.nx env S') → (ex T (run T D (n + 7)) b56_1 [some (.obj m), some (.obj q), some (.int (nxf fresh b)), e3, e4, e5, some (due b fresh)] S2).wp Q := by
        intro Q e3 e4 e5 hQ
        simp [b56_1, hm]
        refine st.then ?_
        rintro _ S3 ⟨rfl, hA3, k3⟩
        simp [e0]
        exact hQ _ _ ⟨_, _, _, _, _, rfl, hA3, k2.trans k3⟩
      obtain ⟨kd, ln, pk⟩ := b
      cases kd <;> simp [b56_5, b56_4, b56_3, b56_2, kw, mem2, lineq, biV, intV] <;> exact fin fun env S' h => h
  · rintro env S2 ⟨fresh, e3, e4, e5, e6, rfl, hA, k2⟩
    simp at hA
    simp
    exact ⟨⟨fresh, hA⟩, k2⟩
end
end Nw.k54

set_option Elab.async false
set_option linter.all false
set_option maxRecDepth 100000
set_option maxHeartbeats 4000000
namespace Nw.k54
open PySem L2 Nw
def raiseV (ft : Str) : Val := .tup [.str (Str.ofString "raise"), .int 90, .str ft]
def innerV (ft : Str) : List Val := [raiseV ft, hearV]
/-- lists and dicts stay -/
def KL (S S' : Store) : Prop := (∀ (i : Nat) o, S[i]? = some o → (∀ c fs, o ≠ .ins c fs) → S'[i]? = some o) ∧ S.length ≤ S'.length
section
variable {S0 S S' : Store} {m fr nd md n a q fl k : Nat} {as : List Nat} {fs : List Fr} {f : Fr} {want v : Val} {fresh t : Int} {bs : List Blk} {inner : List Val} {Q : Po} {en : En} {ft : Str}
theorem KL.ky (h : KL S0 S) (k : Ky fr md S S') (f1 : S0.length ≤ fr) (f2 : S0.length ≤ md) : KL S0 S' :=
  ⟨fun i o e no => by have := lt_ob e; exact k.1 i o (h.1 i o e no) no (by omega) (by omega), Nat.le_trans h.2 k.2⟩
theorem KL.le (h : KL S0 S) (l : Le S S') : KL S0 S' := ⟨fun i o e no => l _ _ (h.1 i o e no), Nat.le_trans h.2 l.len⟩
theorem sp46x (h : MS S m fr nd md as fs [] .non want fresh en) : (run T D (n + 4) 46 [.obj m, raiseV ft] S).wp (fun v S' => v = raiseV ft ∧ MS S' m fr nd md as fs [] (faultsV [ft]) want fresh en ∧ Ky fr md S S') noX := by
  have hr : ∀ s ∈ ["wait", "hear", "take", "ask"], ((Str.ofString s) == (Str.ofString "raise")) = false := by decide +kernel
  have q1 := hr "wait" (by simp)
  have q2 := hr "hear" (by simp)
  have q3 := hr "take" (by simp)
  have q4 := hr "ask" (by simp)
  obtain ⟨h1, k1⟩ := h.set (faultsV [ft]) want fresh en
  have e : Val.tup [.str (Str.ofString "faults"), .tup [.str ft]] = faultsV [ft] := rfl
  rw [r46]
  simp only [raiseV]
  simp [b46, tix0, b46_8, tix1, b46_7, flat, eqF, xorB, b46_6, q1, q2, q3, q4, tix2, lineq, e, h.s14]
  exact ⟨h1, k1⟩
theorem step_raise (h : MS S m fr nd md as (fs ++ [f]) [] .non .non fresh enN) (hx : f.rows[f.pl]? = some (raiseV ft)) : (run T D (n + 7) 39 [.obj m] S).wp (fun v S' => v = raiseV ft ∧ MS S' m fr nd md as (fs ++ [{ f with pl := f.pl + 1 }]) [] (faultsV [ft]) .non fresh enN ∧ Ky fr md S S') noX := by
  obtain ⟨as0, a, rfl⟩ := h.snoc
  refine step_lp h rfl (c := 1) (by omega) (lp_on h (sp42 (n := n + 1) h hx rfl fun S1 h1 k1 => (sp46x h1).then ?_))
  rintro _ S2 ⟨rfl, h2, k2⟩
  refine .inr ⟨rfl, ?_⟩
  have hl : ∀ s ∈ ["wait", "hear", "take", "ask", "join", "halt"], ((Str.ofString s) == (Str.ofString "raise")) = false := by decide +kernel
  have l1 := hl "wait" (by simp)
  have l2 := hl "hear" (by simp)
  have l3 := hl "take" (by simp)
  have l4 := hl "ask" (by simp)
  have l5 := hl "join" (by simp)
  have l6 := hl "halt" (by simp)
  unfold FIN
  simp only [raiseV]
  simp [b39_2, tix0, flat, eqF, xorB, mem2, lineq, ifV_false, l1, l2, l3, l4, l5, l6]
  exact ⟨h2, k1.trans k2⟩
theorem At.le (h : At S m fr nd md inner bs k fresh) (l : Le S S') : At S' m fr nd md inner bs k fresh :=
  let ⟨as, a, fs, f, h, r⟩ := h; ⟨as, a, fs, f, h.le l, r⟩
theorem At.mm (h : At S m fr nd md inner bs k fresh) : methV T 36 (.obj m) S = some (39, []) := by
  obtain ⟨as, a, fs, f, h, _⟩ := h
  exact h.mm rfl rfl
theorem eq_raise {S : Store} : eqD S (raiseV ft) (raiseV ft) = some true := eqD_refl (Dat_tup (by simp))
theorem sp34' (h : MS S m fr nd md as fs [] .non want fresh en) : (run T D (n + 1) 34 [.obj m] S).wp (fun v S' => v = en.1 ∧ S = S') noX := sp34 h
/-- what the law asks in the end -/
theorem law_end {Sx : Store} (hd : OR m fr nd md fresh Sx v S) (kl : KL S0 S) (hf : S0.length ≤ fr) (hm : S0.length ≤ md) {e3 : Option Val} :
    (fin (ex T (run T D (n + 9)) b59_2 [some (.obj 0), some (.int t), some (.obj q), e3, some (.obj m), some v] S)).wp (fun v S' => v = .bl true ∧ KL S0 S') noX := by
  obtain ⟨hd, k0⟩ := hd
  rcases hd with ⟨l, rfl, d1, d2⟩ | ⟨F, rfl, d1, d2⟩
  · have hnn : isNon (ringV l "behind") = false := rfl
    have hre : ((Str.ofString "ring") == (Str.ofString "ended")) = false := by decide +kernel
    have hnn2 : isNon .non = true := rfl
    simp [b59_2, hnn, xorB, ifV_false, d1]
    refine (d2 (n + 2)).then ?_
    rintro _ S2 ⟨rfl, ⟨as, fs, h2⟩, k2⟩
    have i0 : ixV S2 (ringV l "behind") (.int 0) = some (.str (Str.ofString "ring")) := tix0
    simp [eq_ring, b59_1, i0, hre, h2.mm (k := 39) (x := (34, [])) rfl rfl]
    refine (sp34 h2).then ?_
    rintro _ _ ⟨rfl, rfl⟩
    simp [hnn2, xorB, ifV_true, h2.mm (k := 37) (x := (32, [])) rfl rfl]
    refine (sp32 h2).then ?_
    rintro _ _ ⟨rfl, rfl⟩
    simp [hnn2, xorB]
    exact kl.ky k2 hf hm
  · have hnn : isNon (endV F) = false := rfl
    simp [b59_2, hnn, xorB, ifV_false, d1]
    refine (d2 (n + 2)).then ?_
    rintro _ S2 ⟨rfl, ⟨as, fs, h2⟩, k2⟩
    have i0 : ixV S2 (endV F) (.int 0) = some (.str (Str.ofString "ended")) := tix0
    have i2 : ixV S2 (endV F) (.int 2) = some (faultsV F) := tix2
    simp [eq_end, b59_1, i0, h2.mm (k := 39) (x := (34, [])) rfl rfl]
    refine (sp34 h2).then ?_
    rintro _ _ ⟨rfl, rfl⟩
    simp [i2, eq_faults]
    exact kl.ky k2 hf hm
/-- right -/
theorem sp59 {ns : List Int} (hs : S[0]? = some (.lst true (ns.map .int))) (hl : ns.length ≤ 63) (ht0 : 0 ≤ t) (ht1 : t ≤ 9) : (run T D (n + 10) 59 [.obj 0, .int t] S).wp (fun v S' => v = .bl true ∧ KL S S') noX := by
  rw [r59]
  simp [b59]
  refine (sp52 ht0 ht1 hs hl).then ?_
  rintro _ S1 ⟨q, bs, rfl, l1, hq1, eq, hb⟩
  have s1 := l1 _ _ hs
  simp [b59_6, lineq]
  have lL := Le.app S1 [Obj.lst false [.str "boom", .str "oops"]]
  have hlit0 : ∀ z : Int, 0 ≤ z → z < 2 → ixV (S1 ++ [Obj.lst false [.str "boom", .str "oops"]]) (.obj S1.length) (.int z) = some (.str (sel ["boom", "oops"] z)) := fun z h0 h1 => lit_strs (S := S1) (xs := ["boom", "oops"]) h0 (by simpa using h1)
  generalize S1 ++ [Obj.lst false [.str "boom", .str "oops"]] = SL at lL hlit0 ⊢
  have sL := lL _ _ s1
  have eqL := lL _ _ eq
  have lenL := lL.len
  refine (sp50 sL (by omega)).then ?_
  rintro _ _ ⟨rfl, c, rfl⟩
  refine (sp51 ht0 (by omega)).then ?_
  rintro _ _ ⟨rfl, draw, rfl⟩
  have hm2 := k54.md draw (k := 2) (by omega)
  simp [hlit0 _ hm2.1 hm2.2]
  generalize sel ["boom", "oops"] (draw % 2) = ft
  simp [b59_5, lineq]
  refine (sp53 (inner := innerV ft) eqL hb).then ?_
  rintro _ S2 ⟨rfl, l2⟩
  have s2 := l2 _ _ sL
  have eq2 := l2 _ _ eqL
  refine (sp26 (at_end S2 (.ins 7 []))).then ?_
  rintro _ S3 ⟨rfl, ⟨fr, nd, md, f, ms, hfr, hmd⟩, keep, len⟩
  have k3 : ∀ {i : Nat} {o : Obj}, S2[i]? = some o → S3[i]? = some o := fun e => keep _ _ (Le.app _ _ _ _ e) (by have := lt_ob e; omega)
  have s3 := k3 s2
  have eq3 := k3 eq2
  have hqlt := lt_ob eq2
  have len1 := l1.len
  have len2 := l2.len
  simp at hfr hmd len
  have kl3 : KL S S3 := ⟨fun i o e _ => k3 (l2 _ _ (lL _ _ (l1 _ _ e))), by omega⟩
  generalize S2.length = m at ms hfr hmd hqlt len len1 len2
  have at3 : At S3 m fr nd md (innerV ft) bs 0 1 := ⟨[], f, [], base (nest (innerV ft) bs) 0, ms, rfl, by simp [base], rfl, rfl⟩
  have hfrlt := lt_ob ms.hfr
  have hmdlt := lt_ob ms.hmd
  simp only [newV_non, Res.bind_ok, wp_ok]
  simp only [b59_4, ex_seq, wp_seq]
  refine wp_ite_of (fun t S8 => t = false ∧ ∃ as fresh, MS S8 m fr nd md as (FR (innerV ft) bs) [] (faultsV [ft]) .non fresh enN ∧ S8[q]? = some (.lst false (bs.map bv)) ∧ KL S S8) ?_ ?_ ?_
  · simp
    refine (sp56 (n := n + 1) at3 eq3 hb (by omega) (by omega)).then ?_
    rintro _ S7 ⟨rfl, ⟨fresh, at7⟩, k7⟩
    simp [ifV_true, ifV_false, at7.mm]
    obtain ⟨as, a, fs, f, ms7, hp, hr, hlen, hF⟩ := at7
    have e0 : bs.drop bs.length = [] := by simp
    rw [e0] at hr hF
    have hr' : f.rows = innerV ft := hr
    have hF' : fs ++ [{ f with pl := f.pl + 1 }] = FR (innerV ft) bs := by rw [← hF, hp]; simp [fo]
    have hwx : f.rows[f.pl]? = some (raiseV ft) := by rw [hr', hp]; rfl
    refine (step_raise (n := n + 2) ms7 hwx).then ?_
    rintro _ S8 ⟨rfl, ms8, k8⟩
    have ew : ∀ S, eqD S (raiseV ft) (.tup [.str (Str.ofString "raise"), .int 90, .str ft]) = some true := fun S => eq_raise
    simp [lineq, ew]
    have k78 := k7.trans k8
    rw [hF'] at ms8
    exact ⟨⟨_, fresh, ms8⟩, k78.1 _ _ eq3 (by simp) (by omega) (by omega), kl3.ky k78 (by omega) (by omega)⟩
  · rintro S8 ⟨z, _⟩; cases z
  · rintro S8 ⟨_, as, fresh, ms8, eq8, kl8⟩
    simp [b59_3]
    refine (sp54 eq8 hb).then ?_
    rintro _ S9 ⟨fl, rfl, l9, hfl, efl⟩
    have ms9 := ms8.le l9
    have eq9 := l9 _ _ eq8
    have hfr8 := lt_ob ms8.hfr
    have hmd8 := lt_ob ms8.hmd
    have hP : Pend m fr nd md (innerV ft) bs [ft] fresh bs.length S9 := Pend.of_sig (by
      rw [List.take_of_length_le (by rw [FR_len]; omega)]
      exact ms9) (by omega)
    simp [lineq]
    refine (sp58 (n := n) hP hb eq9 efl (by omega) (by omega) (by omega) (by omega)).then ?_
    intro v S10 hOR
    have kl10 := (kl8.le l9).ky hOR.2 (by omega) (by omega)
    have := law_end (n := n) (t := t) (q := q) (e3 := some (.str ft)) hOR kl10 (by omega) (by omega)
    simpa using this
end
/-! ## the law -/
theorem four {turn : Val → Store → Res (Option Val)} {o0 : Obj} {d : Nat} (xs : List Val) (hl : xs.length ≤ 100) (no : ∀ c fs, o0 ≠ .ins c fs) (hd : 0 < d) (ht : ∀ x ∈ xs, ∀ S, S[0]? = some o0 → (turn x S).wp (fun y S' => y = some (.bl true) ∧ KL S S') noX) :
    ∀ (n k : Nat) (S : Store), n + k = xs.length + 1 → k ≤ xs.length → S[0]? = some o0 → S[d]? = some (.lst false (List.replicate k (.bl true))) → (compW turn (.sq xs) d n k S).wp (fun v S' => v = .obj d ∧ S'[d]? = some (.lst false (List.replicate xs.length (.bl true)))) noX
  | 0, k, S, h1, h2, _, _ => by omega
  | n + 1, k, S, h1, h2, h0, h3 => by
    unfold compW
    have hw : walkAt S (.sq xs) k = some xs[k]? := rfl
    rw [hw]
    by_cases hk : k < xs.length
    · rw [List.getElem?_eq_getElem hk]
      have := ht _ (List.getElem_mem hk) S h0
      cases eo : turn xs[k] S with
      | ok y S1 =>
        rw [eo] at this
        obtain ⟨rfl, k1⟩ := this
        have e3 := k1.1 _ _ h3 (by simp)
        have e0 := k1.1 _ _ h0 no
        have hlt : (List.replicate k (Val.bl true)).length < line := by rw [lineq]; simp; omega
        have ih := four xs hl no hd ht n (k + 1) (S1.set d (.lst false (List.replicate k (.bl true) ++ [.bl true]))) (by omega) (by omega) (set_ne e0 (by omega)) (by rw [set_eq e3, List.replicate_succ'])
        simp only [eo, e3, if_pos hlt]
        exact ih
      | ex x S1 => rw [eo] at this; exact this.elim
      | no => rw [eo] at this; exact this.elim
    · have e : k = xs.length := by omega
      subst e
      have : xs[xs.length]? = none := by simp
      rw [this]
      exact ⟨rfl, h3⟩
theorem sp60 {S : Store} {n : Nat} {ns : List Int} (hs : S[0]? = some (.lst true (ns.map .int))) (hl : ns.length ≤ 63) : (run T D (n + 11) 60 [.obj 0] S).wp (fun v S' => v = .bl true) noX := by
  rw [r60]
  simp [b60]
  have hw : mkWalk .range S [.int 6] = some (.sq (rangeL 0 6), 6) := rfl
  unfold compV
  rw [hw]
  have h0 : 0 < S.length := lt_ob hs
  refine (four (rangeL 0 6) (by decide) (by simp) h0 (fun x hx S1 hs1 => ?_) 7 0 (S ++ [.lst false []]) (by simp [rangeL]) (by omega) (Le.app _ _ _ _ hs) (at_end _ _)).then ?_
  · have : ∃ i : Nat, i < 6 ∧ x = .int i := by
      simp [rangeL] at hx
      obtain ⟨i, hi, e⟩ := hx
      exact ⟨i, hi, e.symm⟩
    obtain ⟨i, hi, rfl⟩ := this
    generalize hti : (i : Int) = ti
    simp [compT, tgt, setAll, ifV_true]
    refine (sp59 (n := n) hs1 hl (by omega) (by omega)).then ?_
    rintro _ S2 ⟨rfl, k2⟩
    exact ⟨rfl, k2⟩
  · rintro _ S2 ⟨rfl, e2⟩
    have : List.replicate (rangeL 0 6).length (Val.bl true) = [.bl true, .bl true, .bl true, .bl true, .bl true, .bl true] := rfl
    rw [this] at e2
    simp [biV, allV, e2, boolOf]
theorem plain : ∀ ns : List Int, ns.length ≤ 63 → ∃ S, run T D 11 60 [.obj 0] [.lst true (ns.map .int)] = .ok (.bl true) S := fun ns hl => by
  have h := sp60 (n := 0) (S := [.lst true (ns.map .int)]) rfl hl
  cases e : run T D (0 + 11) 60 [.obj 0] [.lst true (ns.map .int)] with
  | ok v S' => rw [e] at h; exact ⟨S', by cases (show v = .bl true from h); rfl⟩
  | ex x S' => rw [e] at h; exact h.elim
  | no => rw [e] at h; exact h.elim
end Nw.k54

set_option Elab.async false
set_option linter.all false
set_option maxRecDepth 100000
set_option maxHeartbeats 4000000
namespace Nw.k54
open PySem L2 Nw
/-! what the text is, checked -/
def top (i : Nat) : Stmt := PySem.Challenge.pw_nightwatch_k54_faults_go_out.main.body.getD i (.Pass ⟨0, 0, 0, 0⟩)
def NM : List Str := (["rows", "line", "scope", "place", "left", "fault", "others", "cleaning", "held", "named", "noted", "frames", "names", "marks", "signal", "want", "struck", "given", "fresh", "end", "hides", "target", "go_out", "go_on", "next_row"] : List Str) ++ (["done", "over", "waits", "leave", "clean", "ended", "drop", "meets", "value_of", "group_of", "entered", "step", "waiting", "joined", "outcome"] : List Str)
def Z : Tb where
  NM := NM
  fns := [("_wall", 0), ("_law_cell_at", 50), ("_law_mixed", 51), ("_law_chain", 52), ("_law_nested", 53), ("_law_scopes", 54), ("_law_entered", 56), ("_law_halted", 57), ("_law_out", 58), ("_law_right", 59)]
  cls := [("Frame", (0, 1)), ("Rounds", (1, 7)), ("Kept", (2, 1)), ("Tried", (3, 11)), ("Cleaned", (4, 14)), ("Limited", (5, 20)), ("Grouped", (6, 23)), ("Machine", (7, 26))]
  dss := [(1, [.non])]
  bl := ["all", "int", "isinstance", "len", "list", "min", "range", "reversed"]
  cst := [("WAITING", ["wait", "hear", "take", "ask"])]
  mts := [(20, 0), (21, 0), (22, 0), (23, 0), (24, 0), (25, 1), (26, 0), (27, 1), (28, 1), (29, 1), (30, 1), (31, 0), (32, 1), (33, 1), (34, 1), (35, 1), (36, 0), (37, 0), (38, 1), (39, 0)]
  cn := [0, 1, 2, 3, 4, 5, 6, 7]
  exs := []
  exr := []
  gc := []
  cfn := [(("Frame", "__init__"), 1), (("Frame", "behind"), 6)]
  isc := [("Cleaned", 4), ("Grouped", 6)]
def N0 : List Str := ["k"]
def P0 : List Str := ["k"]
abbrev s0 : Stmt := top 0
theorem ck0 : okD Z T ⟨1, 1, b0⟩ N0 P0 s0 = true := by decide +kernel
def N1 : List Str := ["self", "rows", "line", "scope"]
def P1 : List Str := ["self", "rows", "line", "scope"]
abbrev s1 : Stmt := inClass (top 2) 0
theorem ck1 : okD Z T ⟨4, 4, b1⟩ N1 P1 s1 = true := by decide +kernel
def N2 : List Str := ["self"]
def P2 : List Str := ["self"]
abbrev s2 : Stmt := inClass (top 2) 1
theorem ck2 : okD Z T ⟨1, 1, b2⟩ N2 P2 s2 = true := by decide +kernel
def N3 : List Str := ["self"]
def P3 : List Str := ["self"]
abbrev s3 : Stmt := inClass (top 2) 2
theorem ck3 : okD Z T ⟨1, 1, b3⟩ N3 P3 s3 = true := by decide +kernel
def N4 : List Str := ["self"]
def P4 : List Str := ["self"]
abbrev s4 : Stmt := inClass (top 2) 3
theorem ck4 : okD Z T ⟨1, 1, b4⟩ N4 P4 s4 = true := by decide +kernel
def N5 : List Str := ["self", "signal"]
def P5 : List Str := ["self", "signal"]
abbrev s5 : Stmt := inClass (top 2) 4
theorem ck5 : okD Z T ⟨2, 2, b5⟩ N5 P5 s5 = true := by decide +kernel
def N6 : List Str := ["self"]
def P6 : List Str := ["self"]
abbrev s6 : Stmt := inClass (top 2) 5
theorem ck6 : okD Z T ⟨1, 1, b6⟩ N6 P6 s6 = true := by decide +kernel
def N7 : List Str := ["self", "rows", "line", "many"]
def P7 : List Str := ["self", "rows", "line", "many"]
abbrev s7 : Stmt := inClass (top 3) 0
theorem ck7 : okD Z T ⟨4, 4, b7⟩ N7 P7 s7 = true := by decide +kernel
def N8 : List Str := ["self"]
def P8 : List Str := ["self"]
abbrev s8 : Stmt := inClass (top 3) 1
theorem ck8 : okD Z T ⟨1, 1, b8⟩ N8 P8 s8 = true := by decide +kernel
def N9 : List Str := ["self"]
def P9 : List Str := ["self"]
abbrev s9 : Stmt := inClass (top 3) 2
theorem ck9 : okD Z T ⟨1, 1, b9⟩ N9 P9 s9 = true := by decide +kernel
def N10 : List Str := ["self"]
def P10 : List Str := ["self"]
abbrev s10 : Stmt := inClass (top 4) 0
theorem ck10 : okD Z T ⟨1, 1, b10⟩ N10 P10 s10 = true := by decide +kernel
def N11 : List Str := ["self", "rows", "line", "fault", "others"]
def P11 : List Str := ["self", "rows", "line", "fault", "others"]
abbrev s11 : Stmt := inClass (top 5) 0
theorem ck11 : okD Z T ⟨5, 5, b11⟩ N11 P11 s11 = true := by decide +kernel
def N12 : List Str := ["self", "signal"]
def P12 : List Str := ["self", "signal"]
abbrev s12 : Stmt := inClass (top 5) 1
theorem ck12 : okD Z T ⟨2, 2, b12⟩ N12 P12 s12 = true := by decide +kernel
def N13 : List Str := ["self"]
def P13 : List Str := ["self"]
abbrev s13 : Stmt := inClass (top 5) 2
theorem ck13 : okD Z T ⟨1, 1, b13⟩ N13 P13 s13 = true := by decide +kernel
def N14 : List Str := ["self", "rows", "line", "others"]
def P14 : List Str := ["self", "rows", "line", "others"]
abbrev s14 : Stmt := inClass (top 6) 0
theorem ck14 : okD Z T ⟨4, 4, b14⟩ N14 P14 s14 = true := by decide +kernel
def N15 : List Str := ["self", "signal"]
def P15 : List Str := ["self", "signal"]
abbrev s15 : Stmt := inClass (top 6) 1
theorem ck15 : okD Z T ⟨2, 2, b15⟩ N15 P15 s15 = true := by decide +kernel
def N16 : List Str := ["self"]
def P16 : List Str := ["self"]
abbrev s16 : Stmt := inClass (top 6) 2
theorem ck16 : okD Z T ⟨1, 1, b16⟩ N16 P16 s16 = true := by decide +kernel
def N17 : List Str := ["self"]
def P17 : List Str := ["self"]
abbrev s17 : Stmt := inClass (top 6) 3
theorem ck17 : okD Z T ⟨1, 1, b17⟩ N17 P17 s17 = true := by decide +kernel
def N18 : List Str := ["self", "signal"]
def P18 : List Str := ["self", "signal"]
abbrev s18 : Stmt := inClass (top 6) 4
theorem ck18 : okD Z T ⟨2, 2, b18⟩ N18 P18 s18 = true := by decide +kernel
def N19 : List Str := ["self"]
def P19 : List Str := ["self"]
abbrev s19 : Stmt := inClass (top 6) 5
theorem ck19 : okD Z T ⟨1, 1, b19⟩ N19 P19 s19 = true := by decide +kernel
def N20 : List Str := ["self", "rows", "line", "scope", "others"]
def P20 : List Str := ["self", "rows", "line", "scope", "others"]
abbrev s20 : Stmt := inClass (top 7) 0
theorem ck20 : okD Z T ⟨5, 5, b20⟩ N20 P20 s20 = true := by decide +kernel
def N21 : List Str := ["self", "signal"]
def P21 : List Str := ["self", "signal"]
abbrev s21 : Stmt := inClass (top 7) 1
theorem ck21 : okD Z T ⟨2, 2, b21⟩ N21 P21 s21 = true := by decide +kernel
def N22 : List Str := ["self"]
def P22 : List Str := ["self"]
abbrev s22 : Stmt := inClass (top 7) 2
theorem ck22 : okD Z T ⟨1, 1, b22⟩ N22 P22 s22 = true := by decide +kernel
def N23 : List Str := ["self", "rows", "line", "scope", "named"]
def P23 : List Str := ["self", "rows", "line", "scope", "named"]
abbrev s23 : Stmt := inClass (top 8) 0
theorem ck23 : okD Z T ⟨5, 5, b23⟩ N23 P23 s23 = true := by decide +kernel
def N24 : List Str := ["self"]
def P24 : List Str := ["self"]
abbrev s24 : Stmt := inClass (top 8) 1
theorem ck24 : okD Z T ⟨1, 1, b24⟩ N24 P24 s24 = true := by decide +kernel
def N25 : List Str := ["self", "signal"]
def P25 : List Str := ["self", "signal"]
abbrev s25 : Stmt := inClass (top 8) 2
theorem ck25 : okD Z T ⟨2, 2, b25⟩ N25 P25 s25 = true := by decide +kernel
def N26 : List Str := ["self", "rows"]
def P26 : List Str := ["self", "rows"]
abbrev s26 : Stmt := inClass (top 11) 0
theorem ck26 : okD Z T ⟨2, 2, b26⟩ N26 P26 s26 = true := by decide +kernel
def N27 : List Str := ["self", "value"]
def P27 : List Str := ["self", "value"]
abbrev s27 : Stmt := inClass (top 11) 1
theorem ck27 : okD Z T ⟨2, 2, b27⟩ N27 P27 s27 = true := by decide +kernel
def N28 : List Str := ["self", "scope", "word"]
def P28 : List Str := ["self", "scope", "word"]
abbrev s28 : Stmt := inClass (top 11) 2
theorem ck28 : okD Z T ⟨3, 3, b28⟩ N28 P28 s28 = true := by decide +kernel
def N29 : List Str := ["self", "scope"]
def P29 : List Str := ["self", "scope"]
abbrev s29 : Stmt := inClass (top 11) 3
theorem ck29 : okD Z T ⟨2, 2, b29⟩ N29 P29 s29 = true := by decide +kernel
def N30 : List Str := ["self", "found", "frame"]
def P30 : List Str := ["self"]
abbrev s30 : Stmt := inClass (top 11) 4
theorem ck30 : okD Z T ⟨1, 3, b30⟩ N30 P30 s30 = true := by decide +kernel
def N31 : List Str := ["self", "frame"]
def P31 : List Str := ["self"]
abbrev s31 : Stmt := inClass (top 11) 5
theorem ck31 : okD Z T ⟨1, 2, b31⟩ N31 P31 s31 = true := by decide +kernel
def N32 : List Str := ["self"]
def P32 : List Str := ["self"]
abbrev s32 : Stmt := inClass (top 11) 6
theorem ck32 : okD Z T ⟨1, 1, b32⟩ N32 P32 s32 = true := by decide +kernel
def N33 : List Str := ["self"]
def P33 : List Str := ["self"]
abbrev s33 : Stmt := inClass (top 11) 7
theorem ck33 : okD Z T ⟨1, 1, b33⟩ N33 P33 s33 = true := by decide +kernel
def N34 : List Str := ["self"]
def P34 : List Str := ["self"]
abbrev s34 : Stmt := inClass (top 11) 8
theorem ck34 : okD Z T ⟨1, 1, b34⟩ N34 P34 s34 = true := by decide +kernel
def N35 : List Str := ["self"]
def P35 : List Str := ["self"]
abbrev s35 : Stmt := inClass (top 11) 9
theorem ck35 : okD Z T ⟨1, 1, b35⟩ N35 P35 s35 = true := by decide +kernel
def N36 : List Str := ["self", "value"]
def P36 : List Str := ["self", "value"]
abbrev s36 : Stmt := inClass (top 11) 10
theorem ck36 : okD Z T ⟨2, 2, b36⟩ N36 P36 s36 = true := by decide +kernel
def N37 : List Str := ["self", "fault"]
def P37 : List Str := ["self", "fault"]
abbrev s37 : Stmt := inClass (top 11) 11
theorem ck37 : okD Z T ⟨2, 2, b37⟩ N37 P37 s37 = true := by decide +kernel
def N38 : List Str := ["self", "faults"]
def P38 : List Str := ["self", "faults"]
abbrev s38 : Stmt := inClass (top 11) 12
theorem ck38 : okD Z T ⟨2, 2, b38⟩ N38 P38 s38 = true := by decide +kernel
def N39 : List Str := ["self", "want"]
def P39 : List Str := ["self"]
abbrev s39 : Stmt := inClass (top 11) 13
theorem ck39 : okD Z T ⟨1, 2, b39⟩ N39 P39 s39 = true := by decide +kernel
def N40 : List Str := ["self", "frame"]
def P40 : List Str := ["self"]
abbrev s40 : Stmt := inClass (top 11) 14
theorem ck40 : okD Z T ⟨1, 2, b40⟩ N40 P40 s40 = true := by decide +kernel
def N41 : List Str := ["self", "outcome"]
def P41 : List Str := ["self", "outcome"]
abbrev s41 : Stmt := inClass (top 11) 15
theorem ck41 : okD Z T ⟨2, 2, b41⟩ N41 P41 s41 = true := by decide +kernel
def N42 : List Str := ["self", "frame", "row", "what"]
def P42 : List Str := ["self"]
abbrev s42 : Stmt := inClass (top 11) 16
theorem ck42 : okD Z T ⟨1, 4, b42⟩ N42 P42 s42 = true := by decide +kernel
def N43 : List Str := ["self", "frame"]
def P43 : List Str := ["self", "frame"]
abbrev s43 : Stmt := inClass (top 11) 17
theorem ck43 : okD Z T ⟨2, 2, b43⟩ N43 P43 s43 = true := by decide +kernel
def N44 : List Str := ["self", "frame", "signal", "what"]
def P44 : List Str := ["self"]
abbrev s44 : Stmt := inClass (top 11) 18
theorem ck44 : okD Z T ⟨1, 4, b44⟩ N44 P44 s44 = true := by decide +kernel
def N45 : List Str := ["self", "want", "goal"]
def P45 : List Str := ["self", "want"]
abbrev s45 : Stmt := inClass (top 11) 19
theorem ck45 : okD Z T ⟨2, 3, b45⟩ N45 P45 s45 = true := by decide +kernel
def N46 : List Str := ["self", "row", "word", "line", "scope"]
def P46 : List Str := ["self", "row"]
abbrev s46 : Stmt := inClass (top 11) 20
theorem ck46 : okD Z T ⟨2, 5, b46⟩ N46 P46 s46 = true := by decide +kernel
def N47 : List Str := ["self", "name", "frame"]
def P47 : List Str := ["self", "name"]
abbrev s47 : Stmt := inClass (top 11) 21
theorem ck47 : okD Z T ⟨2, 3, b47⟩ N47 P47 s47 = true := by decide +kernel
def N48 : List Str := ["self", "row", "word", "line", "scope"]
def P48 : List Str := ["self", "row"]
abbrev s48 : Stmt := inClass (top 11) 22
theorem ck48 : okD Z T ⟨2, 5, b48⟩ N48 P48 s48 = true := by decide +kernel
def N49 : List Str := ["self"]
def P49 : List Str := ["self"]
abbrev s49 : Stmt := inClass (top 11) 23
theorem ck49 : okD Z T ⟨1, 1, b49⟩ N49 P49 s49 = true := by decide +kernel
def N50 : List Str := ["_law_script", "_law_k"]
def P50 : List Str := ["_law_script", "_law_k"]
abbrev s50 : Stmt := top 13
theorem ck50 : okD Z T ⟨2, 2, b50⟩ N50 P50 s50 = true := by decide +kernel
def N51 : List Str := ["_law_cell", "_law_k", "_law_mixed_here"]
def P51 : List Str := ["_law_cell", "_law_k"]
abbrev s51 : Stmt := top 14
theorem ck51 : okD Z T ⟨2, 3, b51⟩ N51 P51 s51 = true := by decide +kernel
def N52 : List Str := ["_law_script", "_law_turn", "_law_chain_here", "_law_k", "_law_pick", "_law_kind"]
def P52 : List Str := ["_law_script", "_law_turn"]
abbrev s52 : Stmt := top 15
theorem ck52 : okD Z T ⟨2, 6, b52⟩ N52 P52 s52 = true := by decide +kernel
def N53 : List Str := ["_law_chain_here", "_law_inner", "_law_rows", "_law_kind", "_law_line", "_law_pick", "_law_row"]
def P53 : List Str := ["_law_chain_here", "_law_inner"]
abbrev s53 : Stmt := top 16
theorem ck53 : okD Z T ⟨2, 7, b53⟩ N53 P53 s53 = true := by decide +kernel
def N54 : List Str := ["_law_chain_here", "_law_found", "_law_fresh", "_law_kind", "_law_line", "_law_pick"]
def P54 : List Str := ["_law_chain_here"]
abbrev s54 : Stmt := top 17
theorem ck54 : okD Z T ⟨1, 6, b54⟩ N54 P54 s54 = true := by decide +kernel
def N56 : List Str := ["_law_machine", "_law_chain_here", "_law_fresh", "_law_kind", "_law_line", "_law_pick", "_law_due"]
def P56 : List Str := ["_law_machine", "_law_chain_here"]
abbrev s56 : Stmt := top 19
theorem ck56 : okD Z T ⟨2, 7, b56⟩ N56 P56 s56 = true := by decide +kernel
def N57 : List Str := ["_law_machine", "_law_line", "_law_scope", "_law_faults", "_law_pick", "_law_want", "_law_found"]
def P57 : List Str := ["_law_machine", "_law_line", "_law_scope", "_law_faults", "_law_pick"]
abbrev s57 : Stmt := top 20
theorem ck57 : okD Z T ⟨5, 7, b57⟩ N57 P57 s57 = true := by decide +kernel
def N58 : List Str := ["_law_machine", "_law_chain_here", "_law_frames", "_law_faults", "_law_k", "_law_kind", "_law_line", "_law_pick"]
def P58 : List Str := ["_law_machine", "_law_chain_here", "_law_frames", "_law_faults"]
abbrev s58 : Stmt := top 21
theorem ck58 : okD Z T ⟨4, 8, b58⟩ N58 P58 s58 = true := by decide +kernel
def N59 : List Str := ["_law_script", "_law_turn", "_law_chain_here", "_law_fault", "_law_machine", "_law_due"]
def P59 : List Str := ["_law_script", "_law_turn"]
abbrev s59 : Stmt := top 22
theorem ck59 : okD Z T ⟨2, 6, b59⟩ N59 P59 s59 = true := by decide +kernel
def N60 : List Str := ["_law_script", "_law_turn"]
def P60 : List Str := ["_law_script"]
abbrev s60 : Stmt := top 23
theorem ck60 : okD Z T ⟨1, 2, b60⟩ N60 P60 s60 = true := by decide +kernel
theorem nmNd : NM.Nodup := by decide +kernel
theorem facts {K : PySem.W.Frag} {h : Heap} {mg : Str → Option Value} {fa C0 C1 C2 C3 C4 C5 C6 C7 f0 f1 f2 f3 f4 f5 f6 f7 f8 f9 f10 f11 f12 f13 f14 f15 f16 f17 f18 f19 f20 f21 f22 f23 f24 f25 f26 f27 f28 f29 f30 f31 f32 f33 f34 f35 f36 f37 f38 f39 f40 f41 f42 f43 f44 f45 f46 f47 f48 f49 f50 f51 f52 f53 f54 f56 f57 f58 f59 f60 t1 t36 q0 : Addr} (X : K.In h) (G : h.Ns mainGlobals mg) (hfa : mg "law" = some (.ref fa)) {oc0 kV0 dc0 pm0 cd0 ct0 oc1 kV1 dc1 pm1 cd1 ct1 oc2 kV2 dc2 pm2 cd2 ct2 oc3 kV3 dc3 pm3 cd3 ct3 oc4 kV4 dc4 pm4 cd4 ct4 oc5 kV5 dc5 pm5 cd5 ct5 oc6 kV6 dc6 pm6 cd6 ct6 oc7 kV7 dc7 pm7 cd7 ct7 oc8 kV8 dc8 pm8 cd8 ct8 oc9 kV9 dc9 pm9 cd9 ct9 oc10 kV10 dc10 pm10 cd10 ct10 oc11 kV11 dc11 pm11 cd11 ct11 oc12 kV12 dc12 pm12 cd12 ct12 oc13 kV13 dc13 pm13 cd13 ct13 oc14 kV14 dc14 pm14 cd14 ct14 oc15 kV15 dc15 pm15 cd15 ct15 oc16 kV16 dc16 pm16 cd16 ct16 oc17 kV17 dc17 pm17 cd17 ct17 oc18 kV18 dc18 pm18 cd18 ct18 oc19 kV19 dc19 pm19 cd19 ct19 oc20 kV20 dc20 pm20 cd20 ct20 oc21 kV21 dc21 pm21 cd21 ct21 oc22 kV22 dc22 pm22 cd22 ct22 oc23 kV23 dc23 pm23 cd23 ct23 oc24 kV24 dc24 pm24 cd24 ct24 oc25 kV25 dc25 pm25 cd25 ct25 oc26 kV26 dc26 pm26 cd26 ct26 oc27 kV27 dc27 pm27 cd27 ct27 oc28 kV28 dc28 pm28 cd28 ct28 oc29 kV29 dc29 pm29 cd29 ct29 oc30 kV30 dc30 pm30 cd30 ct30 oc31 kV31 dc31 pm31 cd31 ct31 oc32 kV32 dc32 pm32 cd32 ct32 oc33 kV33 dc33 pm33 cd33 ct33 oc34 kV34 dc34 pm34 cd34 ct34 oc35 kV35 dc35 pm35 cd35 ct35 oc36 kV36 dc36 pm36 cd36 ct36 oc37 kV37 dc37 pm37 cd37 ct37 oc38 kV38 dc38 pm38 cd38 ct38 oc39 kV39 dc39 pm39 cd39 ct39 oc40 kV40 dc40 pm40 cd40 ct40 oc41 kV41 dc41 pm41 cd41 ct41 oc42 kV42 dc42 pm42 cd42 ct42 oc43 kV43 dc43 pm43 cd43 ct43 oc44 kV44 dc44 pm44 cd44 ct44 oc45 kV45 dc45 pm45 cd45 ct45 oc46 kV46 dc46 pm46 cd46 ct46 oc47 kV47 dc47 pm47 cd47 ct47 oc48 kV48 dc48 pm48 cd48 ct48 oc49 kV49 dc49 pm49 cd49 ct49 oc50 kV50 dc50 pm50 cd50 ct50 oc51 kV51 dc51 pm51 cd51 ct51 oc52 kV52 dc52 pm52 cd52 ct52 oc53 kV53 dc53 pm53 cd53 ct53 oc54 kV54 dc54 pm54 cd54 ct54 oc56 kV56 dc56 pm56 cd56 ct56 oc57 kV57 dc57 pm57 cd57 ct57 oc58 kV58 dc58 pm58 cd58 ct58 oc59 kV59 dc59 pm59 cd59 ct59 oc60 kV60 dc60 pm60 cd60 ct60 : Value} {od0 an0 od1 an1 od2 an2 od3 an3 od4 an4 od5 an5 od6 an6 od7 an7 od8 an8 od9 an9 od10 an10 od11 an11 od12 an12 od13 an13 od14 an14 od15 an15 od16 an16 od17 an17 od18 an18 od19 an19 od20 an20 od21 an21 od22 an22 od23 an23 od24 an24 od25 an25 od26 an26 od27 an27 od28 an28 od29 an29 od30 an30 od31 an31 od32 an32 od33 an33 od34 an34 od35 an35 od36 an36 od37 an37 od38 an38 od39 an39 od40 an40 od41 an41 od42 an42 od43 an43 od44 an44 od45 an45 od46 an46 od47 an47 od48 an48 od49 an49 od50 an50 od51 an51 od52 an52 od53 an53 od54 an54 od56 an56 od57 an57 od58 an58 od59 an59 od60 an60 : Option Addr} {sl0 sl1 sl2 sl3 sl4 sl5 sl6 sl7 sl8 sl9 sl10 sl11 sl12 sl13 sl14 sl15 sl16 sl17 sl18 sl19 sl20 sl21 sl22 sl23 sl24 sl25 sl26 sl27 sl28 sl29 sl30 sl31 sl32 sl33 sl34 sl35 sl36 sl37 sl38 sl39 sl40 sl41 sl42 sl43 sl44 sl45 sl46 sl47 sl48 sl49 sl50 sl51 sl52 sl53 sl54 sl56 sl57 sl58 sl59 sl60 : Array (Option Value)} {qd0 : Option Addr} {qn0 : Nat} {qs0 : Array (Option Value)} {td1 td36 : Option Addr} {tn1 tn36 : Nat} {ts1 ts36 : Array (Option Value)} {tk0x0 tk0x1 tk0x2 tk0x3 : Tok}
    (hC0 : PySem.W.nsIn K mainGlobals "Frame" = some (some (.ref C0)))
    (hC1 : PySem.W.nsIn K mainGlobals "Rounds" = some (some (.ref C1)))
    (hC2 : PySem.W.nsIn K mainGlobals "Kept" = some (some (.ref C2)))
    (hC3 : PySem.W.nsIn K mainGlobals "Tried" = some (some (.ref C3)))
    (hC4 : PySem.W.nsIn K mainGlobals "Cleaned" = some (some (.ref C4)))
    (hC5 : PySem.W.nsIn K mainGlobals "Limited" = some (some (.ref C5)))
    (hC6 : PySem.W.nsIn K mainGlobals "Grouped" = some (some (.ref C6)))
    (hC7 : PySem.W.nsIn K mainGlobals "Machine" = some (some (.ref C7)))
    (pg0 : PySem.W.plainGet K C0 Str.empty = true)
    (hd0 : PySem.W.hasDictIn K C0 = true)
    (po0 : PySem.W.plainOver K C0 = true)
    (sa0 : PySem.W.findIn K (.ref C0) "__setattr__" = some (some (.builtin "object.__setattr__")))
    (mk0 : PySem.W.makesIn K C0 = true)
    (kC0 : PySem.W.keepIn K (.ref C0) = true)
    (pg1 : PySem.W.plainGet K C1 Str.empty = true)
    (hd1 : PySem.W.hasDictIn K C1 = true)
    (po1 : PySem.W.plainOver K C1 = true)
    (sa1 : PySem.W.findIn K (.ref C1) "__setattr__" = some (some (.builtin "object.__setattr__")))
    (mk1 : PySem.W.makesIn K C1 = true)
    (kC1 : PySem.W.keepIn K (.ref C1) = true)
    (pg2 : PySem.W.plainGet K C2 Str.empty = true)
    (hd2 : PySem.W.hasDictIn K C2 = true)
    (po2 : PySem.W.plainOver K C2 = true)
    (sa2 : PySem.W.findIn K (.ref C2) "__setattr__" = some (some (.builtin "object.__setattr__")))
    (mk2 : PySem.W.makesIn K C2 = true)
    (kC2 : PySem.W.keepIn K (.ref C2) = true)
    (pg3 : PySem.W.plainGet K C3 Str.empty = true)
    (hd3 : PySem.W.hasDictIn K C3 = true)
    (po3 : PySem.W.plainOver K C3 = true)
    (sa3 : PySem.W.findIn K (.ref C3) "__setattr__" = some (some (.builtin "object.__setattr__")))
    (mk3 : PySem.W.makesIn K C3 = true)
    (kC3 : PySem.W.keepIn K (.ref C3) = true)
    (pg4 : PySem.W.plainGet K C4 Str.empty = true)
    (hd4 : PySem.W.hasDictIn K C4 = true)
    (po4 : PySem.W.plainOver K C4 = true)
    (sa4 : PySem.W.findIn K (.ref C4) "__setattr__" = some (some (.builtin "object.__setattr__")))
    (mk4 : PySem.W.makesIn K C4 = true)
    (kC4 : PySem.W.keepIn K (.ref C4) = true)
    (pg5 : PySem.W.plainGet K C5 Str.empty = true)
    (hd5 : PySem.W.hasDictIn K C5 = true)
    (po5 : PySem.W.plainOver K C5 = true)
    (sa5 : PySem.W.findIn K (.ref C5) "__setattr__" = some (some (.builtin "object.__setattr__")))
    (mk5 : PySem.W.makesIn K C5 = true)
    (kC5 : PySem.W.keepIn K (.ref C5) = true)
    (pg6 : PySem.W.plainGet K C6 Str.empty = true)
    (hd6 : PySem.W.hasDictIn K C6 = true)
    (po6 : PySem.W.plainOver K C6 = true)
    (sa6 : PySem.W.findIn K (.ref C6) "__setattr__" = some (some (.builtin "object.__setattr__")))
    (mk6 : PySem.W.makesIn K C6 = true)
    (kC6 : PySem.W.keepIn K (.ref C6) = true)
    (pg7 : PySem.W.plainGet K C7 Str.empty = true)
    (hd7 : PySem.W.hasDictIn K C7 = true)
    (po7 : PySem.W.plainOver K C7 = true)
    (sa7 : PySem.W.findIn K (.ref C7) "__setattr__" = some (some (.builtin "object.__setattr__")))
    (mk7 : PySem.W.makesIn K C7 = true)
    (kC7 : PySem.W.keepIn K (.ref C7) = true)
    (a0 : PySem.W.nsIn K mainGlobals "_wall" = some (some (.ref f0)))
    (l0 : K.lookup f0 = some ⟨oc0, od0, .func (PySem.W.fnOf "_wall" "_wall" (defArgs s0) (defBody s0) (defScope s0) .none kV0 dc0 pm0 an0 cd0 ct0), sl0⟩)
    (c0 : PySem.W.codeIn K cd0 "_wall" = true)
    (k0 : PySem.W.keepIn K (.ref f0) = true)
    (a1 : PySem.W.findIn K (.ref C0) "__init__" = some (some (.ref f1)))
    (i1 : PySem.W.isFn K (.ref f1) = true)
    (l1 : K.lookup f1 = some ⟨oc1, od1, .func (PySem.W.fnOf "__init__" "Frame.__init__" (defArgs s1) (defBody s1) (defScope s1) (.ref t1) kV1 dc1 pm1 an1 cd1 ct1), sl1⟩)
    (t1l : K.lookup t1 = some ⟨.type "tuple", td1, .seq #[.none] tn1, ts1⟩)
    (c1 : PySem.W.codeIn K cd1 "Frame.__init__" = true)
    (k1 : PySem.W.keepIn K (.ref f1) = true)
    (a2 : PySem.W.findIn K (.ref C0) "next_row" = some (some (.ref f2)))
    (i2 : PySem.W.isFn K (.ref f2) = true)
    (l2 : K.lookup f2 = some ⟨oc2, od2, .func (PySem.W.fnOf "next_row" "Frame.next_row" (defArgs s2) (defBody s2) (defScope s2) .none kV2 dc2 pm2 an2 cd2 ct2), sl2⟩)
    (c2 : PySem.W.codeIn K cd2 "Frame.next_row" = true)
    (k2 : PySem.W.keepIn K (.ref f2) = true)
    (a3 : PySem.W.findIn K (.ref C0) "hides" = some (some (.ref f3)))
    (i3 : PySem.W.isFn K (.ref f3) = true)
    (l3 : K.lookup f3 = some ⟨oc3, od3, .func (PySem.W.fnOf "hides" "Frame.hides" (defArgs s3) (defBody s3) (defScope s3) .none kV3 dc3 pm3 an3 cd3 ct3), sl3⟩)
    (c3 : PySem.W.codeIn K cd3 "Frame.hides" = true)
    (k3 : PySem.W.keepIn K (.ref f3) = true)
    (a4 : PySem.W.findIn K (.ref C0) "over" = some (some (.ref f4)))
    (i4 : PySem.W.isFn K (.ref f4) = true)
    (l4 : K.lookup f4 = some ⟨oc4, od4, .func (PySem.W.fnOf "over" "Frame.over" (defArgs s4) (defBody s4) (defScope s4) .none kV4 dc4 pm4 an4 cd4 ct4), sl4⟩)
    (c4 : PySem.W.codeIn K cd4 "Frame.over" = true)
    (k4 : PySem.W.keepIn K (.ref f4) = true)
    (a5 : PySem.W.findIn K (.ref C0) "meets" = some (some (.ref f5)))
    (i5 : PySem.W.isFn K (.ref f5) = true)
    (l5 : K.lookup f5 = some ⟨oc5, od5, .func (PySem.W.fnOf "meets" "Frame.meets" (defArgs s5) (defBody s5) (defScope s5) .none kV5 dc5 pm5 an5 cd5 ct5), sl5⟩)
    (c5 : PySem.W.codeIn K cd5 "Frame.meets" = true)
    (k5 : PySem.W.keepIn K (.ref f5) = true)
    (a6 : PySem.W.findIn K (.ref C0) "behind" = some (some (.ref f6)))
    (i6 : PySem.W.isFn K (.ref f6) = true)
    (l6 : K.lookup f6 = some ⟨oc6, od6, .func (PySem.W.fnOf "behind" "Frame.behind" (defArgs s6) (defBody s6) (defScope s6) .none kV6 dc6 pm6 an6 cd6 ct6), sl6⟩)
    (c6 : PySem.W.codeIn K cd6 "Frame.behind" = true)
    (k6 : PySem.W.keepIn K (.ref f6) = true)
    (a7 : PySem.W.findIn K (.ref C1) "__init__" = some (some (.ref f7)))
    (i7 : PySem.W.isFn K (.ref f7) = true)
    (l7 : K.lookup f7 = some ⟨oc7, od7, .func (PySem.W.fnOf "__init__" "Rounds.__init__" (defArgs s7) (defBody s7) (defScope s7) .none kV7 dc7 pm7 an7 cd7 ct7), sl7⟩)
    (c7 : PySem.W.codeIn K cd7 "Rounds.__init__" = true)
    (k7 : PySem.W.keepIn K (.ref f7) = true)
    (a8 : PySem.W.findIn K (.ref C1) "over" = some (some (.ref f8)))
    (i8 : PySem.W.isFn K (.ref f8) = true)
    (l8 : K.lookup f8 = some ⟨oc8, od8, .func (PySem.W.fnOf "over" "Rounds.over" (defArgs s8) (defBody s8) (defScope s8) .none kV8 dc8 pm8 an8 cd8 ct8), sl8⟩)
    (c8 : PySem.W.codeIn K cd8 "Rounds.over" = true)
    (k8 : PySem.W.keepIn K (.ref f8) = true)
    (a9 : PySem.W.findIn K (.ref C1) "behind" = some (some (.ref f9)))
    (i9 : PySem.W.isFn K (.ref f9) = true)
    (l9 : K.lookup f9 = some ⟨oc9, od9, .func (PySem.W.fnOf "behind" "Rounds.behind" (defArgs s9) (defBody s9) (defScope s9) .none kV9 dc9 pm9 an9 cd9 ct9), sl9⟩)
    (c9 : PySem.W.codeIn K cd9 "Rounds.behind" = true)
    (k9 : PySem.W.keepIn K (.ref f9) = true)
    (a10 : PySem.W.findIn K (.ref C2) "hides" = some (some (.ref f10)))
    (i10 : PySem.W.isFn K (.ref f10) = true)
    (l10 : K.lookup f10 = some ⟨oc10, od10, .func (PySem.W.fnOf "hides" "Kept.hides" (defArgs s10) (defBody s10) (defScope s10) .none kV10 dc10 pm10 an10 cd10 ct10), sl10⟩)
    (c10 : PySem.W.codeIn K cd10 "Kept.hides" = true)
    (k10 : PySem.W.keepIn K (.ref f10) = true)
    (a11 : PySem.W.findIn K (.ref C3) "__init__" = some (some (.ref f11)))
    (i11 : PySem.W.isFn K (.ref f11) = true)
    (l11 : K.lookup f11 = some ⟨oc11, od11, .func (PySem.W.fnOf "__init__" "Tried.__init__" (defArgs s11) (defBody s11) (defScope s11) .none kV11 dc11 pm11 an11 cd11 ct11), sl11⟩)
    (c11 : PySem.W.codeIn K cd11 "Tried.__init__" = true)
    (k11 : PySem.W.keepIn K (.ref f11) = true)
    (a12 : PySem.W.findIn K (.ref C3) "meets" = some (some (.ref f12)))
    (i12 : PySem.W.isFn K (.ref f12) = true)
    (l12 : K.lookup f12 = some ⟨oc12, od12, .func (PySem.W.fnOf "meets" "Tried.meets" (defArgs s12) (defBody s12) (defScope s12) .none kV12 dc12 pm12 an12 cd12 ct12), sl12⟩)
    (c12 : PySem.W.codeIn K cd12 "Tried.meets" = true)
    (k12 : PySem.W.keepIn K (.ref f12) = true)
    (a13 : PySem.W.findIn K (.ref C3) "behind" = some (some (.ref f13)))
    (i13 : PySem.W.isFn K (.ref f13) = true)
    (l13 : K.lookup f13 = some ⟨oc13, od13, .func (PySem.W.fnOf "behind" "Tried.behind" (defArgs s13) (defBody s13) (defScope s13) .none kV13 dc13 pm13 an13 cd13 ct13), sl13⟩)
    (c13 : PySem.W.codeIn K cd13 "Tried.behind" = true)
    (k13 : PySem.W.keepIn K (.ref f13) = true)
    (a14 : PySem.W.findIn K (.ref C4) "__init__" = some (some (.ref f14)))
    (i14 : PySem.W.isFn K (.ref f14) = true)
    (l14 : K.lookup f14 = some ⟨oc14, od14, .func (PySem.W.fnOf "__init__" "Cleaned.__init__" (defArgs s14) (defBody s14) (defScope s14) .none kV14 dc14 pm14 an14 cd14 ct14), sl14⟩)
    (c14 : PySem.W.codeIn K cd14 "Cleaned.__init__" = true)
    (k14 : PySem.W.keepIn K (.ref f14) = true)
    (a15 : PySem.W.findIn K (.ref C4) "clean" = some (some (.ref f15)))
    (i15 : PySem.W.isFn K (.ref f15) = true)
    (l15 : K.lookup f15 = some ⟨oc15, od15, .func (PySem.W.fnOf "clean" "Cleaned.clean" (defArgs s15) (defBody s15) (defScope s15) .none kV15 dc15 pm15 an15 cd15 ct15), sl15⟩)
    (c15 : PySem.W.codeIn K cd15 "Cleaned.clean" = true)
    (k15 : PySem.W.keepIn K (.ref f15) = true)
    (a16 : PySem.W.findIn K (.ref C4) "hides" = some (some (.ref f16)))
    (i16 : PySem.W.isFn K (.ref f16) = true)
    (l16 : K.lookup f16 = some ⟨oc16, od16, .func (PySem.W.fnOf "hides" "Cleaned.hides" (defArgs s16) (defBody s16) (defScope s16) .none kV16 dc16 pm16 an16 cd16 ct16), sl16⟩)
    (c16 : PySem.W.codeIn K cd16 "Cleaned.hides" = true)
    (k16 : PySem.W.keepIn K (.ref f16) = true)
    (a17 : PySem.W.findIn K (.ref C4) "over" = some (some (.ref f17)))
    (i17 : PySem.W.isFn K (.ref f17) = true)
    (l17 : K.lookup f17 = some ⟨oc17, od17, .func (PySem.W.fnOf "over" "Cleaned.over" (defArgs s17) (defBody s17) (defScope s17) .none kV17 dc17 pm17 an17 cd17 ct17), sl17⟩)
    (c17 : PySem.W.codeIn K cd17 "Cleaned.over" = true)
    (k17 : PySem.W.keepIn K (.ref f17) = true)
    (a18 : PySem.W.findIn K (.ref C4) "meets" = some (some (.ref f18)))
    (i18 : PySem.W.isFn K (.ref f18) = true)
    (l18 : K.lookup f18 = some ⟨oc18, od18, .func (PySem.W.fnOf "meets" "Cleaned.meets" (defArgs s18) (defBody s18) (defScope s18) .none kV18 dc18 pm18 an18 cd18 ct18), sl18⟩)
    (c18 : PySem.W.codeIn K cd18 "Cleaned.meets" = true)
    (k18 : PySem.W.keepIn K (.ref f18) = true)
    (a19 : PySem.W.findIn K (.ref C4) "behind" = some (some (.ref f19)))
    (i19 : PySem.W.isFn K (.ref f19) = true)
    (l19 : K.lookup f19 = some ⟨oc19, od19, .func (PySem.W.fnOf "behind" "Cleaned.behind" (defArgs s19) (defBody s19) (defScope s19) .none kV19 dc19 pm19 an19 cd19 ct19), sl19⟩)
    (c19 : PySem.W.codeIn K cd19 "Cleaned.behind" = true)
    (k19 : PySem.W.keepIn K (.ref f19) = true)
    (a20 : PySem.W.findIn K (.ref C5) "__init__" = some (some (.ref f20)))
    (i20 : PySem.W.isFn K (.ref f20) = true)
    (l20 : K.lookup f20 = some ⟨oc20, od20, .func (PySem.W.fnOf "__init__" "Limited.__init__" (defArgs s20) (defBody s20) (defScope s20) .none kV20 dc20 pm20 an20 cd20 ct20), sl20⟩)
    (c20 : PySem.W.codeIn K cd20 "Limited.__init__" = true)
    (k20 : PySem.W.keepIn K (.ref f20) = true)
    (a21 : PySem.W.findIn K (.ref C5) "meets" = some (some (.ref f21)))
    (i21 : PySem.W.isFn K (.ref f21) = true)
    (l21 : K.lookup f21 = some ⟨oc21, od21, .func (PySem.W.fnOf "meets" "Limited.meets" (defArgs s21) (defBody s21) (defScope s21) .none kV21 dc21 pm21 an21 cd21 ct21), sl21⟩)
    (c21 : PySem.W.codeIn K cd21 "Limited.meets" = true)
    (k21 : PySem.W.keepIn K (.ref f21) = true)
    (a22 : PySem.W.findIn K (.ref C5) "behind" = some (some (.ref f22)))
    (i22 : PySem.W.isFn K (.ref f22) = true)
    (l22 : K.lookup f22 = some ⟨oc22, od22, .func (PySem.W.fnOf "behind" "Limited.behind" (defArgs s22) (defBody s22) (defScope s22) .none kV22 dc22 pm22 an22 cd22 ct22), sl22⟩)
    (c22 : PySem.W.codeIn K cd22 "Limited.behind" = true)
    (k22 : PySem.W.keepIn K (.ref f22) = true)
    (a23 : PySem.W.findIn K (.ref C6) "__init__" = some (some (.ref f23)))
    (i23 : PySem.W.isFn K (.ref f23) = true)
    (l23 : K.lookup f23 = some ⟨oc23, od23, .func (PySem.W.fnOf "__init__" "Grouped.__init__" (defArgs s23) (defBody s23) (defScope s23) .none kV23 dc23 pm23 an23 cd23 ct23), sl23⟩)
    (c23 : PySem.W.codeIn K cd23 "Grouped.__init__" = true)
    (k23 : PySem.W.keepIn K (.ref f23) = true)
    (a24 : PySem.W.findIn K (.ref C6) "over" = some (some (.ref f24)))
    (i24 : PySem.W.isFn K (.ref f24) = true)
    (l24 : K.lookup f24 = some ⟨oc24, od24, .func (PySem.W.fnOf "over" "Grouped.over" (defArgs s24) (defBody s24) (defScope s24) .none kV24 dc24 pm24 an24 cd24 ct24), sl24⟩)
    (c24 : PySem.W.codeIn K cd24 "Grouped.over" = true)
    (k24 : PySem.W.keepIn K (.ref f24) = true)
    (a25 : PySem.W.findIn K (.ref C6) "meets" = some (some (.ref f25)))
    (i25 : PySem.W.isFn K (.ref f25) = true)
    (l25 : K.lookup f25 = some ⟨oc25, od25, .func (PySem.W.fnOf "meets" "Grouped.meets" (defArgs s25) (defBody s25) (defScope s25) .none kV25 dc25 pm25 an25 cd25 ct25), sl25⟩)
    (c25 : PySem.W.codeIn K cd25 "Grouped.meets" = true)
    (k25 : PySem.W.keepIn K (.ref f25) = true)
    (a26 : PySem.W.findIn K (.ref C7) "__init__" = some (some (.ref f26)))
    (i26 : PySem.W.isFn K (.ref f26) = true)
    (l26 : K.lookup f26 = some ⟨oc26, od26, .func (PySem.W.fnOf "__init__" "Machine.__init__" (defArgs s26) (defBody s26) (defScope s26) .none kV26 dc26 pm26 an26 cd26 ct26), sl26⟩)
    (c26 : PySem.W.codeIn K cd26 "Machine.__init__" = true)
    (k26 : PySem.W.keepIn K (.ref f26) = true)
    (a27 : PySem.W.findIn K (.ref C7) "value_of" = some (some (.ref f27)))
    (i27 : PySem.W.isFn K (.ref f27) = true)
    (l27 : K.lookup f27 = some ⟨oc27, od27, .func (PySem.W.fnOf "value_of" "Machine.value_of" (defArgs s27) (defBody s27) (defScope s27) .none kV27 dc27 pm27 an27 cd27 ct27), sl27⟩)
    (c27 : PySem.W.codeIn K cd27 "Machine.value_of" = true)
    (k27 : PySem.W.keepIn K (.ref f27) = true)
    (a28 : PySem.W.findIn K (.ref C7) "mark" = some (some (.ref f28)))
    (i28 : PySem.W.isFn K (.ref f28) = true)
    (l28 : K.lookup f28 = some ⟨oc28, od28, .func (PySem.W.fnOf "mark" "Machine.mark" (defArgs s28) (defBody s28) (defScope s28) .none kV28 dc28 pm28 an28 cd28 ct28), sl28⟩)
    (c28 : PySem.W.codeIn K cd28 "Machine.mark" = true)
    (k28 : PySem.W.keepIn K (.ref f28) = true)
    (a29 : PySem.W.findIn K (.ref C7) "is_marked" = some (some (.ref f29)))
    (i29 : PySem.W.isFn K (.ref f29) = true)
    (l29 : K.lookup f29 = some ⟨oc29, od29, .func (PySem.W.fnOf "is_marked" "Machine.is_marked" (defArgs s29) (defBody s29) (defScope s29) .none kV29 dc29 pm29 an29 cd29 ct29), sl29⟩)
    (c29 : PySem.W.codeIn K cd29 "Machine.is_marked" = true)
    (k29 : PySem.W.keepIn K (.ref f29) = true)
    (a30 : PySem.W.findIn K (.ref C7) "target" = some (some (.ref f30)))
    (i30 : PySem.W.isFn K (.ref f30) = true)
    (l30 : K.lookup f30 = some ⟨oc30, od30, .func (PySem.W.fnOf "target" "Machine.target" (defArgs s30) (defBody s30) (defScope s30) .none kV30 dc30 pm30 an30 cd30 ct30), sl30⟩)
    (c30 : PySem.W.codeIn K cd30 "Machine.target" = true)
    (k30 : PySem.W.keepIn K (.ref f30) = true)
    (a31 : PySem.W.findIn K (.ref C7) "scopes" = some (some (.ref f31)))
    (i31 : PySem.W.isFn K (.ref f31) = true)
    (l31 : K.lookup f31 = some ⟨oc31, od31, .func (PySem.W.fnOf "scopes" "Machine.scopes" (defArgs s31) (defBody s31) (defScope s31) .none kV31 dc31 pm31 an31 cd31 ct31), sl31⟩)
    (c31 : PySem.W.codeIn K cd31 "Machine.scopes" = true)
    (k31 : PySem.W.keepIn K (.ref f31) = true)
    (a32 : PySem.W.findIn K (.ref C7) "waiting" = some (some (.ref f32)))
    (i32 : PySem.W.isFn K (.ref f32) = true)
    (l32 : K.lookup f32 = some ⟨oc32, od32, .func (PySem.W.fnOf "waiting" "Machine.waiting" (defArgs s32) (defBody s32) (defScope s32) .none kV32 dc32 pm32 an32 cd32 ct32), sl32⟩)
    (c32 : PySem.W.codeIn K cd32 "Machine.waiting" = true)
    (k32 : PySem.W.keepIn K (.ref f32) = true)
    (a33 : PySem.W.findIn K (.ref C7) "strikable" = some (some (.ref f33)))
    (i33 : PySem.W.isFn K (.ref f33) = true)
    (l33 : K.lookup f33 = some ⟨oc33, od33, .func (PySem.W.fnOf "strikable" "Machine.strikable" (defArgs s33) (defBody s33) (defScope s33) .none kV33 dc33 pm33 an33 cd33 ct33), sl33⟩)
    (c33 : PySem.W.codeIn K cd33 "Machine.strikable" = true)
    (k33 : PySem.W.keepIn K (.ref f33) = true)
    (a34 : PySem.W.findIn K (.ref C7) "outcome" = some (some (.ref f34)))
    (i34 : PySem.W.isFn K (.ref f34) = true)
    (l34 : K.lookup f34 = some ⟨oc34, od34, .func (PySem.W.fnOf "outcome" "Machine.outcome" (defArgs s34) (defBody s34) (defScope s34) .none kV34 dc34 pm34 an34 cd34 ct34), sl34⟩)
    (c34 : PySem.W.codeIn K cd34 "Machine.outcome" = true)
    (k34 : PySem.W.keepIn K (.ref f34) = true)
    (a35 : PySem.W.findIn K (.ref C7) "strike" = some (some (.ref f35)))
    (i35 : PySem.W.isFn K (.ref f35) = true)
    (l35 : K.lookup f35 = some ⟨oc35, od35, .func (PySem.W.fnOf "strike" "Machine.strike" (defArgs s35) (defBody s35) (defScope s35) .none kV35 dc35 pm35 an35 cd35 ct35), sl35⟩)
    (c35 : PySem.W.codeIn K cd35 "Machine.strike" = true)
    (k35 : PySem.W.keepIn K (.ref f35) = true)
    (a36 : PySem.W.findIn K (.ref C7) "go" = some (some (.ref f36)))
    (i36 : PySem.W.isFn K (.ref f36) = true)
    (l36 : K.lookup f36 = some ⟨oc36, od36, .func (PySem.W.fnOf "go" "Machine.go" (defArgs s36) (defBody s36) (defScope s36) (.ref t36) kV36 dc36 pm36 an36 cd36 ct36), sl36⟩)
    (t36l : K.lookup t36 = some ⟨.type "tuple", td36, .seq #[.none] tn36, ts36⟩)
    (c36 : PySem.W.codeIn K cd36 "Machine.go" = true)
    (k36 : PySem.W.keepIn K (.ref f36) = true)
    (a37 : PySem.W.findIn K (.ref C7) "raised" = some (some (.ref f37)))
    (i37 : PySem.W.isFn K (.ref f37) = true)
    (l37 : K.lookup f37 = some ⟨oc37, od37, .func (PySem.W.fnOf "raised" "Machine.raised" (defArgs s37) (defBody s37) (defScope s37) .none kV37 dc37 pm37 an37 cd37 ct37), sl37⟩)
    (c37 : PySem.W.codeIn K cd37 "Machine.raised" = true)
    (k37 : PySem.W.keepIn K (.ref f37) = true)
    (a38 : PySem.W.findIn K (.ref C7) "joined" = some (some (.ref f38)))
    (i38 : PySem.W.isFn K (.ref f38) = true)
    (l38 : K.lookup f38 = some ⟨oc38, od38, .func (PySem.W.fnOf "joined" "Machine.joined" (defArgs s38) (defBody s38) (defScope s38) .none kV38 dc38 pm38 an38 cd38 ct38), sl38⟩)
    (c38 : PySem.W.codeIn K cd38 "Machine.joined" = true)
    (k38 : PySem.W.keepIn K (.ref f38) = true)
    (a39 : PySem.W.findIn K (.ref C7) "step" = some (some (.ref f39)))
    (i39 : PySem.W.isFn K (.ref f39) = true)
    (l39 : K.lookup f39 = some ⟨oc39, od39, .func (PySem.W.fnOf "step" "Machine.step" (defArgs s39) (defBody s39) (defScope s39) .none kV39 dc39 pm39 an39 cd39 ct39), sl39⟩)
    (c39 : PySem.W.codeIn K cd39 "Machine.step" = true)
    (k39 : PySem.W.keepIn K (.ref f39) = true)
    (a40 : PySem.W.findIn K (.ref C7) "drop" = some (some (.ref f40)))
    (i40 : PySem.W.isFn K (.ref f40) = true)
    (l40 : K.lookup f40 = some ⟨oc40, od40, .func (PySem.W.fnOf "drop" "Machine.drop" (defArgs s40) (defBody s40) (defScope s40) .none kV40 dc40 pm40 an40 cd40 ct40), sl40⟩)
    (c40 : PySem.W.codeIn K cd40 "Machine.drop" = true)
    (k40 : PySem.W.keepIn K (.ref f40) = true)
    (a41 : PySem.W.findIn K (.ref C7) "ended" = some (some (.ref f41)))
    (i41 : PySem.W.isFn K (.ref f41) = true)
    (l41 : K.lookup f41 = some ⟨oc41, od41, .func (PySem.W.fnOf "ended" "Machine.ended" (defArgs s41) (defBody s41) (defScope s41) .none kV41 dc41 pm41 an41 cd41 ct41), sl41⟩)
    (c41 : PySem.W.codeIn K cd41 "Machine.ended" = true)
    (k41 : PySem.W.keepIn K (.ref f41) = true)
    (a42 : PySem.W.findIn K (.ref C7) "go_on" = some (some (.ref f42)))
    (i42 : PySem.W.isFn K (.ref f42) = true)
    (l42 : K.lookup f42 = some ⟨oc42, od42, .func (PySem.W.fnOf "go_on" "Machine.go_on" (defArgs s42) (defBody s42) (defScope s42) .none kV42 dc42 pm42 an42 cd42 ct42), sl42⟩)
    (c42 : PySem.W.codeIn K cd42 "Machine.go_on" = true)
    (k42 : PySem.W.keepIn K (.ref f42) = true)
    (a43 : PySem.W.findIn K (.ref C7) "leave" = some (some (.ref f43)))
    (i43 : PySem.W.isFn K (.ref f43) = true)
    (l43 : K.lookup f43 = some ⟨oc43, od43, .func (PySem.W.fnOf "leave" "Machine.leave" (defArgs s43) (defBody s43) (defScope s43) .none kV43 dc43 pm43 an43 cd43 ct43), sl43⟩)
    (c43 : PySem.W.codeIn K cd43 "Machine.leave" = true)
    (k43 : PySem.W.keepIn K (.ref f43) = true)
    (a44 : PySem.W.findIn K (.ref C7) "go_out" = some (some (.ref f44)))
    (i44 : PySem.W.isFn K (.ref f44) = true)
    (l44 : K.lookup f44 = some ⟨oc44, od44, .func (PySem.W.fnOf "go_out" "Machine.go_out" (defArgs s44) (defBody s44) (defScope s44) .none kV44 dc44 pm44 an44 cd44 ct44), sl44⟩)
    (c44 : PySem.W.codeIn K cd44 "Machine.go_out" = true)
    (k44 : PySem.W.keepIn K (.ref f44) = true)
    (a45 : PySem.W.findIn K (.ref C7) "waits" = some (some (.ref f45)))
    (i45 : PySem.W.isFn K (.ref f45) = true)
    (l45 : K.lookup f45 = some ⟨oc45, od45, .func (PySem.W.fnOf "waits" "Machine.waits" (defArgs s45) (defBody s45) (defScope s45) .none kV45 dc45 pm45 an45 cd45 ct45), sl45⟩)
    (c45 : PySem.W.codeIn K cd45 "Machine.waits" = true)
    (k45 : PySem.W.keepIn K (.ref f45) = true)
    (a46 : PySem.W.findIn K (.ref C7) "done" = some (some (.ref f46)))
    (i46 : PySem.W.isFn K (.ref f46) = true)
    (l46 : K.lookup f46 = some ⟨oc46, od46, .func (PySem.W.fnOf "done" "Machine.done" (defArgs s46) (defBody s46) (defScope s46) .none kV46 dc46 pm46 an46 cd46 ct46), sl46⟩)
    (c46 : PySem.W.codeIn K cd46 "Machine.done" = true)
    (k46 : PySem.W.keepIn K (.ref f46) = true)
    (a47 : PySem.W.findIn K (.ref C7) "group_of" = some (some (.ref f47)))
    (i47 : PySem.W.isFn K (.ref f47) = true)
    (l47 : K.lookup f47 = some ⟨oc47, od47, .func (PySem.W.fnOf "group_of" "Machine.group_of" (defArgs s47) (defBody s47) (defScope s47) .none kV47 dc47 pm47 an47 cd47 ct47), sl47⟩)
    (c47 : PySem.W.codeIn K cd47 "Machine.group_of" = true)
    (k47 : PySem.W.keepIn K (.ref f47) = true)
    (a48 : PySem.W.findIn K (.ref C7) "entered" = some (some (.ref f48)))
    (i48 : PySem.W.isFn K (.ref f48) = true)
    (l48 : K.lookup f48 = some ⟨oc48, od48, .func (PySem.W.fnOf "entered" "Machine.entered" (defArgs s48) (defBody s48) (defScope s48) .none kV48 dc48 pm48 an48 cd48 ct48), sl48⟩)
    (c48 : PySem.W.codeIn K cd48 "Machine.entered" = true)
    (k48 : PySem.W.keepIn K (.ref f48) = true)
    (a49 : PySem.W.findIn K (.ref C7) "might" = some (some (.ref f49)))
    (i49 : PySem.W.isFn K (.ref f49) = true)
    (l49 : K.lookup f49 = some ⟨oc49, od49, .func (PySem.W.fnOf "might" "Machine.might" (defArgs s49) (defBody s49) (defScope s49) .none kV49 dc49 pm49 an49 cd49 ct49), sl49⟩)
    (c49 : PySem.W.codeIn K cd49 "Machine.might" = true)
    (k49 : PySem.W.keepIn K (.ref f49) = true)
    (a50 : PySem.W.nsIn K mainGlobals "_law_cell_at" = some (some (.ref f50)))
    (l50 : K.lookup f50 = some ⟨oc50, od50, .func (PySem.W.fnOf "_law_cell_at" "_law_cell_at" (defArgs s50) (defBody s50) (defScope s50) .none kV50 dc50 pm50 an50 cd50 ct50), sl50⟩)
    (c50 : PySem.W.codeIn K cd50 "_law_cell_at" = true)
    (k50 : PySem.W.keepIn K (.ref f50) = true)
    (a51 : PySem.W.nsIn K mainGlobals "_law_mixed" = some (some (.ref f51)))
    (l51 : K.lookup f51 = some ⟨oc51, od51, .func (PySem.W.fnOf "_law_mixed" "_law_mixed" (defArgs s51) (defBody s51) (defScope s51) .none kV51 dc51 pm51 an51 cd51 ct51), sl51⟩)
    (c51 : PySem.W.codeIn K cd51 "_law_mixed" = true)
    (k51 : PySem.W.keepIn K (.ref f51) = true)
    (a52 : PySem.W.nsIn K mainGlobals "_law_chain" = some (some (.ref f52)))
    (l52 : K.lookup f52 = some ⟨oc52, od52, .func (PySem.W.fnOf "_law_chain" "_law_chain" (defArgs s52) (defBody s52) (defScope s52) .none kV52 dc52 pm52 an52 cd52 ct52), sl52⟩)
    (c52 : PySem.W.codeIn K cd52 "_law_chain" = true)
    (k52 : PySem.W.keepIn K (.ref f52) = true)
    (a53 : PySem.W.nsIn K mainGlobals "_law_nested" = some (some (.ref f53)))
    (l53 : K.lookup f53 = some ⟨oc53, od53, .func (PySem.W.fnOf "_law_nested" "_law_nested" (defArgs s53) (defBody s53) (defScope s53) .none kV53 dc53 pm53 an53 cd53 ct53), sl53⟩)
    (c53 : PySem.W.codeIn K cd53 "_law_nested" = true)
    (k53 : PySem.W.keepIn K (.ref f53) = true)
    (a54 : PySem.W.nsIn K mainGlobals "_law_scopes" = some (some (.ref f54)))
    (l54 : K.lookup f54 = some ⟨oc54, od54, .func (PySem.W.fnOf "_law_scopes" "_law_scopes" (defArgs s54) (defBody s54) (defScope s54) .none kV54 dc54 pm54 an54 cd54 ct54), sl54⟩)
    (c54 : PySem.W.codeIn K cd54 "_law_scopes" = true)
    (k54 : PySem.W.keepIn K (.ref f54) = true)
    (a56 : PySem.W.nsIn K mainGlobals "_law_entered" = some (some (.ref f56)))
    (l56 : K.lookup f56 = some ⟨oc56, od56, .func (PySem.W.fnOf "_law_entered" "_law_entered" (defArgs s56) (defBody s56) (defScope s56) .none kV56 dc56 pm56 an56 cd56 ct56), sl56⟩)
    (c56 : PySem.W.codeIn K cd56 "_law_entered" = true)
    (k56 : PySem.W.keepIn K (.ref f56) = true)
    (a57 : PySem.W.nsIn K mainGlobals "_law_halted" = some (some (.ref f57)))
    (l57 : K.lookup f57 = some ⟨oc57, od57, .func (PySem.W.fnOf "_law_halted" "_law_halted" (defArgs s57) (defBody s57) (defScope s57) .none kV57 dc57 pm57 an57 cd57 ct57), sl57⟩)
    (c57 : PySem.W.codeIn K cd57 "_law_halted" = true)
    (k57 : PySem.W.keepIn K (.ref f57) = true)
    (a58 : PySem.W.nsIn K mainGlobals "_law_out" = some (some (.ref f58)))
    (l58 : K.lookup f58 = some ⟨oc58, od58, .func (PySem.W.fnOf "_law_out" "_law_out" (defArgs s58) (defBody s58) (defScope s58) .none kV58 dc58 pm58 an58 cd58 ct58), sl58⟩)
    (c58 : PySem.W.codeIn K cd58 "_law_out" = true)
    (k58 : PySem.W.keepIn K (.ref f58) = true)
    (a59 : PySem.W.nsIn K mainGlobals "_law_right" = some (some (.ref f59)))
    (l59 : K.lookup f59 = some ⟨oc59, od59, .func (PySem.W.fnOf "_law_right" "_law_right" (defArgs s59) (defBody s59) (defScope s59) .none kV59 dc59 pm59 an59 cd59 ct59), sl59⟩)
    (c59 : PySem.W.codeIn K cd59 "_law_right" = true)
    (k59 : PySem.W.keepIn K (.ref f59) = true)
    (a60 : PySem.W.nsIn K mainGlobals "law" = some (some (.ref f60)))
    (l60 : K.lookup f60 = some ⟨oc60, od60, .func (PySem.W.fnOf "law" "law" (defArgs s60) (defBody s60) (defScope s60) .none kV60 dc60 pm60 an60 cd60 ct60), sl60⟩)
    (c60 : PySem.W.codeIn K cd60 "law" = true)
    (k60 : PySem.W.keepIn K (.ref f60) = true)
    (rd0 : PySem.W.readsIn K C0 (.type "type") = true)
    (ga0 : PySem.W.specialIn K (.ref C0) "__getattribute__" = some (some (.builtin "type.__getattribute__")))
    (cv0x40 : PySem.W.findCls K (.ref C0) (.type "type") "__init__" = some (.val (.ref f1)))
    (cv0x41 : PySem.W.findCls K (.ref C0) (.type "type") "behind" = some (.val (.ref f6)))
    (n0x1 : PySem.W.findIn K (.ref C0) "line" = some none)
    (n0x3 : PySem.W.findIn K (.ref C0) "place" = some none)
    (n0x0 : PySem.W.findIn K (.ref C0) "rows" = some none)
    (n0x2 : PySem.W.findIn K (.ref C0) "scope" = some none)
    (n1x4 : PySem.W.findIn K (.ref C1) "left" = some none)
    (n1x1 : PySem.W.findIn K (.ref C1) "line" = some none)
    (n1x3 : PySem.W.findIn K (.ref C1) "place" = some none)
    (n1x0 : PySem.W.findIn K (.ref C1) "rows" = some none)
    (n1x2 : PySem.W.findIn K (.ref C1) "scope" = some none)
    (n2x1 : PySem.W.findIn K (.ref C2) "line" = some none)
    (n2x3 : PySem.W.findIn K (.ref C2) "place" = some none)
    (n2x0 : PySem.W.findIn K (.ref C2) "rows" = some none)
    (n2x2 : PySem.W.findIn K (.ref C2) "scope" = some none)
    (n3x5 : PySem.W.findIn K (.ref C3) "fault" = some none)
    (n3x1 : PySem.W.findIn K (.ref C3) "line" = some none)
    (n3x6 : PySem.W.findIn K (.ref C3) "others" = some none)
    (n3x3 : PySem.W.findIn K (.ref C3) "place" = some none)
    (n3x0 : PySem.W.findIn K (.ref C3) "rows" = some none)
    (n3x2 : PySem.W.findIn K (.ref C3) "scope" = some none)
    (n4x7 : PySem.W.findIn K (.ref C4) "cleaning" = some none)
    (n4x8 : PySem.W.findIn K (.ref C4) "held" = some none)
    (n4x1 : PySem.W.findIn K (.ref C4) "line" = some none)
    (n4x6 : PySem.W.findIn K (.ref C4) "others" = some none)
    (n4x3 : PySem.W.findIn K (.ref C4) "place" = some none)
    (n4x0 : PySem.W.findIn K (.ref C4) "rows" = some none)
    (n4x2 : PySem.W.findIn K (.ref C4) "scope" = some none)
    (n5x1 : PySem.W.findIn K (.ref C5) "line" = some none)
    (n5x6 : PySem.W.findIn K (.ref C5) "others" = some none)
    (n5x3 : PySem.W.findIn K (.ref C5) "place" = some none)
    (n5x0 : PySem.W.findIn K (.ref C5) "rows" = some none)
    (n5x2 : PySem.W.findIn K (.ref C5) "scope" = some none)
    (n6x8 : PySem.W.findIn K (.ref C6) "held" = some none)
    (n6x1 : PySem.W.findIn K (.ref C6) "line" = some none)
    (n6x9 : PySem.W.findIn K (.ref C6) "named" = some none)
    (n6x10 : PySem.W.findIn K (.ref C6) "noted" = some none)
    (n6x3 : PySem.W.findIn K (.ref C6) "place" = some none)
    (n6x0 : PySem.W.findIn K (.ref C6) "rows" = some none)
    (n6x2 : PySem.W.findIn K (.ref C6) "scope" = some none)
    (n7x19 : PySem.W.findIn K (.ref C7) "end" = some none)
    (n7x11 : PySem.W.findIn K (.ref C7) "frames" = some none)
    (n7x18 : PySem.W.findIn K (.ref C7) "fresh" = some none)
    (n7x17 : PySem.W.findIn K (.ref C7) "given" = some none)
    (n7x13 : PySem.W.findIn K (.ref C7) "marks" = some none)
    (n7x12 : PySem.W.findIn K (.ref C7) "names" = some none)
    (n7x14 : PySem.W.findIn K (.ref C7) "signal" = some none)
    (n7x16 : PySem.W.findIn K (.ref C7) "struck" = some none)
    (n7x15 : PySem.W.findIn K (.ref C7) "want" = some none)
    (m1x20 : PySem.W.findIn K (.ref C1) "hides" = some (some (.ref f3)))
    (m3x20 : PySem.W.findIn K (.ref C3) "hides" = some (some (.ref f3)))
    (m5x20 : PySem.W.findIn K (.ref C5) "hides" = some (some (.ref f3)))
    (m6x20 : PySem.W.findIn K (.ref C6) "hides" = some (some (.ref f3)))
    (m1x32 : PySem.W.findIn K (.ref C1) "meets" = some (some (.ref f5)))
    (m2x32 : PySem.W.findIn K (.ref C2) "meets" = some (some (.ref f5)))
    (m1x24 : PySem.W.findIn K (.ref C1) "next_row" = some (some (.ref f2)))
    (m2x24 : PySem.W.findIn K (.ref C2) "next_row" = some (some (.ref f2)))
    (m3x24 : PySem.W.findIn K (.ref C3) "next_row" = some (some (.ref f2)))
    (m4x24 : PySem.W.findIn K (.ref C4) "next_row" = some (some (.ref f2)))
    (m5x24 : PySem.W.findIn K (.ref C5) "next_row" = some (some (.ref f2)))
    (m6x24 : PySem.W.findIn K (.ref C6) "next_row" = some (some (.ref f2)))
    (m2x26 : PySem.W.findIn K (.ref C2) "over" = some (some (.ref f4)))
    (m3x26 : PySem.W.findIn K (.ref C3) "over" = some (some (.ref f4)))
    (m5x26 : PySem.W.findIn K (.ref C5) "over" = some (some (.ref f4)))
    (in2 : PySem.W.findIn K (.ref C2) "__init__" = some (some (.ref f1)))
    (z0 : PySem.W.nsIn K mainGlobals "all" = some none)
    (z1 : PySem.W.nsIn K mainGlobals "int" = some none)
    (z2 : PySem.W.nsIn K mainGlobals "isinstance" = some none)
    (z3 : PySem.W.nsIn K mainGlobals "len" = some none)
    (z4 : PySem.W.nsIn K mainGlobals "list" = some none)
    (z5 : PySem.W.nsIn K mainGlobals "min" = some none)
    (z6 : PySem.W.nsIn K mainGlobals "range" = some none)
    (z7 : PySem.W.nsIn K mainGlobals "reversed" = some none)
    (cs0 : PySem.W.nsIn K mainGlobals "WAITING" = some (some (.ref q0)))
    (cl0 : K.lookup q0 = some ⟨.type "tuple", qd0, .seq #[.str "wait" tk0x0, .str "hear" tk0x1, .str "take" tk0x2, .str "ask" tk0x3] qn0, qs0⟩)
    (hgt : PySem.W.specialIn K (.builtin "object.__class__") "__get__" = some (some (.builtin "getset_descriptor.__get__")))
    (htk : PySem.W.takesIn K (.builtin "object.__class__") = some true)
    (hcl0 : PySem.W.findIn K (.ref C0) "__class__" = some (some (.builtin "object.__class__")))
    (hmr0 : PySem.W.mroIn K C0 (.type "object") = some true)
    (ci4 : PySem.W.isClsIn K C4 = true)
    (cy4 : PySem.W.typeIn K (.ref C4) = some (.type "type"))
    (su4x0 : PySem.W.subIn K (.ref C0) (.ref C4) = some false)
    (ne4x0 : (C0 == C4) = false)
    (hcl1 : PySem.W.findIn K (.ref C1) "__class__" = some (some (.builtin "object.__class__")))
    (hmr1 : PySem.W.mroIn K C1 (.type "object") = some true)
    (su4x1 : PySem.W.subIn K (.ref C1) (.ref C4) = some false)
    (ne4x1 : (C1 == C4) = false)
    (hcl2 : PySem.W.findIn K (.ref C2) "__class__" = some (some (.builtin "object.__class__")))
    (hmr2 : PySem.W.mroIn K C2 (.type "object") = some true)
    (su4x2 : PySem.W.subIn K (.ref C2) (.ref C4) = some false)
    (ne4x2 : (C2 == C4) = false)
    (hcl3 : PySem.W.findIn K (.ref C3) "__class__" = some (some (.builtin "object.__class__")))
    (hmr3 : PySem.W.mroIn K C3 (.type "object") = some true)
    (su4x3 : PySem.W.subIn K (.ref C3) (.ref C4) = some false)
    (ne4x3 : (C3 == C4) = false)
    (hcl4 : PySem.W.findIn K (.ref C4) "__class__" = some (some (.builtin "object.__class__")))
    (hmr4 : PySem.W.mroIn K C4 (.type "object") = some true)
    (hcl5 : PySem.W.findIn K (.ref C5) "__class__" = some (some (.builtin "object.__class__")))
    (hmr5 : PySem.W.mroIn K C5 (.type "object") = some true)
    (su4x5 : PySem.W.subIn K (.ref C5) (.ref C4) = some false)
    (ne4x5 : (C5 == C4) = false)
    (hcl6 : PySem.W.findIn K (.ref C6) "__class__" = some (some (.builtin "object.__class__")))
    (hmr6 : PySem.W.mroIn K C6 (.type "object") = some true)
    (su4x6 : PySem.W.subIn K (.ref C6) (.ref C4) = some false)
    (ne4x6 : (C6 == C4) = false)
    (hcl7 : PySem.W.findIn K (.ref C7) "__class__" = some (some (.builtin "object.__class__")))
    (hmr7 : PySem.W.mroIn K C7 (.type "object") = some true)
    (su4x7 : PySem.W.subIn K (.ref C7) (.ref C4) = some false)
    (ne4x7 : (C7 == C4) = false)
    (ci6 : PySem.W.isClsIn K C6 = true)
    (cy6 : PySem.W.typeIn K (.ref C6) = some (.type "type"))
    (su6x0 : PySem.W.subIn K (.ref C0) (.ref C6) = some false)
    (ne6x0 : (C0 == C6) = false)
    (su6x1 : PySem.W.subIn K (.ref C1) (.ref C6) = some false)
    (ne6x1 : (C1 == C6) = false)
    (su6x2 : PySem.W.subIn K (.ref C2) (.ref C6) = some false)
    (ne6x2 : (C2 == C6) = false)
    (su6x3 : PySem.W.subIn K (.ref C3) (.ref C6) = some false)
    (ne6x3 : (C3 == C6) = false)
    (su6x4 : PySem.W.subIn K (.ref C4) (.ref C6) = some false)
    (ne6x4 : (C4 == C6) = false)
    (su6x5 : PySem.W.subIn K (.ref C5) (.ref C6) = some false)
    (ne6x5 : (C5 == C6) = false)
    (su6x7 : PySem.W.subIn K (.ref C7) (.ref C6) = some false)
    (ne6x7 : (C7 == C6) = false) :
    LawAt mg K Z T D 60 "_law_script" fa := by
  have e := (PySem.W.mg_of X G a60).symm.trans hfa
  have e2 : f60 = fa := by injection e with e; injection e
  subst e2
  have F0 := fd_mk (st := s0) l0 c0
  have B0 : Binds K _ P0 [] := Binds.all (fd := (PySem.W.fnOf "_wall" "_wall" (defArgs s0) (defBody s0) (defScope s0) .none kV0 dc0 pm0 an0 cd0 ct0)) (ps := P0) fun us hl => match us, hl with | [_], _ => rfl
  have F1 := fd_mk (st := s1) l1 c1
  have F2 := fd_mk (st := s2) l2 c2
  have B2 : Binds K _ P2 [] := Binds.all (fd := (PySem.W.fnOf "next_row" "Frame.next_row" (defArgs s2) (defBody s2) (defScope s2) .none kV2 dc2 pm2 an2 cd2 ct2)) (ps := P2) fun us hl => match us, hl with | [_], _ => rfl
  have F3 := fd_mk (st := s3) l3 c3
  have B3 : Binds K _ P3 [] := Binds.all (fd := (PySem.W.fnOf "hides" "Frame.hides" (defArgs s3) (defBody s3) (defScope s3) .none kV3 dc3 pm3 an3 cd3 ct3)) (ps := P3) fun us hl => match us, hl with | [_], _ => rfl
  have F4 := fd_mk (st := s4) l4 c4
  have B4 : Binds K _ P4 [] := Binds.all (fd := (PySem.W.fnOf "over" "Frame.over" (defArgs s4) (defBody s4) (defScope s4) .none kV4 dc4 pm4 an4 cd4 ct4)) (ps := P4) fun us hl => match us, hl with | [_], _ => rfl
  have F5 := fd_mk (st := s5) l5 c5
  have B5 : Binds K _ P5 [] := Binds.all (fd := (PySem.W.fnOf "meets" "Frame.meets" (defArgs s5) (defBody s5) (defScope s5) .none kV5 dc5 pm5 an5 cd5 ct5)) (ps := P5) fun us hl => match us, hl with | [_, _], _ => rfl
  have F6 := fd_mk (st := s6) l6 c6
  have B6 : Binds K _ P6 [] := Binds.all (fd := (PySem.W.fnOf "behind" "Frame.behind" (defArgs s6) (defBody s6) (defScope s6) .none kV6 dc6 pm6 an6 cd6 ct6)) (ps := P6) fun us hl => match us, hl with | [_], _ => rfl
  have F7 := fd_mk (st := s7) l7 c7
  have B7 : Binds K _ P7 [] := Binds.all (fd := (PySem.W.fnOf "__init__" "Rounds.__init__" (defArgs s7) (defBody s7) (defScope s7) .none kV7 dc7 pm7 an7 cd7 ct7)) (ps := P7) fun us hl => match us, hl with | [_, _, _, _], _ => rfl
  have F8 := fd_mk (st := s8) l8 c8
  have B8 : Binds K _ P8 [] := Binds.all (fd := (PySem.W.fnOf "over" "Rounds.over" (defArgs s8) (defBody s8) (defScope s8) .none kV8 dc8 pm8 an8 cd8 ct8)) (ps := P8) fun us hl => match us, hl with | [_], _ => rfl
  have F9 := fd_mk (st := s9) l9 c9
  have B9 : Binds K _ P9 [] := Binds.all (fd := (PySem.W.fnOf "behind" "Rounds.behind" (defArgs s9) (defBody s9) (defScope s9) .none kV9 dc9 pm9 an9 cd9 ct9)) (ps := P9) fun us hl => match us, hl with | [_], _ => rfl
  have F10 := fd_mk (st := s10) l10 c10
  have B10 : Binds K _ P10 [] := Binds.all (fd := (PySem.W.fnOf "hides" "Kept.hides" (defArgs s10) (defBody s10) (defScope s10) .none kV10 dc10 pm10 an10 cd10 ct10)) (ps := P10) fun us hl => match us, hl with | [_], _ => rfl
  have F11 := fd_mk (st := s11) l11 c11
  have B11 : Binds K _ P11 [] := Binds.all (fd := (PySem.W.fnOf "__init__" "Tried.__init__" (defArgs s11) (defBody s11) (defScope s11) .none kV11 dc11 pm11 an11 cd11 ct11)) (ps := P11) fun us hl => match us, hl with | [_, _, _, _, _], _ => rfl
  have F12 := fd_mk (st := s12) l12 c12
  have B12 : Binds K _ P12 [] := Binds.all (fd := (PySem.W.fnOf "meets" "Tried.meets" (defArgs s12) (defBody s12) (defScope s12) .none kV12 dc12 pm12 an12 cd12 ct12)) (ps := P12) fun us hl => match us, hl with | [_, _], _ => rfl
  have F13 := fd_mk (st := s13) l13 c13
  have B13 : Binds K _ P13 [] := Binds.all (fd := (PySem.W.fnOf "behind" "Tried.behind" (defArgs s13) (defBody s13) (defScope s13) .none kV13 dc13 pm13 an13 cd13 ct13)) (ps := P13) fun us hl => match us, hl with | [_], _ => rfl
  have F14 := fd_mk (st := s14) l14 c14
  have B14 : Binds K _ P14 [] := Binds.all (fd := (PySem.W.fnOf "__init__" "Cleaned.__init__" (defArgs s14) (defBody s14) (defScope s14) .none kV14 dc14 pm14 an14 cd14 ct14)) (ps := P14) fun us hl => match us, hl with | [_, _, _, _], _ => rfl
  have F15 := fd_mk (st := s15) l15 c15
  have B15 : Binds K _ P15 [] := Binds.all (fd := (PySem.W.fnOf "clean" "Cleaned.clean" (defArgs s15) (defBody s15) (defScope s15) .none kV15 dc15 pm15 an15 cd15 ct15)) (ps := P15) fun us hl => match us, hl with | [_, _], _ => rfl
  have F16 := fd_mk (st := s16) l16 c16
  have B16 : Binds K _ P16 [] := Binds.all (fd := (PySem.W.fnOf "hides" "Cleaned.hides" (defArgs s16) (defBody s16) (defScope s16) .none kV16 dc16 pm16 an16 cd16 ct16)) (ps := P16) fun us hl => match us, hl with | [_], _ => rfl
  have F17 := fd_mk (st := s17) l17 c17
  have B17 : Binds K _ P17 [] := Binds.all (fd := (PySem.W.fnOf "over" "Cleaned.over" (defArgs s17) (defBody s17) (defScope s17) .none kV17 dc17 pm17 an17 cd17 ct17)) (ps := P17) fun us hl => match us, hl with | [_], _ => rfl
  have F18 := fd_mk (st := s18) l18 c18
  have B18 : Binds K _ P18 [] := Binds.all (fd := (PySem.W.fnOf "meets" "Cleaned.meets" (defArgs s18) (defBody s18) (defScope s18) .none kV18 dc18 pm18 an18 cd18 ct18)) (ps := P18) fun us hl => match us, hl with | [_, _], _ => rfl
  have F19 := fd_mk (st := s19) l19 c19
  have B19 : Binds K _ P19 [] := Binds.all (fd := (PySem.W.fnOf "behind" "Cleaned.behind" (defArgs s19) (defBody s19) (defScope s19) .none kV19 dc19 pm19 an19 cd19 ct19)) (ps := P19) fun us hl => match us, hl with | [_], _ => rfl
  have F20 := fd_mk (st := s20) l20 c20
  have B20 : Binds K _ P20 [] := Binds.all (fd := (PySem.W.fnOf "__init__" "Limited.__init__" (defArgs s20) (defBody s20) (defScope s20) .none kV20 dc20 pm20 an20 cd20 ct20)) (ps := P20) fun us hl => match us, hl with | [_, _, _, _, _], _ => rfl
  have F21 := fd_mk (st := s21) l21 c21
  have B21 : Binds K _ P21 [] := Binds.all (fd := (PySem.W.fnOf "meets" "Limited.meets" (defArgs s21) (defBody s21) (defScope s21) .none kV21 dc21 pm21 an21 cd21 ct21)) (ps := P21) fun us hl => match us, hl with | [_, _], _ => rfl
  have F22 := fd_mk (st := s22) l22 c22
  have B22 : Binds K _ P22 [] := Binds.all (fd := (PySem.W.fnOf "behind" "Limited.behind" (defArgs s22) (defBody s22) (defScope s22) .none kV22 dc22 pm22 an22 cd22 ct22)) (ps := P22) fun us hl => match us, hl with | [_], _ => rfl
  have F23 := fd_mk (st := s23) l23 c23
  have B23 : Binds K _ P23 [] := Binds.all (fd := (PySem.W.fnOf "__init__" "Grouped.__init__" (defArgs s23) (defBody s23) (defScope s23) .none kV23 dc23 pm23 an23 cd23 ct23)) (ps := P23) fun us hl => match us, hl with | [_, _, _, _, _], _ => rfl
  have F24 := fd_mk (st := s24) l24 c24
  have B24 : Binds K _ P24 [] := Binds.all (fd := (PySem.W.fnOf "over" "Grouped.over" (defArgs s24) (defBody s24) (defScope s24) .none kV24 dc24 pm24 an24 cd24 ct24)) (ps := P24) fun us hl => match us, hl with | [_], _ => rfl
  have F25 := fd_mk (st := s25) l25 c25
  have B25 : Binds K _ P25 [] := Binds.all (fd := (PySem.W.fnOf "meets" "Grouped.meets" (defArgs s25) (defBody s25) (defScope s25) .none kV25 dc25 pm25 an25 cd25 ct25)) (ps := P25) fun us hl => match us, hl with | [_, _], _ => rfl
  have F26 := fd_mk (st := s26) l26 c26
  have B26 : Binds K _ P26 [] := Binds.all (fd := (PySem.W.fnOf "__init__" "Machine.__init__" (defArgs s26) (defBody s26) (defScope s26) .none kV26 dc26 pm26 an26 cd26 ct26)) (ps := P26) fun us hl => match us, hl with | [_, _], _ => rfl
  have F27 := fd_mk (st := s27) l27 c27
  have B27 : Binds K _ P27 [] := Binds.all (fd := (PySem.W.fnOf "value_of" "Machine.value_of" (defArgs s27) (defBody s27) (defScope s27) .none kV27 dc27 pm27 an27 cd27 ct27)) (ps := P27) fun us hl => match us, hl with | [_, _], _ => rfl
  have F28 := fd_mk (st := s28) l28 c28
  have B28 : Binds K _ P28 [] := Binds.all (fd := (PySem.W.fnOf "mark" "Machine.mark" (defArgs s28) (defBody s28) (defScope s28) .none kV28 dc28 pm28 an28 cd28 ct28)) (ps := P28) fun us hl => match us, hl with | [_, _, _], _ => rfl
  have F29 := fd_mk (st := s29) l29 c29
  have B29 : Binds K _ P29 [] := Binds.all (fd := (PySem.W.fnOf "is_marked" "Machine.is_marked" (defArgs s29) (defBody s29) (defScope s29) .none kV29 dc29 pm29 an29 cd29 ct29)) (ps := P29) fun us hl => match us, hl with | [_, _], _ => rfl
  have F30 := fd_mk (st := s30) l30 c30
  have B30 : Binds K _ P30 [] := Binds.all (fd := (PySem.W.fnOf "target" "Machine.target" (defArgs s30) (defBody s30) (defScope s30) .none kV30 dc30 pm30 an30 cd30 ct30)) (ps := P30) fun us hl => match us, hl with | [_], _ => rfl
  have F31 := fd_mk (st := s31) l31 c31
  have B31 : Binds K _ P31 [] := Binds.all (fd := (PySem.W.fnOf "scopes" "Machine.scopes" (defArgs s31) (defBody s31) (defScope s31) .none kV31 dc31 pm31 an31 cd31 ct31)) (ps := P31) fun us hl => match us, hl with | [_], _ => rfl
  have F32 := fd_mk (st := s32) l32 c32
  have B32 : Binds K _ P32 [] := Binds.all (fd := (PySem.W.fnOf "waiting" "Machine.waiting" (defArgs s32) (defBody s32) (defScope s32) .none kV32 dc32 pm32 an32 cd32 ct32)) (ps := P32) fun us hl => match us, hl with | [_], _ => rfl
  have F33 := fd_mk (st := s33) l33 c33
  have B33 : Binds K _ P33 [] := Binds.all (fd := (PySem.W.fnOf "strikable" "Machine.strikable" (defArgs s33) (defBody s33) (defScope s33) .none kV33 dc33 pm33 an33 cd33 ct33)) (ps := P33) fun us hl => match us, hl with | [_], _ => rfl
  have F34 := fd_mk (st := s34) l34 c34
  have B34 : Binds K _ P34 [] := Binds.all (fd := (PySem.W.fnOf "outcome" "Machine.outcome" (defArgs s34) (defBody s34) (defScope s34) .none kV34 dc34 pm34 an34 cd34 ct34)) (ps := P34) fun us hl => match us, hl with | [_], _ => rfl
  have F35 := fd_mk (st := s35) l35 c35
  have B35 : Binds K _ P35 [] := Binds.all (fd := (PySem.W.fnOf "strike" "Machine.strike" (defArgs s35) (defBody s35) (defScope s35) .none kV35 dc35 pm35 an35 cd35 ct35)) (ps := P35) fun us hl => match us, hl with | [_], _ => rfl
  have F36 := fd_mk (st := s36) l36 c36
  have F37 := fd_mk (st := s37) l37 c37
  have B37 : Binds K _ P37 [] := Binds.all (fd := (PySem.W.fnOf "raised" "Machine.raised" (defArgs s37) (defBody s37) (defScope s37) .none kV37 dc37 pm37 an37 cd37 ct37)) (ps := P37) fun us hl => match us, hl with | [_, _], _ => rfl
  have F38 := fd_mk (st := s38) l38 c38
  have B38 : Binds K _ P38 [] := Binds.all (fd := (PySem.W.fnOf "joined" "Machine.joined" (defArgs s38) (defBody s38) (defScope s38) .none kV38 dc38 pm38 an38 cd38 ct38)) (ps := P38) fun us hl => match us, hl with | [_, _], _ => rfl
  have F39 := fd_mk (st := s39) l39 c39
  have B39 : Binds K _ P39 [] := Binds.all (fd := (PySem.W.fnOf "step" "Machine.step" (defArgs s39) (defBody s39) (defScope s39) .none kV39 dc39 pm39 an39 cd39 ct39)) (ps := P39) fun us hl => match us, hl with | [_], _ => rfl
  have F40 := fd_mk (st := s40) l40 c40
  have B40 : Binds K _ P40 [] := Binds.all (fd := (PySem.W.fnOf "drop" "Machine.drop" (defArgs s40) (defBody s40) (defScope s40) .none kV40 dc40 pm40 an40 cd40 ct40)) (ps := P40) fun us hl => match us, hl with | [_], _ => rfl
  have F41 := fd_mk (st := s41) l41 c41
  have B41 : Binds K _ P41 [] := Binds.all (fd := (PySem.W.fnOf "ended" "Machine.ended" (defArgs s41) (defBody s41) (defScope s41) .none kV41 dc41 pm41 an41 cd41 ct41)) (ps := P41) fun us hl => match us, hl with | [_, _], _ => rfl
  have F42 := fd_mk (st := s42) l42 c42
  have B42 : Binds K _ P42 [] := Binds.all (fd := (PySem.W.fnOf "go_on" "Machine.go_on" (defArgs s42) (defBody s42) (defScope s42) .none kV42 dc42 pm42 an42 cd42 ct42)) (ps := P42) fun us hl => match us, hl with | [_], _ => rfl
  have F43 := fd_mk (st := s43) l43 c43
  have B43 : Binds K _ P43 [] := Binds.all (fd := (PySem.W.fnOf "leave" "Machine.leave" (defArgs s43) (defBody s43) (defScope s43) .none kV43 dc43 pm43 an43 cd43 ct43)) (ps := P43) fun us hl => match us, hl with | [_, _], _ => rfl
  have F44 := fd_mk (st := s44) l44 c44
  have B44 : Binds K _ P44 [] := Binds.all (fd := (PySem.W.fnOf "go_out" "Machine.go_out" (defArgs s44) (defBody s44) (defScope s44) .none kV44 dc44 pm44 an44 cd44 ct44)) (ps := P44) fun us hl => match us, hl with | [_], _ => rfl
  have F45 := fd_mk (st := s45) l45 c45
  have B45 : Binds K _ P45 [] := Binds.all (fd := (PySem.W.fnOf "waits" "Machine.waits" (defArgs s45) (defBody s45) (defScope s45) .none kV45 dc45 pm45 an45 cd45 ct45)) (ps := P45) fun us hl => match us, hl with | [_, _], _ => rfl
  have F46 := fd_mk (st := s46) l46 c46
  have B46 : Binds K _ P46 [] := Binds.all (fd := (PySem.W.fnOf "done" "Machine.done" (defArgs s46) (defBody s46) (defScope s46) .none kV46 dc46 pm46 an46 cd46 ct46)) (ps := P46) fun us hl => match us, hl with | [_, _], _ => rfl
  have F47 := fd_mk (st := s47) l47 c47
  have B47 : Binds K _ P47 [] := Binds.all (fd := (PySem.W.fnOf "group_of" "Machine.group_of" (defArgs s47) (defBody s47) (defScope s47) .none kV47 dc47 pm47 an47 cd47 ct47)) (ps := P47) fun us hl => match us, hl with | [_, _], _ => rfl
  have F48 := fd_mk (st := s48) l48 c48
  have B48 : Binds K _ P48 [] := Binds.all (fd := (PySem.W.fnOf "entered" "Machine.entered" (defArgs s48) (defBody s48) (defScope s48) .none kV48 dc48 pm48 an48 cd48 ct48)) (ps := P48) fun us hl => match us, hl with | [_, _], _ => rfl
  have F49 := fd_mk (st := s49) l49 c49
  have B49 : Binds K _ P49 [] := Binds.all (fd := (PySem.W.fnOf "might" "Machine.might" (defArgs s49) (defBody s49) (defScope s49) .none kV49 dc49 pm49 an49 cd49 ct49)) (ps := P49) fun us hl => match us, hl with | [_], _ => rfl
  have F50 := fd_mk (st := s50) l50 c50
  have B50 : Binds K _ P50 [] := Binds.all (fd := (PySem.W.fnOf "_law_cell_at" "_law_cell_at" (defArgs s50) (defBody s50) (defScope s50) .none kV50 dc50 pm50 an50 cd50 ct50)) (ps := P50) fun us hl => match us, hl with | [_, _], _ => rfl
  have F51 := fd_mk (st := s51) l51 c51
  have B51 : Binds K _ P51 [] := Binds.all (fd := (PySem.W.fnOf "_law_mixed" "_law_mixed" (defArgs s51) (defBody s51) (defScope s51) .none kV51 dc51 pm51 an51 cd51 ct51)) (ps := P51) fun us hl => match us, hl with | [_, _], _ => rfl
  have F52 := fd_mk (st := s52) l52 c52
  have B52 : Binds K _ P52 [] := Binds.all (fd := (PySem.W.fnOf "_law_chain" "_law_chain" (defArgs s52) (defBody s52) (defScope s52) .none kV52 dc52 pm52 an52 cd52 ct52)) (ps := P52) fun us hl => match us, hl with | [_, _], _ => rfl
  have F53 := fd_mk (st := s53) l53 c53
  have B53 : Binds K _ P53 [] := Binds.all (fd := (PySem.W.fnOf "_law_nested" "_law_nested" (defArgs s53) (defBody s53) (defScope s53) .none kV53 dc53 pm53 an53 cd53 ct53)) (ps := P53) fun us hl => match us, hl with | [_, _], _ => rfl
  have F54 := fd_mk (st := s54) l54 c54
  have B54 : Binds K _ P54 [] := Binds.all (fd := (PySem.W.fnOf "_law_scopes" "_law_scopes" (defArgs s54) (defBody s54) (defScope s54) .none kV54 dc54 pm54 an54 cd54 ct54)) (ps := P54) fun us hl => match us, hl with | [_], _ => rfl
  have F56 := fd_mk (st := s56) l56 c56
  have B56 : Binds K _ P56 [] := Binds.all (fd := (PySem.W.fnOf "_law_entered" "_law_entered" (defArgs s56) (defBody s56) (defScope s56) .none kV56 dc56 pm56 an56 cd56 ct56)) (ps := P56) fun us hl => match us, hl with | [_, _], _ => rfl
  have F57 := fd_mk (st := s57) l57 c57
  have B57 : Binds K _ P57 [] := Binds.all (fd := (PySem.W.fnOf "_law_halted" "_law_halted" (defArgs s57) (defBody s57) (defScope s57) .none kV57 dc57 pm57 an57 cd57 ct57)) (ps := P57) fun us hl => match us, hl with | [_, _, _, _, _], _ => rfl
  have F58 := fd_mk (st := s58) l58 c58
  have B58 : Binds K _ P58 [] := Binds.all (fd := (PySem.W.fnOf "_law_out" "_law_out" (defArgs s58) (defBody s58) (defScope s58) .none kV58 dc58 pm58 an58 cd58 ct58)) (ps := P58) fun us hl => match us, hl with | [_, _, _, _], _ => rfl
  have F59 := fd_mk (st := s59) l59 c59
  have B59 : Binds K _ P59 [] := Binds.all (fd := (PySem.W.fnOf "_law_right" "_law_right" (defArgs s59) (defBody s59) (defScope s59) .none kV59 dc59 pm59 an59 cd59 ct59)) (ps := P59) fun us hl => match us, hl with | [_, _], _ => rfl
  have F60 := fd_mk (st := s60) l60 c60
  have B60 : Binds K _ P60 [] := Binds.all (fd := (PySem.W.fnOf "law" "law" (defArgs s60) (defBody s60) (defScope s60) .none kV60 dc60 pm60 an60 cd60 ct60)) (ps := P60) fun us hl => match us, hl with | [_], _ => rfl
  have FD1 : FunD K "__init__" "Frame.__init__" (defArgs s1) (defBody s1) (defScope s1) ([.non] : List V) [] f1 (PySem.W.fnOf "__init__" "Frame.__init__" (defArgs s1) (defBody s1) (defScope s1) (.ref t1) kV1 dc1 pm1 an1 cd1 ct1) := ⟨⟨_, _, _, _, _, _, _, _, _, _, rfl, l1, c1, .inr ⟨by simp, t1, _, [.none], _, rfl, t1l, rfl, (.cons rfl .nil)⟩, .inl rfl⟩, k1⟩
  have B1 : Binds K (PySem.W.fnOf "__init__" "Frame.__init__" (defArgs s1) (defBody s1) (defScope s1) (.ref t1) kV1 dc1 pm1 an1 cd1 ct1) P1 [] := binds_full (FD1.binds1 4 1 (by simp) rfl fun T kV doc pm an cdv ct us its h1 h2 => match us, its, h1, h2 with | [_, _, _, _], [_], _, _ => ⟨_, rfl, rfl⟩)
  have d1_0 : DefsOk K (PySem.W.fnOf "__init__" "Frame.__init__" (defArgs s1) (defBody s1) (defScope s1) (.ref t1) kV1 dc1 pm1 an1 cd1 ct1) P1 [.non] := defs_of (FD1.binds1 3 0 (by simp) rfl fun T kV doc pm an cdv ct us its h1 h2 => match us, its, h1, h2 with | [_, _, _], [_], _, _ => ⟨_, rfl, rfl⟩) rfl rfl
  have FD36 : FunD K "go" "Machine.go" (defArgs s36) (defBody s36) (defScope s36) ([.non] : List V) [] f36 (PySem.W.fnOf "go" "Machine.go" (defArgs s36) (defBody s36) (defScope s36) (.ref t36) kV36 dc36 pm36 an36 cd36 ct36) := ⟨⟨_, _, _, _, _, _, _, _, _, _, rfl, l36, c36, .inr ⟨by simp, t36, _, [.none], _, rfl, t36l, rfl, (.cons rfl .nil)⟩, .inl rfl⟩, k36⟩
  have B36 : Binds K (PySem.W.fnOf "go" "Machine.go" (defArgs s36) (defBody s36) (defScope s36) (.ref t36) kV36 dc36 pm36 an36 cd36 ct36) P36 [] := binds_full (FD36.binds1 2 1 (by simp) rfl fun T kV doc pm an cdv ct us its h1 h2 => match us, its, h1, h2 with | [_, _], [_], _, _ => ⟨_, rfl, rfl⟩)
  refine ⟨⟨⟨K, fun i => ([C0, C1, C2, C3, C4, C5, C6, C7] : List Addr).getD i 0, NM, nmNd⟩, fun i => ([f0, f1, f2, f3, f4, f5, f6, f7, f8, f9, f10, f11, f12, f13, f14, f15, f16, f17, f18, f19, f20, f21, f22, f23, f24, f25, f26, f27, f28, f29, f30, f31, f32, f33, f34, f35, f36, f37, f38, f39, f40, f41, f42, f43, f44, f45, f46, f47, f48, f49, f50, f51, f52, f53, f54, f54, f56, f57, f58, f59, f60] : List Addr).getD i 0, fun i => ([(PySem.W.fnOf "_wall" "_wall" (defArgs s0) (defBody s0) (defScope s0) .none kV0 dc0 pm0 an0 cd0 ct0), (PySem.W.fnOf "__init__" "Frame.__init__" (defArgs s1) (defBody s1) (defScope s1) (.ref t1) kV1 dc1 pm1 an1 cd1 ct1), (PySem.W.fnOf "next_row" "Frame.next_row" (defArgs s2) (defBody s2) (defScope s2) .none kV2 dc2 pm2 an2 cd2 ct2), (PySem.W.fnOf "hides" "Frame.hides" (defArgs s3) (defBody s3) (defScope s3) .none kV3 dc3 pm3 an3 cd3 ct3), (PySem.W.fnOf "over" "Frame.over" (defArgs s4) (defBody s4) (defScope s4) .none kV4 dc4 pm4 an4 cd4 ct4), (PySem.W.fnOf "meets" "Frame.meets" (defArgs s5) (defBody s5) (defScope s5) .none kV5 dc5 pm5 an5 cd5 ct5), (PySem.W.fnOf "behind" "Frame.behind" (defArgs s6) (defBody s6) (defScope s6) .none kV6 dc6 pm6 an6 cd6 ct6), (PySem.W.fnOf "__init__" "Rounds.__init__" (defArgs s7) (defBody s7) (defScope s7) .none kV7 dc7 pm7 an7 cd7 ct7), (PySem.W.fnOf "over" "Rounds.over" (defArgs s8) (defBody s8) (defScope s8) .none kV8 dc8 pm8 an8 cd8 ct8), (PySem.W.fnOf "behind" "Rounds.behind" (defArgs s9) (defBody s9) (defScope s9) .none kV9 dc9 pm9 an9 cd9 ct9), (PySem.W.fnOf "hides" "Kept.hides" (defArgs s10) (defBody s10) (defScope s10) .none kV10 dc10 pm10 an10 cd10 ct10), (PySem.W.fnOf "__init__" "Tried.__init__" (defArgs s11) (defBody s11) (defScope s11) .none kV11 dc11 pm11 an11 cd11 ct11), (PySem.W.fnOf "meets" "Tried.meets" (defArgs s12) (defBody s12) (defScope s12) .none kV12 dc12 pm12 an12 cd12 ct12), (PySem.W.fnOf "behind" "Tried.behind" (defArgs s13) (defBody s13) (defScope s13) .none kV13 dc13 pm13 an13 cd13 ct13), (PySem.W.fnOf "__init__" "Cleaned.__init__" (defArgs s14) (defBody s14) (defScope s14) .none kV14 dc14 pm14 an14 cd14 ct14), (PySem.W.fnOf "clean" "Cleaned.clean" (defArgs s15) (defBody s15) (defScope s15) .none kV15 dc15 pm15 an15 cd15 ct15), (PySem.W.fnOf "hides" "Cleaned.hides" (defArgs s16) (defBody s16) (defScope s16) .none kV16 dc16 pm16 an16 cd16 ct16), (PySem.W.fnOf "over" "Cleaned.over" (defArgs s17) (defBody s17) (defScope s17) .none kV17 dc17 pm17 an17 cd17 ct17), (PySem.W.fnOf "meets" "Cleaned.meets" (defArgs s18) (defBody s18) (defScope s18) .none kV18 dc18 pm18 an18 cd18 ct18), (PySem.W.fnOf "behind" "Cleaned.behind" (defArgs s19) (defBody s19) (defScope s19) .none kV19 dc19 pm19 an19 cd19 ct19), (PySem.W.fnOf "__init__" "Limited.__init__" (defArgs s20) (defBody s20) (defScope s20) .none kV20 dc20 pm20 an20 cd20 ct20), (PySem.W.fnOf "meets" "Limited.meets" (defArgs s21) (defBody s21) (defScope s21) .none kV21 dc21 pm21 an21 cd21 ct21), (PySem.W.fnOf "behind" "Limited.behind" (defArgs s22) (defBody s22) (defScope s22) .none kV22 dc22 pm22 an22 cd22 ct22), (PySem.W.fnOf "__init__" "Grouped.__init__" (defArgs s23) (defBody s23) (defScope s23) .none kV23 dc23 pm23 an23 cd23 ct23), (PySem.W.fnOf "over" "Grouped.over" (defArgs s24) (defBody s24) (defScope s24) .none kV24 dc24 pm24 an24 cd24 ct24), (PySem.W.fnOf "meets" "Grouped.meets" (defArgs s25) (defBody s25) (defScope s25) .none kV25 dc25 pm25 an25 cd25 ct25), (PySem.W.fnOf "__init__" "Machine.__init__" (defArgs s26) (defBody s26) (defScope s26) .none kV26 dc26 pm26 an26 cd26 ct26), (PySem.W.fnOf "value_of" "Machine.value_of" (defArgs s27) (defBody s27) (defScope s27) .none kV27 dc27 pm27 an27 cd27 ct27), (PySem.W.fnOf "mark" "Machine.mark" (defArgs s28) (defBody s28) (defScope s28) .none kV28 dc28 pm28 an28 cd28 ct28), (PySem.W.fnOf "is_marked" "Machine.is_marked" (defArgs s29) (defBody s29) (defScope s29) .none kV29 dc29 pm29 an29 cd29 ct29), (PySem.W.fnOf "target" "Machine.target" (defArgs s30) (defBody s30) (defScope s30) .none kV30 dc30 pm30 an30 cd30 ct30), (PySem.W.fnOf "scopes" "Machine.scopes" (defArgs s31) (defBody s31) (defScope s31) .none kV31 dc31 pm31 an31 cd31 ct31), (PySem.W.fnOf "waiting" "Machine.waiting" (defArgs s32) (defBody s32) (defScope s32) .none kV32 dc32 pm32 an32 cd32 ct32), (PySem.W.fnOf "strikable" "Machine.strikable" (defArgs s33) (defBody s33) (defScope s33) .none kV33 dc33 pm33 an33 cd33 ct33), (PySem.W.fnOf "outcome" "Machine.outcome" (defArgs s34) (defBody s34) (defScope s34) .none kV34 dc34 pm34 an34 cd34 ct34), (PySem.W.fnOf "strike" "Machine.strike" (defArgs s35) (defBody s35) (defScope s35) .none kV35 dc35 pm35 an35 cd35 ct35), (PySem.W.fnOf "go" "Machine.go" (defArgs s36) (defBody s36) (defScope s36) (.ref t36) kV36 dc36 pm36 an36 cd36 ct36), (PySem.W.fnOf "raised" "Machine.raised" (defArgs s37) (defBody s37) (defScope s37) .none kV37 dc37 pm37 an37 cd37 ct37), (PySem.W.fnOf "joined" "Machine.joined" (defArgs s38) (defBody s38) (defScope s38) .none kV38 dc38 pm38 an38 cd38 ct38), (PySem.W.fnOf "step" "Machine.step" (defArgs s39) (defBody s39) (defScope s39) .none kV39 dc39 pm39 an39 cd39 ct39), (PySem.W.fnOf "drop" "Machine.drop" (defArgs s40) (defBody s40) (defScope s40) .none kV40 dc40 pm40 an40 cd40 ct40), (PySem.W.fnOf "ended" "Machine.ended" (defArgs s41) (defBody s41) (defScope s41) .none kV41 dc41 pm41 an41 cd41 ct41), (PySem.W.fnOf "go_on" "Machine.go_on" (defArgs s42) (defBody s42) (defScope s42) .none kV42 dc42 pm42 an42 cd42 ct42), (PySem.W.fnOf "leave" "Machine.leave" (defArgs s43) (defBody s43) (defScope s43) .none kV43 dc43 pm43 an43 cd43 ct43), (PySem.W.fnOf "go_out" "Machine.go_out" (defArgs s44) (defBody s44) (defScope s44) .none kV44 dc44 pm44 an44 cd44 ct44), (PySem.W.fnOf "waits" "Machine.waits" (defArgs s45) (defBody s45) (defScope s45) .none kV45 dc45 pm45 an45 cd45 ct45), (PySem.W.fnOf "done" "Machine.done" (defArgs s46) (defBody s46) (defScope s46) .none kV46 dc46 pm46 an46 cd46 ct46), (PySem.W.fnOf "group_of" "Machine.group_of" (defArgs s47) (defBody s47) (defScope s47) .none kV47 dc47 pm47 an47 cd47 ct47), (PySem.W.fnOf "entered" "Machine.entered" (defArgs s48) (defBody s48) (defScope s48) .none kV48 dc48 pm48 an48 cd48 ct48), (PySem.W.fnOf "might" "Machine.might" (defArgs s49) (defBody s49) (defScope s49) .none kV49 dc49 pm49 an49 cd49 ct49), (PySem.W.fnOf "_law_cell_at" "_law_cell_at" (defArgs s50) (defBody s50) (defScope s50) .none kV50 dc50 pm50 an50 cd50 ct50), (PySem.W.fnOf "_law_mixed" "_law_mixed" (defArgs s51) (defBody s51) (defScope s51) .none kV51 dc51 pm51 an51 cd51 ct51), (PySem.W.fnOf "_law_chain" "_law_chain" (defArgs s52) (defBody s52) (defScope s52) .none kV52 dc52 pm52 an52 cd52 ct52), (PySem.W.fnOf "_law_nested" "_law_nested" (defArgs s53) (defBody s53) (defScope s53) .none kV53 dc53 pm53 an53 cd53 ct53), (PySem.W.fnOf "_law_scopes" "_law_scopes" (defArgs s54) (defBody s54) (defScope s54) .none kV54 dc54 pm54 an54 cd54 ct54), (PySem.W.fnOf "_law_scopes" "_law_scopes" (defArgs s54) (defBody s54) (defScope s54) .none kV54 dc54 pm54 an54 cd54 ct54), (PySem.W.fnOf "_law_entered" "_law_entered" (defArgs s56) (defBody s56) (defScope s56) .none kV56 dc56 pm56 an56 cd56 ct56), (PySem.W.fnOf "_law_halted" "_law_halted" (defArgs s57) (defBody s57) (defScope s57) .none kV57 dc57 pm57 an57 cd57 ct57), (PySem.W.fnOf "_law_out" "_law_out" (defArgs s58) (defBody s58) (defScope s58) .none kV58 dc58 pm58 an58 cd58 ct58), (PySem.W.fnOf "_law_right" "_law_right" (defArgs s59) (defBody s59) (defScope s59) .none kV59 dc59 pm59 an59 cd59 ct59), (PySem.W.fnOf "law" "law" (defArgs s60) (defBody s60) (defScope s60) .none kV60 dc60 pm60 an60 cd60 ct60)] : List FuncData).getD i (PySem.W.fnOf "_wall" "_wall" (defArgs s0) (defBody s0) (defScope s0) .none kV0 dc0 pm0 an0 cd0 ct0), fun i => ([P0, P1, P2, P3, P4, P5, P6, P7, P8, P9, P10, P11, P12, P13, P14, P15, P16, P17, P18, P19, P20, P21, P22, P23, P24, P25, P26, P27, P28, P29, P30, P31, P32, P33, P34, P35, P36, P37, P38, P39, P40, P41, P42, P43, P44, P45, P46, P47, P48, P49, P50, P51, P52, P53, P54, P54, P56, P57, P58, P59, P60] : List (List Str)).getD i [], rfl, ?_, rfl, rfl, fun s u => .of_eq rfl⟩⟩
  refine { hNM := rfl, fld := ?fld, bl := ?bl, df := ?df, fns := ?fns, cls := ?cls, cst := ?cst, mts := ?mts, exs := ?exs, exr := ?exr, cat := ?cat, gc := ?gc, cfn := ?cfn, isi := ?isi }
  case fld =>
    have A : AllQ (fun p : Nat × Nat => Cls K (([C0, C1, C2, C3, C4, C5, C6, C7] : List Addr).getD p.1 0) ∧ NoAttr K (([C0, C1, C2, C3, C4, C5, C6, C7] : List Addr).getD p.1 0) (NM.getD p.2 Str.empty) ∧ p.2 < NM.length) fT := ⟨⟨⟨pg0, hd0, po0, sa0⟩, n0x1, by decide⟩, ⟨⟨pg0, hd0, po0, sa0⟩, n0x3, by decide⟩, ⟨⟨pg0, hd0, po0, sa0⟩, n0x0, by decide⟩, ⟨⟨pg0, hd0, po0, sa0⟩, n0x2, by decide⟩, ⟨⟨pg1, hd1, po1, sa1⟩, n1x4, by decide⟩, ⟨⟨pg1, hd1, po1, sa1⟩, n1x1, by decide⟩, ⟨⟨pg1, hd1, po1, sa1⟩, n1x3, by decide⟩, ⟨⟨pg1, hd1, po1, sa1⟩, n1x0, by decide⟩, ⟨⟨pg1, hd1, po1, sa1⟩, n1x2, by decide⟩, ⟨⟨pg2, hd2, po2, sa2⟩, n2x1, by decide⟩, ⟨⟨pg2, hd2, po2, sa2⟩, n2x3, by decide⟩, ⟨⟨pg2, hd2, po2, sa2⟩, n2x0, by decide⟩, ⟨⟨pg2, hd2, po2, sa2⟩, n2x2, by decide⟩, ⟨⟨pg3, hd3, po3, sa3⟩, n3x5, by decide⟩, ⟨⟨pg3, hd3, po3, sa3⟩, n3x1, by decide⟩, ⟨⟨pg3, hd3, po3, sa3⟩, n3x6, by decide⟩, ⟨⟨pg3, hd3, po3, sa3⟩, n3x3, by decide⟩, ⟨⟨pg3, hd3, po3, sa3⟩, n3x0, by decide⟩, ⟨⟨pg3, hd3, po3, sa3⟩, n3x2, by decide⟩, ⟨⟨pg4, hd4, po4, sa4⟩, n4x7, by decide⟩, ⟨⟨pg4, hd4, po4, sa4⟩, n4x8, by decide⟩, ⟨⟨pg4, hd4, po4, sa4⟩, n4x1, by decide⟩, ⟨⟨pg4, hd4, po4, sa4⟩, n4x6, by decide⟩, ⟨⟨pg4, hd4, po4, sa4⟩, n4x3, by decide⟩, ⟨⟨pg4, hd4, po4, sa4⟩, n4x0, by decide⟩, ⟨⟨pg4, hd4, po4, sa4⟩, n4x2, by decide⟩, ⟨⟨pg5, hd5, po5, sa5⟩, n5x1, by decide⟩, ⟨⟨pg5, hd5, po5, sa5⟩, n5x6, by decide⟩, ⟨⟨pg5, hd5, po5, sa5⟩, n5x3, by decide⟩, ⟨⟨pg5, hd5, po5, sa5⟩, n5x0, by decide⟩, ⟨⟨pg5, hd5, po5, sa5⟩, n5x2, by decide⟩, ⟨⟨pg6, hd6, po6, sa6⟩, n6x8, by decide⟩, ⟨⟨pg6, hd6, po6, sa6⟩, n6x1, by decide⟩, ⟨⟨pg6, hd6, po6, sa6⟩, n6x9, by decide⟩, ⟨⟨pg6, hd6, po6, sa6⟩, n6x10, by decide⟩, ⟨⟨pg6, hd6, po6, sa6⟩, n6x3, by decide⟩, ⟨⟨pg6, hd6, po6, sa6⟩, n6x0, by decide⟩, ⟨⟨pg6, hd6, po6, sa6⟩, n6x2, by decide⟩, ⟨⟨pg7, hd7, po7, sa7⟩, n7x19, by decide⟩, ⟨⟨pg7, hd7, po7, sa7⟩, n7x11, by decide⟩, ⟨⟨pg7, hd7, po7, sa7⟩, n7x18, by decide⟩, ⟨⟨pg7, hd7, po7, sa7⟩, n7x17, by decide⟩, ⟨⟨pg7, hd7, po7, sa7⟩, n7x13, by decide⟩, ⟨⟨pg7, hd7, po7, sa7⟩, n7x12, by decide⟩, ⟨⟨pg7, hd7, po7, sa7⟩, n7x14, by decide⟩, ⟨⟨pg7, hd7, po7, sa7⟩, n7x16, by decide⟩, ⟨⟨pg7, hd7, po7, sa7⟩, n7x15, by decide⟩, trivial⟩
    exact ⟨fun c f hf => (A.has (c, f) hf).1, fun c f hf => (A.has (c, f) hf).2⟩
  case bl => exact AllQ.has (P := fun x => mg x = none) ⟨PySem.W.mg_none_of X G z0, PySem.W.mg_none_of X G z1, PySem.W.mg_none_of X G z2, PySem.W.mg_none_of X G z3, PySem.W.mg_none_of X G z4, PySem.W.mg_none_of X G z5, PySem.W.mg_none_of X G z6, PySem.W.mg_none_of X G z7, trivial⟩
  case df => exact AllI.get0 (l := D) ⟨⟨⟨_, _, s0, N0, F0, ck0⟩⟩, ⟨⟨_, _, s1, N1, F1, ck1⟩⟩, ⟨⟨_, _, s2, N2, F2, ck2⟩⟩, ⟨⟨_, _, s3, N3, F3, ck3⟩⟩, ⟨⟨_, _, s4, N4, F4, ck4⟩⟩, ⟨⟨_, _, s5, N5, F5, ck5⟩⟩, ⟨⟨_, _, s6, N6, F6, ck6⟩⟩, ⟨⟨_, _, s7, N7, F7, ck7⟩⟩, ⟨⟨_, _, s8, N8, F8, ck8⟩⟩, ⟨⟨_, _, s9, N9, F9, ck9⟩⟩, ⟨⟨_, _, s10, N10, F10, ck10⟩⟩, ⟨⟨_, _, s11, N11, F11, ck11⟩⟩, ⟨⟨_, _, s12, N12, F12, ck12⟩⟩, ⟨⟨_, _, s13, N13, F13, ck13⟩⟩, ⟨⟨_, _, s14, N14, F14, ck14⟩⟩, ⟨⟨_, _, s15, N15, F15, ck15⟩⟩, ⟨⟨_, _, s16, N16, F16, ck16⟩⟩, ⟨⟨_, _, s17, N17, F17, ck17⟩⟩, ⟨⟨_, _, s18, N18, F18, ck18⟩⟩, ⟨⟨_, _, s19, N19, F19, ck19⟩⟩, ⟨⟨_, _, s20, N20, F20, ck20⟩⟩, ⟨⟨_, _, s21, N21, F21, ck21⟩⟩, ⟨⟨_, _, s22, N22, F22, ck22⟩⟩, ⟨⟨_, _, s23, N23, F23, ck23⟩⟩, ⟨⟨_, _, s24, N24, F24, ck24⟩⟩, ⟨⟨_, _, s25, N25, F25, ck25⟩⟩, ⟨⟨_, _, s26, N26, F26, ck26⟩⟩, ⟨⟨_, _, s27, N27, F27, ck27⟩⟩, ⟨⟨_, _, s28, N28, F28, ck28⟩⟩, ⟨⟨_, _, s29, N29, F29, ck29⟩⟩, ⟨⟨_, _, s30, N30, F30, ck30⟩⟩, ⟨⟨_, _, s31, N31, F31, ck31⟩⟩, ⟨⟨_, _, s32, N32, F32, ck32⟩⟩, ⟨⟨_, _, s33, N33, F33, ck33⟩⟩, ⟨⟨_, _, s34, N34, F34, ck34⟩⟩, ⟨⟨_, _, s35, N35, F35, ck35⟩⟩, ⟨⟨_, _, s36, N36, F36, ck36⟩⟩, ⟨⟨_, _, s37, N37, F37, ck37⟩⟩, ⟨⟨_, _, s38, N38, F38, ck38⟩⟩, ⟨⟨_, _, s39, N39, F39, ck39⟩⟩, ⟨⟨_, _, s40, N40, F40, ck40⟩⟩, ⟨⟨_, _, s41, N41, F41, ck41⟩⟩, ⟨⟨_, _, s42, N42, F42, ck42⟩⟩, ⟨⟨_, _, s43, N43, F43, ck43⟩⟩, ⟨⟨_, _, s44, N44, F44, ck44⟩⟩, ⟨⟨_, _, s45, N45, F45, ck45⟩⟩, ⟨⟨_, _, s46, N46, F46, ck46⟩⟩, ⟨⟨_, _, s47, N47, F47, ck47⟩⟩, ⟨⟨_, _, s48, N48, F48, ck48⟩⟩, ⟨⟨_, _, s49, N49, F49, ck49⟩⟩, ⟨⟨_, _, s50, N50, F50, ck50⟩⟩, ⟨⟨_, _, s51, N51, F51, ck51⟩⟩, ⟨⟨_, _, s52, N52, F52, ck52⟩⟩, ⟨⟨_, _, s53, N53, F53, ck53⟩⟩, ⟨⟨_, _, s54, N54, F54, ck54⟩⟩, ⟨⟨_, _, s54, N54, F54, ck54⟩⟩, ⟨⟨_, _, s56, N56, F56, ck56⟩⟩, ⟨⟨_, _, s57, N57, F57, ck57⟩⟩, ⟨⟨_, _, s58, N58, F58, ck58⟩⟩, ⟨⟨_, _, s59, N59, F59, ck59⟩⟩, ⟨⟨_, _, s60, N60, F60, ck60⟩⟩, trivial⟩
  case fns =>
    exact AllP.get ⟨⟨PySem.W.mg_of X G a0, k0, ds_none rfl B0⟩, ⟨PySem.W.mg_of X G a50, k50, ds_none rfl B50⟩, ⟨PySem.W.mg_of X G a51, k51, ds_none rfl B51⟩, ⟨PySem.W.mg_of X G a52, k52, ds_none rfl B52⟩, ⟨PySem.W.mg_of X G a53, k53, ds_none rfl B53⟩, ⟨PySem.W.mg_of X G a54, k54, ds_none rfl B54⟩, ⟨PySem.W.mg_of X G a56, k56, ds_none rfl B56⟩, ⟨PySem.W.mg_of X G a57, k57, ds_none rfl B57⟩, ⟨PySem.W.mg_of X G a58, k58, ds_none rfl B58⟩, ⟨PySem.W.mg_of X G a59, k59, ds_none rfl B59⟩, trivial⟩
  case cls =>
    have A : AllP (fun x (p : Nat × Nat) => mg x = some (.ref ((fun i => ([C0, C1, C2, C3, C4, C5, C6, C7] : List Addr).getD i 0) p.1)) ∧ Mk K ((fun i => ([C0, C1, C2, C3, C4, C5, C6, C7] : List Addr).getD i 0) p.1) ((fun i => ([f0, f1, f2, f3, f4, f5, f6, f7, f8, f9, f10, f11, f12, f13, f14, f15, f16, f17, f18, f19, f20, f21, f22, f23, f24, f25, f26, f27, f28, f29, f30, f31, f32, f33, f34, f35, f36, f37, f38, f39, f40, f41, f42, f43, f44, f45, f46, f47, f48, f49, f50, f51, f52, f53, f54, f54, f56, f57, f58, f59, f60] : List Addr).getD i 0) p.2) ∧ ∀ ds, dsOk Z p.2 ds = true → DefsOk K ((fun i => ([(PySem.W.fnOf "_wall" "_wall" (defArgs s0) (defBody s0) (defScope s0) .none kV0 dc0 pm0 an0 cd0 ct0), (PySem.W.fnOf "__init__" "Frame.__init__" (defArgs s1) (defBody s1) (defScope s1) (.ref t1) kV1 dc1 pm1 an1 cd1 ct1), (PySem.W.fnOf "next_row" "Frame.next_row" (defArgs s2) (defBody s2) (defScope s2) .none kV2 dc2 pm2 an2 cd2 ct2), (PySem.W.fnOf "hides" "Frame.hides" (defArgs s3) (defBody s3) (defScope s3) .none kV3 dc3 pm3 an3 cd3 ct3), (PySem.W.fnOf "over" "Frame.over" (defArgs s4) (defBody s4) (defScope s4) .none kV4 dc4 pm4 an4 cd4 ct4), (PySem.W.fnOf "meets" "Frame.meets" (defArgs s5) (defBody s5) (defScope s5) .none kV5 dc5 pm5 an5 cd5 ct5), (PySem.W.fnOf "behind" "Frame.behind" (defArgs s6) (defBody s6) (defScope s6) .none kV6 dc6 pm6 an6 cd6 ct6), (PySem.W.fnOf "__init__" "Rounds.__init__" (defArgs s7) (defBody s7) (defScope s7) .none kV7 dc7 pm7 an7 cd7 ct7), (PySem.W.fnOf "over" "Rounds.over" (defArgs s8) (defBody s8) (defScope s8) .none kV8 dc8 pm8 an8 cd8 ct8), (PySem.W.fnOf "behind" "Rounds.behind" (defArgs s9) (defBody s9) (defScope s9) .none kV9 dc9 pm9 an9 cd9 ct9), (PySem.W.fnOf "hides" "Kept.hides" (defArgs s10) (defBody s10) (defScope s10) .none kV10 dc10 pm10 an10 cd10 ct10), (PySem.W.fnOf "__init__" "Tried.__init__" (defArgs s11) (defBody s11) (defScope s11) .none kV11 dc11 pm11 an11 cd11 ct11), (PySem.W.fnOf "meets" "Tried.meets" (defArgs s12) (defBody s12) (defScope s12) .none kV12 dc12 pm12 an12 cd12 ct12), (PySem.W.fnOf "behind" "Tried.behind" (defArgs s13) (defBody s13) (defScope s13) .none kV13 dc13 pm13 an13 cd13 ct13), (PySem.W.fnOf "__init__" "Cleaned.__init__" (defArgs s14) (defBody s14) (defScope s14) .none kV14 dc14 pm14 an14 cd14 ct14), (PySem.W.fnOf "clean" "Cleaned.clean" (defArgs s15) (defBody s15) (defScope s15) .none kV15 dc15 pm15 an15 cd15 ct15), (PySem.W.fnOf "hides" "Cleaned.hides" (defArgs s16) (defBody s16) (defScope s16) .none kV16 dc16 pm16 an16 cd16 ct16), (PySem.W.fnOf "over" "Cleaned.over" (defArgs s17) (defBody s17) (defScope s17) .none kV17 dc17 pm17 an17 cd17 ct17), (PySem.W.fnOf "meets" "Cleaned.meets" (defArgs s18) (defBody s18) (defScope s18) .none kV18 dc18 pm18 an18 cd18 ct18), (PySem.W.fnOf "behind" "Cleaned.behind" (defArgs s19) (defBody s19) (defScope s19) .none kV19 dc19 pm19 an19 cd19 ct19), (PySem.W.fnOf "__init__" "Limited.__init__" (defArgs s20) (defBody s20) (defScope s20) .none kV20 dc20 pm20 an20 cd20 ct20), (PySem.W.fnOf "meets" "Limited.meets" (defArgs s21) (defBody s21) (defScope s21) .none kV21 dc21 pm21 an21 cd21 ct21), (PySem.W.fnOf "behind" "Limited.behind" (defArgs s22) (defBody s22) (defScope s22) .none kV22 dc22 pm22 an22 cd22 ct22), (PySem.W.fnOf "__init__" "Grouped.__init__" (defArgs s23) (defBody s23) (defScope s23) .none kV23 dc23 pm23 an23 cd23 ct23), (PySem.W.fnOf "over" "Grouped.over" (defArgs s24) (defBody s24) (defScope s24) .none kV24 dc24 pm24 an24 cd24 ct24), (PySem.W.fnOf "meets" "Grouped.meets" (defArgs s25) (defBody s25) (defScope s25) .none kV25 dc25 pm25 an25 cd25 ct25), (PySem.W.fnOf "__init__" "Machine.__init__" (defArgs s26) (defBody s26) (defScope s26) .none kV26 dc26 pm26 an26 cd26 ct26), (PySem.W.fnOf "value_of" "Machine.value_of" (defArgs s27) (defBody s27) (defScope s27) .none kV27 dc27 pm27 an27 cd27 ct27), (PySem.W.fnOf "mark" "Machine.mark" (defArgs s28) (defBody s28) (defScope s28) .none kV28 dc28 pm28 an28 cd28 ct28), (PySem.W.fnOf "is_marked" "Machine.is_marked" (defArgs s29) (defBody s29) (defScope s29) .none kV29 dc29 pm29 an29 cd29 ct29), (PySem.W.fnOf "target" "Machine.target" (defArgs s30) (defBody s30) (defScope s30) .none kV30 dc30 pm30 an30 cd30 ct30), (PySem.W.fnOf "scopes" "Machine.scopes" (defArgs s31) (defBody s31) (defScope s31) .none kV31 dc31 pm31 an31 cd31 ct31), (PySem.W.fnOf "waiting" "Machine.waiting" (defArgs s32) (defBody s32) (defScope s32) .none kV32 dc32 pm32 an32 cd32 ct32), (PySem.W.fnOf "strikable" "Machine.strikable" (defArgs s33) (defBody s33) (defScope s33) .none kV33 dc33 pm33 an33 cd33 ct33), (PySem.W.fnOf "outcome" "Machine.outcome" (defArgs s34) (defBody s34) (defScope s34) .none kV34 dc34 pm34 an34 cd34 ct34), (PySem.W.fnOf "strike" "Machine.strike" (defArgs s35) (defBody s35) (defScope s35) .none kV35 dc35 pm35 an35 cd35 ct35), (PySem.W.fnOf "go" "Machine.go" (defArgs s36) (defBody s36) (defScope s36) (.ref t36) kV36 dc36 pm36 an36 cd36 ct36), (PySem.W.fnOf "raised" "Machine.raised" (defArgs s37) (defBody s37) (defScope s37) .none kV37 dc37 pm37 an37 cd37 ct37), (PySem.W.fnOf "joined" "Machine.joined" (defArgs s38) (defBody s38) (defScope s38) .none kV38 dc38 pm38 an38 cd38 ct38), (PySem.W.fnOf "step" "Machine.step" (defArgs s39) (defBody s39) (defScope s39) .none kV39 dc39 pm39 an39 cd39 ct39), (PySem.W.fnOf "drop" "Machine.drop" (defArgs s40) (defBody s40) (defScope s40) .none kV40 dc40 pm40 an40 cd40 ct40), (PySem.W.fnOf "ended" "Machine.ended" (defArgs s41) (defBody s41) (defScope s41) .none kV41 dc41 pm41 an41 cd41 ct41), (PySem.W.fnOf "go_on" "Machine.go_on" (defArgs s42) (defBody s42) (defScope s42) .none kV42 dc42 pm42 an42 cd42 ct42), (PySem.W.fnOf "leave" "Machine.leave" (defArgs s43) (defBody s43) (defScope s43) .none kV43 dc43 pm43 an43 cd43 ct43), (PySem.W.fnOf "go_out" "Machine.go_out" (defArgs s44) (defBody s44) (defScope s44) .none kV44 dc44 pm44 an44 cd44 ct44), (PySem.W.fnOf "waits" "Machine.waits" (defArgs s45) (defBody s45) (defScope s45) .none kV45 dc45 pm45 an45 cd45 ct45), (PySem.W.fnOf "done" "Machine.done" (defArgs s46) (defBody s46) (defScope s46) .none kV46 dc46 pm46 an46 cd46 ct46), (PySem.W.fnOf "group_of" "Machine.group_of" (defArgs s47) (defBody s47) (defScope s47) .none kV47 dc47 pm47 an47 cd47 ct47), (PySem.W.fnOf "entered" "Machine.entered" (defArgs s48) (defBody s48) (defScope s48) .none kV48 dc48 pm48 an48 cd48 ct48), (PySem.W.fnOf "might" "Machine.might" (defArgs s49) (defBody s49) (defScope s49) .none kV49 dc49 pm49 an49 cd49 ct49), (PySem.W.fnOf "_law_cell_at" "_law_cell_at" (defArgs s50) (defBody s50) (defScope s50) .none kV50 dc50 pm50 an50 cd50 ct50), (PySem.W.fnOf "_law_mixed" "_law_mixed" (defArgs s51) (defBody s51) (defScope s51) .none kV51 dc51 pm51 an51 cd51 ct51), (PySem.W.fnOf "_law_chain" "_law_chain" (defArgs s52) (defBody s52) (defScope s52) .none kV52 dc52 pm52 an52 cd52 ct52), (PySem.W.fnOf "_law_nested" "_law_nested" (defArgs s53) (defBody s53) (defScope s53) .none kV53 dc53 pm53 an53 cd53 ct53), (PySem.W.fnOf "_law_scopes" "_law_scopes" (defArgs s54) (defBody s54) (defScope s54) .none kV54 dc54 pm54 an54 cd54 ct54), (PySem.W.fnOf "_law_scopes" "_law_scopes" (defArgs s54) (defBody s54) (defScope s54) .none kV54 dc54 pm54 an54 cd54 ct54), (PySem.W.fnOf "_law_entered" "_law_entered" (defArgs s56) (defBody s56) (defScope s56) .none kV56 dc56 pm56 an56 cd56 ct56), (PySem.W.fnOf "_law_halted" "_law_halted" (defArgs s57) (defBody s57) (defScope s57) .none kV57 dc57 pm57 an57 cd57 ct57), (PySem.W.fnOf "_law_out" "_law_out" (defArgs s58) (defBody s58) (defScope s58) .none kV58 dc58 pm58 an58 cd58 ct58), (PySem.W.fnOf "_law_right" "_law_right" (defArgs s59) (defBody s59) (defScope s59) .none kV59 dc59 pm59 an59 cd59 ct59), (PySem.W.fnOf "law" "law" (defArgs s60) (defBody s60) (defScope s60) .none kV60 dc60 pm60 an60 cd60 ct60)] : List FuncData).getD i (PySem.W.fnOf "_wall" "_wall" (defArgs s0) (defBody s0) (defScope s0) .none kV0 dc0 pm0 an0 cd0 ct0)) p.2) ((fun i => ([P0, P1, P2, P3, P4, P5, P6, P7, P8, P9, P10, P11, P12, P13, P14, P15, P16, P17, P18, P19, P20, P21, P22, P23, P24, P25, P26, P27, P28, P29, P30, P31, P32, P33, P34, P35, P36, P37, P38, P39, P40, P41, P42, P43, P44, P45, P46, P47, P48, P49, P50, P51, P52, P53, P54, P54, P56, P57, P58, P59, P60] : List (List Str)).getD i []) p.2) ds) Z.cls := ⟨⟨PySem.W.mg_of X G hC0, ⟨mk0, a1, i1, kC0⟩, ds_some (AllQ.mem (P := fun p : Nat × List Val => p.1 = 1 → DefsOk K (PySem.W.fnOf "__init__" "Frame.__init__" (defArgs s1) (defBody s1) (defScope s1) (.ref t1) kV1 dc1 pm1 an1 cd1 ct1) P1 p.2) (l := Z.dss) ⟨fun _ => d1_0, trivial⟩) B1⟩, ⟨PySem.W.mg_of X G hC1, ⟨mk1, a7, i7, kC1⟩, ds_none rfl B7⟩, ⟨PySem.W.mg_of X G hC2, ⟨mk2, in2, i1, kC2⟩, ds_some (AllQ.mem (P := fun p : Nat × List Val => p.1 = 1 → DefsOk K (PySem.W.fnOf "__init__" "Frame.__init__" (defArgs s1) (defBody s1) (defScope s1) (.ref t1) kV1 dc1 pm1 an1 cd1 ct1) P1 p.2) (l := Z.dss) ⟨fun _ => d1_0, trivial⟩) B1⟩, ⟨PySem.W.mg_of X G hC3, ⟨mk3, a11, i11, kC3⟩, ds_none rfl B11⟩, ⟨PySem.W.mg_of X G hC4, ⟨mk4, a14, i14, kC4⟩, ds_none rfl B14⟩, ⟨PySem.W.mg_of X G hC5, ⟨mk5, a20, i20, kC5⟩, ds_none rfl B20⟩, ⟨PySem.W.mg_of X G hC6, ⟨mk6, a23, i23, kC6⟩, ds_none rfl B23⟩, ⟨PySem.W.mg_of X G hC7, ⟨mk7, a26, i26, kC7⟩, ds_none rfl B26⟩, trivial⟩
    exact fun x c f hx => A.get x (c, f) hx
  case cst =>
    exact AllP.get ⟨⟨q0, PySem.W.mg_of X G cs0, fun H => sqt_of cl0 (by show 4 ≤ sizeLine; decide) (.cons ⟨_, rfl⟩ (.cons ⟨_, rfl⟩ (.cons ⟨_, rfl⟩ (.cons ⟨_, rfl⟩ .nil))))⟩, trivial⟩
  case gc =>
    intro x v hx; cases hx
  case cfn =>
    have A : AllP (fun (y : Str × Str) (f : Nat) => ∃ C, mg y.1 = some (.ref C) ∧ ClX.CRead K C (.type "type") ∧ ClX.CVal K C (.type "type") y.2 (.ref ((fun i => ([f0, f1, f2, f3, f4, f5, f6, f7, f8, f9, f10, f11, f12, f13, f14, f15, f16, f17, f18, f19, f20, f21, f22, f23, f24, f25, f26, f27, f28, f29, f30, f31, f32, f33, f34, f35, f36, f37, f38, f39, f40, f41, f42, f43, f44, f45, f46, f47, f48, f49, f50, f51, f52, f53, f54, f54, f56, f57, f58, f59, f60] : List Addr).getD i 0) f)) (.ref ((fun i => ([f0, f1, f2, f3, f4, f5, f6, f7, f8, f9, f10, f11, f12, f13, f14, f15, f16, f17, f18, f19, f20, f21, f22, f23, f24, f25, f26, f27, f28, f29, f30, f31, f32, f33, f34, f35, f36, f37, f38, f39, f40, f41, f42, f43, f44, f45, f46, f47, f48, f49, f50, f51, f52, f53, f54, f54, f56, f57, f58, f59, f60] : List Addr).getD i 0) f)) ∧ PySem.W.keepIn K (.ref ((fun i => ([f0, f1, f2, f3, f4, f5, f6, f7, f8, f9, f10, f11, f12, f13, f14, f15, f16, f17, f18, f19, f20, f21, f22, f23, f24, f25, f26, f27, f28, f29, f30, f31, f32, f33, f34, f35, f36, f37, f38, f39, f40, f41, f42, f43, f44, f45, f46, f47, f48, f49, f50, f51, f52, f53, f54, f54, f56, f57, f58, f59, f60] : List Addr).getD i 0) f)) = true ∧ ∀ ds, dsOk Z f ds = true → DefsOk K ((fun i => ([(PySem.W.fnOf "_wall" "_wall" (defArgs s0) (defBody s0) (defScope s0) .none kV0 dc0 pm0 an0 cd0 ct0), (PySem.W.fnOf "__init__" "Frame.__init__" (defArgs s1) (defBody s1) (defScope s1) (.ref t1) kV1 dc1 pm1 an1 cd1 ct1), (PySem.W.fnOf "next_row" "Frame.next_row" (defArgs s2) (defBody s2) (defScope s2) .none kV2 dc2 pm2 an2 cd2 ct2), (PySem.W.fnOf "hides" "Frame.hides" (defArgs s3) (defBody s3) (defScope s3) .none kV3 dc3 pm3 an3 cd3 ct3), (PySem.W.fnOf "over" "Frame.over" (defArgs s4) (defBody s4) (defScope s4) .none kV4 dc4 pm4 an4 cd4 ct4), (PySem.W.fnOf "meets" "Frame.meets" (defArgs s5) (defBody s5) (defScope s5) .none kV5 dc5 pm5 an5 cd5 ct5), (PySem.W.fnOf "behind" "Frame.behind" (defArgs s6) (defBody s6) (defScope s6) .none kV6 dc6 pm6 an6 cd6 ct6), (PySem.W.fnOf "__init__" "Rounds.__init__" (defArgs s7) (defBody s7) (defScope s7) .none kV7 dc7 pm7 an7 cd7 ct7), (PySem.W.fnOf "over" "Rounds.over" (defArgs s8) (defBody s8) (defScope s8) .none kV8 dc8 pm8 an8 cd8 ct8), (PySem.W.fnOf "behind" "Rounds.behind" (defArgs s9) (defBody s9) (defScope s9) .none kV9 dc9 pm9 an9 cd9 ct9), (PySem.W.fnOf "hides" "Kept.hides" (defArgs s10) (defBody s10) (defScope s10) .none kV10 dc10 pm10 an10 cd10 ct10), (PySem.W.fnOf "__init__" "Tried.__init__" (defArgs s11) (defBody s11) (defScope s11) .none kV11 dc11 pm11 an11 cd11 ct11), (PySem.W.fnOf "meets" "Tried.meets" (defArgs s12) (defBody s12) (defScope s12) .none kV12 dc12 pm12 an12 cd12 ct12), (PySem.W.fnOf "behind" "Tried.behind" (defArgs s13) (defBody s13) (defScope s13) .none kV13 dc13 pm13 an13 cd13 ct13), (PySem.W.fnOf "__init__" "Cleaned.__init__" (defArgs s14) (defBody s14) (defScope s14) .none kV14 dc14 pm14 an14 cd14 ct14), (PySem.W.fnOf "clean" "Cleaned.clean" (defArgs s15) (defBody s15) (defScope s15) .none kV15 dc15 pm15 an15 cd15 ct15), (PySem.W.fnOf "hides" "Cleaned.hides" (defArgs s16) (defBody s16) (defScope s16) .none kV16 dc16 pm16 an16 cd16 ct16), (PySem.W.fnOf "over" "Cleaned.over" (defArgs s17) (defBody s17) (defScope s17) .none kV17 dc17 pm17 an17 cd17 ct17), (PySem.W.fnOf "meets" "Cleaned.meets" (defArgs s18) (defBody s18) (defScope s18) .none kV18 dc18 pm18 an18 cd18 ct18), (PySem.W.fnOf "behind" "Cleaned.behind" (defArgs s19) (defBody s19) (defScope s19) .none kV19 dc19 pm19 an19 cd19 ct19), (PySem.W.fnOf "__init__" "Limited.__init__" (defArgs s20) (defBody s20) (defScope s20) .none kV20 dc20 pm20 an20 cd20 ct20), (PySem.W.fnOf "meets" "Limited.meets" (defArgs s21) (defBody s21) (defScope s21) .none kV21 dc21 pm21 an21 cd21 ct21), (PySem.W.fnOf "behind" "Limited.behind" (defArgs s22) (defBody s22) (defScope s22) .none kV22 dc22 pm22 an22 cd22 ct22), (PySem.W.fnOf "__init__" "Grouped.__init__" (defArgs s23) (defBody s23) (defScope s23) .none kV23 dc23 pm23 an23 cd23 ct23), (PySem.W.fnOf "over" "Grouped.over" (defArgs s24) (defBody s24) (defScope s24) .none kV24 dc24 pm24 an24 cd24 ct24), (PySem.W.fnOf "meets" "Grouped.meets" (defArgs s25) (defBody s25) (defScope s25) .none kV25 dc25 pm25 an25 cd25 ct25), (PySem.W.fnOf "__init__" "Machine.__init__" (defArgs s26) (defBody s26) (defScope s26) .none kV26 dc26 pm26 an26 cd26 ct26), (PySem.W.fnOf "value_of" "Machine.value_of" (defArgs s27) (defBody s27) (defScope s27) .none kV27 dc27 pm27 an27 cd27 ct27), (PySem.W.fnOf "mark" "Machine.mark" (defArgs s28) (defBody s28) (defScope s28) .none kV28 dc28 pm28 an28 cd28 ct28), (PySem.W.fnOf "is_marked" "Machine.is_marked" (defArgs s29) (defBody s29) (defScope s29) .none kV29 dc29 pm29 an29 cd29 ct29), (PySem.W.fnOf "target" "Machine.target" (defArgs s30) (defBody s30) (defScope s30) .none kV30 dc30 pm30 an30 cd30 ct30), (PySem.W.fnOf "scopes" "Machine.scopes" (defArgs s31) (defBody s31) (defScope s31) .none kV31 dc31 pm31 an31 cd31 ct31), (PySem.W.fnOf "waiting" "Machine.waiting" (defArgs s32) (defBody s32) (defScope s32) .none kV32 dc32 pm32 an32 cd32 ct32), (PySem.W.fnOf "strikable" "Machine.strikable" (defArgs s33) (defBody s33) (defScope s33) .none kV33 dc33 pm33 an33 cd33 ct33), (PySem.W.fnOf "outcome" "Machine.outcome" (defArgs s34) (defBody s34) (defScope s34) .none kV34 dc34 pm34 an34 cd34 ct34), (PySem.W.fnOf "strike" "Machine.strike" (defArgs s35) (defBody s35) (defScope s35) .none kV35 dc35 pm35 an35 cd35 ct35), (PySem.W.fnOf "go" "Machine.go" (defArgs s36) (defBody s36) (defScope s36) (.ref t36) kV36 dc36 pm36 an36 cd36 ct36), (PySem.W.fnOf "raised" "Machine.raised" (defArgs s37) (defBody s37) (defScope s37) .none kV37 dc37 pm37 an37 cd37 ct37), (PySem.W.fnOf "joined" "Machine.joined" (defArgs s38) (defBody s38) (defScope s38) .none kV38 dc38 pm38 an38 cd38 ct38), (PySem.W.fnOf "step" "Machine.step" (defArgs s39) (defBody s39) (defScope s39) .none kV39 dc39 pm39 an39 cd39 ct39), (PySem.W.fnOf "drop" "Machine.drop" (defArgs s40) (defBody s40) (defScope s40) .none kV40 dc40 pm40 an40 cd40 ct40), (PySem.W.fnOf "ended" "Machine.ended" (defArgs s41) (defBody s41) (defScope s41) .none kV41 dc41 pm41 an41 cd41 ct41), (PySem.W.fnOf "go_on" "Machine.go_on" (defArgs s42) (defBody s42) (defScope s42) .none kV42 dc42 pm42 an42 cd42 ct42), (PySem.W.fnOf "leave" "Machine.leave" (defArgs s43) (defBody s43) (defScope s43) .none kV43 dc43 pm43 an43 cd43 ct43), (PySem.W.fnOf "go_out" "Machine.go_out" (defArgs s44) (defBody s44) (defScope s44) .none kV44 dc44 pm44 an44 cd44 ct44), (PySem.W.fnOf "waits" "Machine.waits" (defArgs s45) (defBody s45) (defScope s45) .none kV45 dc45 pm45 an45 cd45 ct45), (PySem.W.fnOf "done" "Machine.done" (defArgs s46) (defBody s46) (defScope s46) .none kV46 dc46 pm46 an46 cd46 ct46), (PySem.W.fnOf "group_of" "Machine.group_of" (defArgs s47) (defBody s47) (defScope s47) .none kV47 dc47 pm47 an47 cd47 ct47), (PySem.W.fnOf "entered" "Machine.entered" (defArgs s48) (defBody s48) (defScope s48) .none kV48 dc48 pm48 an48 cd48 ct48), (PySem.W.fnOf "might" "Machine.might" (defArgs s49) (defBody s49) (defScope s49) .none kV49 dc49 pm49 an49 cd49 ct49), (PySem.W.fnOf "_law_cell_at" "_law_cell_at" (defArgs s50) (defBody s50) (defScope s50) .none kV50 dc50 pm50 an50 cd50 ct50), (PySem.W.fnOf "_law_mixed" "_law_mixed" (defArgs s51) (defBody s51) (defScope s51) .none kV51 dc51 pm51 an51 cd51 ct51), (PySem.W.fnOf "_law_chain" "_law_chain" (defArgs s52) (defBody s52) (defScope s52) .none kV52 dc52 pm52 an52 cd52 ct52), (PySem.W.fnOf "_law_nested" "_law_nested" (defArgs s53) (defBody s53) (defScope s53) .none kV53 dc53 pm53 an53 cd53 ct53), (PySem.W.fnOf "_law_scopes" "_law_scopes" (defArgs s54) (defBody s54) (defScope s54) .none kV54 dc54 pm54 an54 cd54 ct54), (PySem.W.fnOf "_law_scopes" "_law_scopes" (defArgs s54) (defBody s54) (defScope s54) .none kV54 dc54 pm54 an54 cd54 ct54), (PySem.W.fnOf "_law_entered" "_law_entered" (defArgs s56) (defBody s56) (defScope s56) .none kV56 dc56 pm56 an56 cd56 ct56), (PySem.W.fnOf "_law_halted" "_law_halted" (defArgs s57) (defBody s57) (defScope s57) .none kV57 dc57 pm57 an57 cd57 ct57), (PySem.W.fnOf "_law_out" "_law_out" (defArgs s58) (defBody s58) (defScope s58) .none kV58 dc58 pm58 an58 cd58 ct58), (PySem.W.fnOf "_law_right" "_law_right" (defArgs s59) (defBody s59) (defScope s59) .none kV59 dc59 pm59 an59 cd59 ct59), (PySem.W.fnOf "law" "law" (defArgs s60) (defBody s60) (defScope s60) .none kV60 dc60 pm60 an60 cd60 ct60)] : List FuncData).getD i (PySem.W.fnOf "_wall" "_wall" (defArgs s0) (defBody s0) (defScope s0) .none kV0 dc0 pm0 an0 cd0 ct0)) f) ((fun i => ([P0, P1, P2, P3, P4, P5, P6, P7, P8, P9, P10, P11, P12, P13, P14, P15, P16, P17, P18, P19, P20, P21, P22, P23, P24, P25, P26, P27, P28, P29, P30, P31, P32, P33, P34, P35, P36, P37, P38, P39, P40, P41, P42, P43, P44, P45, P46, P47, P48, P49, P50, P51, P52, P53, P54, P54, P56, P57, P58, P59, P60] : List (List Str)).getD i []) f) ds) Z.cfn := ⟨⟨C0, PySem.W.mg_of X G hC0, ⟨rd0, ga0⟩, ⟨cv0x40, rfl⟩, k1, ds_some (AllQ.mem (P := fun p : Nat × List Val => p.1 = 1 → DefsOk K (PySem.W.fnOf "__init__" "Frame.__init__" (defArgs s1) (defBody s1) (defScope s1) (.ref t1) kV1 dc1 pm1 an1 cd1 ct1) P1 p.2) (l := Z.dss) ⟨fun _ => d1_0, trivial⟩) B1⟩, ⟨C0, PySem.W.mg_of X G hC0, ⟨rd0, ga0⟩, ⟨cv0x41, rfl⟩, k6, ds_none rfl B6⟩, trivial⟩
    exact fun x m f hx => A.get (x, m) f hx
  case mts =>
    have A : AllP (fun (p : Nat × Nat) (q : Nat × List Val) => Cls K ((fun i => ([C0, C1, C2, C3, C4, C5, C6, C7] : List Addr).getD i 0) p.1) ∧ Meth K ((fun i => ([C0, C1, C2, C3, C4, C5, C6, C7] : List Addr).getD i 0) p.1) (NM.getD p.2 Str.empty) ((fun i => ([f0, f1, f2, f3, f4, f5, f6, f7, f8, f9, f10, f11, f12, f13, f14, f15, f16, f17, f18, f19, f20, f21, f22, f23, f24, f25, f26, f27, f28, f29, f30, f31, f32, f33, f34, f35, f36, f37, f38, f39, f40, f41, f42, f43, f44, f45, f46, f47, f48, f49, f50, f51, f52, f53, f54, f54, f56, f57, f58, f59, f60] : List Addr).getD i 0) q.1) ∧ ∀ n, DefsOk K ((fun i => ([(PySem.W.fnOf "_wall" "_wall" (defArgs s0) (defBody s0) (defScope s0) .none kV0 dc0 pm0 an0 cd0 ct0), (PySem.W.fnOf "__init__" "Frame.__init__" (defArgs s1) (defBody s1) (defScope s1) (.ref t1) kV1 dc1 pm1 an1 cd1 ct1), (PySem.W.fnOf "next_row" "Frame.next_row" (defArgs s2) (defBody s2) (defScope s2) .none kV2 dc2 pm2 an2 cd2 ct2), (PySem.W.fnOf "hides" "Frame.hides" (defArgs s3) (defBody s3) (defScope s3) .none kV3 dc3 pm3 an3 cd3 ct3), (PySem.W.fnOf "over" "Frame.over" (defArgs s4) (defBody s4) (defScope s4) .none kV4 dc4 pm4 an4 cd4 ct4), (PySem.W.fnOf "meets" "Frame.meets" (defArgs s5) (defBody s5) (defScope s5) .none kV5 dc5 pm5 an5 cd5 ct5), (PySem.W.fnOf "behind" "Frame.behind" (defArgs s6) (defBody s6) (defScope s6) .none kV6 dc6 pm6 an6 cd6 ct6), (PySem.W.fnOf "__init__" "Rounds.__init__" (defArgs s7) (defBody s7) (defScope s7) .none kV7 dc7 pm7 an7 cd7 ct7), (PySem.W.fnOf "over" "Rounds.over" (defArgs s8) (defBody s8) (defScope s8) .none kV8 dc8 pm8 an8 cd8 ct8), (PySem.W.fnOf "behind" "Rounds.behind" (defArgs s9) (defBody s9) (defScope s9) .none kV9 dc9 pm9 an9 cd9 ct9), (PySem.W.fnOf "hides" "Kept.hides" (defArgs s10) (defBody s10) (defScope s10) .none kV10 dc10 pm10 an10 cd10 ct10), (PySem.W.fnOf "__init__" "Tried.__init__" (defArgs s11) (defBody s11) (defScope s11) .none kV11 dc11 pm11 an11 cd11 ct11), (PySem.W.fnOf "meets" "Tried.meets" (defArgs s12) (defBody s12) (defScope s12) .none kV12 dc12 pm12 an12 cd12 ct12), (PySem.W.fnOf "behind" "Tried.behind" (defArgs s13) (defBody s13) (defScope s13) .none kV13 dc13 pm13 an13 cd13 ct13), (PySem.W.fnOf "__init__" "Cleaned.__init__" (defArgs s14) (defBody s14) (defScope s14) .none kV14 dc14 pm14 an14 cd14 ct14), (PySem.W.fnOf "clean" "Cleaned.clean" (defArgs s15) (defBody s15) (defScope s15) .none kV15 dc15 pm15 an15 cd15 ct15), (PySem.W.fnOf "hides" "Cleaned.hides" (defArgs s16) (defBody s16) (defScope s16) .none kV16 dc16 pm16 an16 cd16 ct16), (PySem.W.fnOf "over" "Cleaned.over" (defArgs s17) (defBody s17) (defScope s17) .none kV17 dc17 pm17 an17 cd17 ct17), (PySem.W.fnOf "meets" "Cleaned.meets" (defArgs s18) (defBody s18) (defScope s18) .none kV18 dc18 pm18 an18 cd18 ct18), (PySem.W.fnOf "behind" "Cleaned.behind" (defArgs s19) (defBody s19) (defScope s19) .none kV19 dc19 pm19 an19 cd19 ct19), (PySem.W.fnOf "__init__" "Limited.__init__" (defArgs s20) (defBody s20) (defScope s20) .none kV20 dc20 pm20 an20 cd20 ct20), (PySem.W.fnOf "meets" "Limited.meets" (defArgs s21) (defBody s21) (defScope s21) .none kV21 dc21 pm21 an21 cd21 ct21), (PySem.W.fnOf "behind" "Limited.behind" (defArgs s22) (defBody s22) (defScope s22) .none kV22 dc22 pm22 an22 cd22 ct22), (PySem.W.fnOf "__init__" "Grouped.__init__" (defArgs s23) (defBody s23) (defScope s23) .none kV23 dc23 pm23 an23 cd23 ct23), (PySem.W.fnOf "over" "Grouped.over" (defArgs s24) (defBody s24) (defScope s24) .none kV24 dc24 pm24 an24 cd24 ct24), (PySem.W.fnOf "meets" "Grouped.meets" (defArgs s25) (defBody s25) (defScope s25) .none kV25 dc25 pm25 an25 cd25 ct25), (PySem.W.fnOf "__init__" "Machine.__init__" (defArgs s26) (defBody s26) (defScope s26) .none kV26 dc26 pm26 an26 cd26 ct26), (PySem.W.fnOf "value_of" "Machine.value_of" (defArgs s27) (defBody s27) (defScope s27) .none kV27 dc27 pm27 an27 cd27 ct27), (PySem.W.fnOf "mark" "Machine.mark" (defArgs s28) (defBody s28) (defScope s28) .none kV28 dc28 pm28 an28 cd28 ct28), (PySem.W.fnOf "is_marked" "Machine.is_marked" (defArgs s29) (defBody s29) (defScope s29) .none kV29 dc29 pm29 an29 cd29 ct29), (PySem.W.fnOf "target" "Machine.target" (defArgs s30) (defBody s30) (defScope s30) .none kV30 dc30 pm30 an30 cd30 ct30), (PySem.W.fnOf "scopes" "Machine.scopes" (defArgs s31) (defBody s31) (defScope s31) .none kV31 dc31 pm31 an31 cd31 ct31), (PySem.W.fnOf "waiting" "Machine.waiting" (defArgs s32) (defBody s32) (defScope s32) .none kV32 dc32 pm32 an32 cd32 ct32), (PySem.W.fnOf "strikable" "Machine.strikable" (defArgs s33) (defBody s33) (defScope s33) .none kV33 dc33 pm33 an33 cd33 ct33), (PySem.W.fnOf "outcome" "Machine.outcome" (defArgs s34) (defBody s34) (defScope s34) .none kV34 dc34 pm34 an34 cd34 ct34), (PySem.W.fnOf "strike" "Machine.strike" (defArgs s35) (defBody s35) (defScope s35) .none kV35 dc35 pm35 an35 cd35 ct35), (PySem.W.fnOf "go" "Machine.go" (defArgs s36) (defBody s36) (defScope s36) (.ref t36) kV36 dc36 pm36 an36 cd36 ct36), (PySem.W.fnOf "raised" "Machine.raised" (defArgs s37) (defBody s37) (defScope s37) .none kV37 dc37 pm37 an37 cd37 ct37), (PySem.W.fnOf "joined" "Machine.joined" (defArgs s38) (defBody s38) (defScope s38) .none kV38 dc38 pm38 an38 cd38 ct38), (PySem.W.fnOf "step" "Machine.step" (defArgs s39) (defBody s39) (defScope s39) .none kV39 dc39 pm39 an39 cd39 ct39), (PySem.W.fnOf "drop" "Machine.drop" (defArgs s40) (defBody s40) (defScope s40) .none kV40 dc40 pm40 an40 cd40 ct40), (PySem.W.fnOf "ended" "Machine.ended" (defArgs s41) (defBody s41) (defScope s41) .none kV41 dc41 pm41 an41 cd41 ct41), (PySem.W.fnOf "go_on" "Machine.go_on" (defArgs s42) (defBody s42) (defScope s42) .none kV42 dc42 pm42 an42 cd42 ct42), (PySem.W.fnOf "leave" "Machine.leave" (defArgs s43) (defBody s43) (defScope s43) .none kV43 dc43 pm43 an43 cd43 ct43), (PySem.W.fnOf "go_out" "Machine.go_out" (defArgs s44) (defBody s44) (defScope s44) .none kV44 dc44 pm44 an44 cd44 ct44), (PySem.W.fnOf "waits" "Machine.waits" (defArgs s45) (defBody s45) (defScope s45) .none kV45 dc45 pm45 an45 cd45 ct45), (PySem.W.fnOf "done" "Machine.done" (defArgs s46) (defBody s46) (defScope s46) .none kV46 dc46 pm46 an46 cd46 ct46), (PySem.W.fnOf "group_of" "Machine.group_of" (defArgs s47) (defBody s47) (defScope s47) .none kV47 dc47 pm47 an47 cd47 ct47), (PySem.W.fnOf "entered" "Machine.entered" (defArgs s48) (defBody s48) (defScope s48) .none kV48 dc48 pm48 an48 cd48 ct48), (PySem.W.fnOf "might" "Machine.might" (defArgs s49) (defBody s49) (defScope s49) .none kV49 dc49 pm49 an49 cd49 ct49), (PySem.W.fnOf "_law_cell_at" "_law_cell_at" (defArgs s50) (defBody s50) (defScope s50) .none kV50 dc50 pm50 an50 cd50 ct50), (PySem.W.fnOf "_law_mixed" "_law_mixed" (defArgs s51) (defBody s51) (defScope s51) .none kV51 dc51 pm51 an51 cd51 ct51), (PySem.W.fnOf "_law_chain" "_law_chain" (defArgs s52) (defBody s52) (defScope s52) .none kV52 dc52 pm52 an52 cd52 ct52), (PySem.W.fnOf "_law_nested" "_law_nested" (defArgs s53) (defBody s53) (defScope s53) .none kV53 dc53 pm53 an53 cd53 ct53), (PySem.W.fnOf "_law_scopes" "_law_scopes" (defArgs s54) (defBody s54) (defScope s54) .none kV54 dc54 pm54 an54 cd54 ct54), (PySem.W.fnOf "_law_scopes" "_law_scopes" (defArgs s54) (defBody s54) (defScope s54) .none kV54 dc54 pm54 an54 cd54 ct54), (PySem.W.fnOf "_law_entered" "_law_entered" (defArgs s56) (defBody s56) (defScope s56) .none kV56 dc56 pm56 an56 cd56 ct56), (PySem.W.fnOf "_law_halted" "_law_halted" (defArgs s57) (defBody s57) (defScope s57) .none kV57 dc57 pm57 an57 cd57 ct57), (PySem.W.fnOf "_law_out" "_law_out" (defArgs s58) (defBody s58) (defScope s58) .none kV58 dc58 pm58 an58 cd58 ct58), (PySem.W.fnOf "_law_right" "_law_right" (defArgs s59) (defBody s59) (defScope s59) .none kV59 dc59 pm59 an59 cd59 ct59), (PySem.W.fnOf "law" "law" (defArgs s60) (defBody s60) (defScope s60) .none kV60 dc60 pm60 an60 cd60 ct60)] : List FuncData).getD i (PySem.W.fnOf "_wall" "_wall" (defArgs s0) (defBody s0) (defScope s0) .none kV0 dc0 pm0 an0 cd0 ct0)) q.1) ((fun i => ([P0, P1, P2, P3, P4, P5, P6, P7, P8, P9, P10, P11, P12, P13, P14, P15, P16, P17, P18, P19, P20, P21, P22, P23, P24, P25, P26, P27, P28, P29, P30, P31, P32, P33, P34, P35, P36, P37, P38, P39, P40, P41, P42, P43, P44, P45, P46, P47, P48, P49, P50, P51, P52, P53, P54, P54, P56, P57, P58, P59, P60] : List (List Str)).getD i []) q.1) (q.2.drop n)) mtT := ⟨⟨⟨pg4, hd4, po4, sa4⟩, ⟨a15, i15, k15⟩, fun n => defs_nil B15 n⟩, ⟨⟨pg7, hd7, po7, sa7⟩, ⟨a46, i46, k46⟩, fun n => defs_nil B46 n⟩, ⟨⟨pg7, hd7, po7, sa7⟩, ⟨a40, i40, k40⟩, fun n => defs_nil B40 n⟩, ⟨⟨pg7, hd7, po7, sa7⟩, ⟨a41, i41, k41⟩, fun n => defs_nil B41 n⟩, ⟨⟨pg7, hd7, po7, sa7⟩, ⟨a48, i48, k48⟩, fun n => defs_nil B48 n⟩, ⟨⟨pg7, hd7, po7, sa7⟩, ⟨a42, i42, k42⟩, fun n => defs_nil B42 n⟩, ⟨⟨pg7, hd7, po7, sa7⟩, ⟨a44, i44, k44⟩, fun n => defs_nil B44 n⟩, ⟨⟨pg7, hd7, po7, sa7⟩, ⟨a47, i47, k47⟩, fun n => defs_nil B47 n⟩, ⟨⟨pg0, hd0, po0, sa0⟩, ⟨a3, i3, k3⟩, fun n => defs_nil B3 n⟩, ⟨⟨pg1, hd1, po1, sa1⟩, ⟨m1x20, i3, k3⟩, fun n => defs_nil B3 n⟩, ⟨⟨pg2, hd2, po2, sa2⟩, ⟨a10, i10, k10⟩, fun n => defs_nil B10 n⟩, ⟨⟨pg3, hd3, po3, sa3⟩, ⟨m3x20, i3, k3⟩, fun n => defs_nil B3 n⟩, ⟨⟨pg4, hd4, po4, sa4⟩, ⟨a16, i16, k16⟩, fun n => defs_nil B16 n⟩, ⟨⟨pg5, hd5, po5, sa5⟩, ⟨m5x20, i3, k3⟩, fun n => defs_nil B3 n⟩, ⟨⟨pg6, hd6, po6, sa6⟩, ⟨m6x20, i3, k3⟩, fun n => defs_nil B3 n⟩, ⟨⟨pg7, hd7, po7, sa7⟩, ⟨a38, i38, k38⟩, fun n => defs_nil B38 n⟩, ⟨⟨pg7, hd7, po7, sa7⟩, ⟨a43, i43, k43⟩, fun n => defs_nil B43 n⟩, ⟨⟨pg0, hd0, po0, sa0⟩, ⟨a5, i5, k5⟩, fun n => defs_nil B5 n⟩, ⟨⟨pg1, hd1, po1, sa1⟩, ⟨m1x32, i5, k5⟩, fun n => defs_nil B5 n⟩, ⟨⟨pg2, hd2, po2, sa2⟩, ⟨m2x32, i5, k5⟩, fun n => defs_nil B5 n⟩, ⟨⟨pg3, hd3, po3, sa3⟩, ⟨a12, i12, k12⟩, fun n => defs_nil B12 n⟩, ⟨⟨pg4, hd4, po4, sa4⟩, ⟨a18, i18, k18⟩, fun n => defs_nil B18 n⟩, ⟨⟨pg5, hd5, po5, sa5⟩, ⟨a21, i21, k21⟩, fun n => defs_nil B21 n⟩, ⟨⟨pg6, hd6, po6, sa6⟩, ⟨a25, i25, k25⟩, fun n => defs_nil B25 n⟩, ⟨⟨pg0, hd0, po0, sa0⟩, ⟨a2, i2, k2⟩, fun n => defs_nil B2 n⟩, ⟨⟨pg1, hd1, po1, sa1⟩, ⟨m1x24, i2, k2⟩, fun n => defs_nil B2 n⟩, ⟨⟨pg2, hd2, po2, sa2⟩, ⟨m2x24, i2, k2⟩, fun n => defs_nil B2 n⟩, ⟨⟨pg3, hd3, po3, sa3⟩, ⟨m3x24, i2, k2⟩, fun n => defs_nil B2 n⟩, ⟨⟨pg4, hd4, po4, sa4⟩, ⟨m4x24, i2, k2⟩, fun n => defs_nil B2 n⟩, ⟨⟨pg5, hd5, po5, sa5⟩, ⟨m5x24, i2, k2⟩, fun n => defs_nil B2 n⟩, ⟨⟨pg6, hd6, po6, sa6⟩, ⟨m6x24, i2, k2⟩, fun n => defs_nil B2 n⟩, ⟨⟨pg7, hd7, po7, sa7⟩, ⟨a34, i34, k34⟩, fun n => defs_nil B34 n⟩, ⟨⟨pg0, hd0, po0, sa0⟩, ⟨a4, i4, k4⟩, fun n => defs_nil B4 n⟩, ⟨⟨pg1, hd1, po1, sa1⟩, ⟨a8, i8, k8⟩, fun n => defs_nil B8 n⟩, ⟨⟨pg2, hd2, po2, sa2⟩, ⟨m2x26, i4, k4⟩, fun n => defs_nil B4 n⟩, ⟨⟨pg3, hd3, po3, sa3⟩, ⟨m3x26, i4, k4⟩, fun n => defs_nil B4 n⟩, ⟨⟨pg4, hd4, po4, sa4⟩, ⟨a17, i17, k17⟩, fun n => defs_nil B17 n⟩, ⟨⟨pg5, hd5, po5, sa5⟩, ⟨m5x26, i4, k4⟩, fun n => defs_nil B4 n⟩, ⟨⟨pg6, hd6, po6, sa6⟩, ⟨a24, i24, k24⟩, fun n => defs_nil B24 n⟩, ⟨⟨pg7, hd7, po7, sa7⟩, ⟨a39, i39, k39⟩, fun n => defs_nil B39 n⟩, ⟨⟨pg7, hd7, po7, sa7⟩, ⟨a30, i30, k30⟩, fun n => defs_nil B30 n⟩, ⟨⟨pg7, hd7, po7, sa7⟩, ⟨a27, i27, k27⟩, fun n => defs_nil B27 n⟩, ⟨⟨pg7, hd7, po7, sa7⟩, ⟨a32, i32, k32⟩, fun n => defs_nil B32 n⟩, ⟨⟨pg7, hd7, po7, sa7⟩, ⟨a45, i45, k45⟩, fun n => defs_nil B45 n⟩, trivial⟩
    exact fun m n c fds _ hm => let ⟨r1, r2, r3⟩ := A.get (c, m) fds hm; ⟨r1, r2, r3 n⟩
  case exs =>
    intro x c hx; cases hx
  case exr =>
    intro c hc; exact Bool.noConfusion hc
  case cat =>
    intro j c b hb; cases hb
  case isi =>
    have A : AllP (fun (p : Nat × Nat) (b : Bool) => InsI K ((fun i => ([C0, C1, C2, C3, C4, C5, C6, C7] : List Addr).getD i 0) p.2) ∧ PySem.W.kitOne K (.ref ((fun i => ([C0, C1, C2, C3, C4, C5, C6, C7] : List Addr).getD i 0) p.2)) (.ref ((fun i => ([C0, C1, C2, C3, C4, C5, C6, C7] : List Addr).getD i 0) p.1)) = some b) isT := ⟨⟨⟨⟨pg0, hd0, po0, sa0⟩, hcl0, hgt, htk, hmr0⟩, kit_gen ne4x0 ci4 cy4 su4x0⟩, ⟨⟨⟨pg1, hd1, po1, sa1⟩, hcl1, hgt, htk, hmr1⟩, kit_gen ne4x1 ci4 cy4 su4x1⟩, ⟨⟨⟨pg2, hd2, po2, sa2⟩, hcl2, hgt, htk, hmr2⟩, kit_gen ne4x2 ci4 cy4 su4x2⟩, ⟨⟨⟨pg3, hd3, po3, sa3⟩, hcl3, hgt, htk, hmr3⟩, kit_gen ne4x3 ci4 cy4 su4x3⟩, ⟨⟨⟨pg4, hd4, po4, sa4⟩, hcl4, hgt, htk, hmr4⟩, kit_self⟩, ⟨⟨⟨pg5, hd5, po5, sa5⟩, hcl5, hgt, htk, hmr5⟩, kit_gen ne4x5 ci4 cy4 su4x5⟩, ⟨⟨⟨pg6, hd6, po6, sa6⟩, hcl6, hgt, htk, hmr6⟩, kit_gen ne4x6 ci4 cy4 su4x6⟩, ⟨⟨⟨pg7, hd7, po7, sa7⟩, hcl7, hgt, htk, hmr7⟩, kit_gen ne4x7 ci4 cy4 su4x7⟩, ⟨⟨⟨pg0, hd0, po0, sa0⟩, hcl0, hgt, htk, hmr0⟩, kit_gen ne6x0 ci6 cy6 su6x0⟩, ⟨⟨⟨pg1, hd1, po1, sa1⟩, hcl1, hgt, htk, hmr1⟩, kit_gen ne6x1 ci6 cy6 su6x1⟩, ⟨⟨⟨pg2, hd2, po2, sa2⟩, hcl2, hgt, htk, hmr2⟩, kit_gen ne6x2 ci6 cy6 su6x2⟩, ⟨⟨⟨pg3, hd3, po3, sa3⟩, hcl3, hgt, htk, hmr3⟩, kit_gen ne6x3 ci6 cy6 su6x3⟩, ⟨⟨⟨pg4, hd4, po4, sa4⟩, hcl4, hgt, htk, hmr4⟩, kit_gen ne6x4 ci6 cy6 su6x4⟩, ⟨⟨⟨pg5, hd5, po5, sa5⟩, hcl5, hgt, htk, hmr5⟩, kit_gen ne6x5 ci6 cy6 su6x5⟩, ⟨⟨⟨pg6, hd6, po6, sa6⟩, hcl6, hgt, htk, hmr6⟩, kit_self⟩, ⟨⟨⟨pg7, hd7, po7, sa7⟩, hcl7, hgt, htk, hmr7⟩, kit_gen ne6x7 ci6 cy6 su6x7⟩, trivial⟩
    have B : AllP (fun (y : Str) (j : Nat) => mg y = some (.ref ((fun i => ([C0, C1, C2, C3, C4, C5, C6, C7] : List Addr).getD i 0) j))) Z.isc := ⟨PySem.W.mg_of X G hC4, PySem.W.mg_of X G hC6, trivial⟩
    exact fun y j hy => ⟨B.get y j hy, fun c b hb => A.get (j, c) b hb⟩
end Nw.k54

open PySem PySem.W PyProof.Rows
set_option maxHeartbeats 0 in
theorem PySem.Challenge.cw_nightwatch_k54_faults_go_out_holds : PySem.Challenge.rw_nightwatch_k54_faults_go_out.Holds := by
  w_on; o_law; k_head; (case hw => w_witness2)
  k_fill
  refine Nw.law_walk (l := PySem.Challenge.rw_nightwatch_k54_faults_go_out) (D := Nw.k54.D) (T := Nw.k54.T) (Z := Nw.k54.Z) (iL := 60) (x := "_law_script") 11 ⟨rfl, by decide, by decide⟩ rfl rfl Nw.k54.plain (fun w h Y => PySem.W.kIn_of Y) ?F
  case F =>
    intro w mg fa h KX G hmg
    refine' Nw.k54.facts KX G hmg ?hC0 ?hC1 ?hC2 ?hC3 ?hC4 ?hC5 ?hC6 ?hC7 ?pg0 ?hd0 ?po0 ?sa0 ?mk0 ?kC0 ?pg1 ?hd1 ?po1 ?sa1 ?mk1 ?kC1 ?pg2 ?hd2 ?po2 ?sa2 ?mk2 ?kC2 ?pg3 ?hd3 ?po3 ?sa3 ?mk3 ?kC3 ?pg4 ?hd4 ?po4 ?sa4 ?mk4 ?kC4 ?pg5 ?hd5 ?po5 ?sa5 ?mk5 ?kC5 ?pg6 ?hd6 ?po6 ?sa6 ?mk6 ?kC6 ?pg7 ?hd7 ?po7 ?sa7 ?mk7 ?kC7 ?a0 ?l0 ?c0 ?k0 ?a1 ?i1 ?l1 ?t1l ?c1 ?k1 ?a2 ?i2 ?l2 ?c2 ?k2 ?a3 ?i3 ?l3 ?c3 ?k3 ?a4 ?i4 ?l4 ?c4 ?k4 ?a5 ?i5 ?l5 ?c5 ?k5 ?a6 ?i6 ?l6 ?c6 ?k6 ?a7 ?i7 ?l7 ?c7 ?k7 ?a8 ?i8 ?l8 ?c8 ?k8 ?a9 ?i9 ?l9 ?c9 ?k9 ?a10 ?i10 ?l10 ?c10 ?k10 ?a11 ?i11 ?l11 ?c11 ?k11 ?a12 ?i12 ?l12 ?c12 ?k12 ?a13 ?i13 ?l13 ?c13 ?k13 ?a14 ?i14 ?l14 ?c14 ?k14 ?a15 ?i15 ?l15 ?c15 ?k15 ?a16 ?i16 ?l16 ?c16 ?k16 ?a17 ?i17 ?l17 ?c17 ?k17 ?a18 ?i18 ?l18 ?c18 ?k18 ?a19 ?i19 ?l19 ?c19 ?k19 ?a20 ?i20 ?l20 ?c20 ?k20 ?a21 ?i21 ?l21 ?c21 ?k21 ?a22 ?i22 ?l22 ?c22 ?k22 ?a23 ?i23 ?l23 ?c23 ?k23 ?a24 ?i24 ?l24 ?c24 ?k24 ?a25 ?i25 ?l25 ?c25 ?k25 ?a26 ?i26 ?l26 ?c26 ?k26 ?a27 ?i27 ?l27 ?c27 ?k27 ?a28 ?i28 ?l28 ?c28 ?k28 ?a29 ?i29 ?l29 ?c29 ?k29 ?a30 ?i30 ?l30 ?c30 ?k30 ?a31 ?i31 ?l31 ?c31 ?k31 ?a32 ?i32 ?l32 ?c32 ?k32 ?a33 ?i33 ?l33 ?c33 ?k33 ?a34 ?i34 ?l34 ?c34 ?k34 ?a35 ?i35 ?l35 ?c35 ?k35 ?a36 ?i36 ?l36 ?t36l ?c36 ?k36 ?a37 ?i37 ?l37 ?c37 ?k37 ?a38 ?i38 ?l38 ?c38 ?k38 ?a39 ?i39 ?l39 ?c39 ?k39 ?a40 ?i40 ?l40 ?c40 ?k40 ?a41 ?i41 ?l41 ?c41 ?k41 ?a42 ?i42 ?l42 ?c42 ?k42 ?a43 ?i43 ?l43 ?c43 ?k43 ?a44 ?i44 ?l44 ?c44 ?k44 ?a45 ?i45 ?l45 ?c45 ?k45 ?a46 ?i46 ?l46 ?c46 ?k46 ?a47 ?i47 ?l47 ?c47 ?k47 ?a48 ?i48 ?l48 ?c48 ?k48 ?a49 ?i49 ?l49 ?c49 ?k49 ?a50 ?l50 ?c50 ?k50 ?a51 ?l51 ?c51 ?k51 ?a52 ?l52 ?c52 ?k52 ?a53 ?l53 ?c53 ?k53 ?a54 ?l54 ?c54 ?k54 ?a56 ?l56 ?c56 ?k56 ?a57 ?l57 ?c57 ?k57 ?a58 ?l58 ?c58 ?k58 ?a59 ?l59 ?c59 ?k59 ?a60 ?l60 ?c60 ?k60 ?rd0 ?ga0 ?cv0x40 ?cv0x41 ?n0x1 ?n0x3 ?n0x0 ?n0x2 ?n1x4 ?n1x1 ?n1x3 ?n1x0 ?n1x2 ?n2x1 ?n2x3 ?n2x0 ?n2x2 ?n3x5 ?n3x1 ?n3x6 ?n3x3 ?n3x0 ?n3x2 ?n4x7 ?n4x8 ?n4x1 ?n4x6 ?n4x3 ?n4x0 ?n4x2 ?n5x1 ?n5x6 ?n5x3 ?n5x0 ?n5x2 ?n6x8 ?n6x1 ?n6x9 ?n6x10 ?n6x3 ?n6x0 ?n6x2 ?n7x19 ?n7x11 ?n7x18 ?n7x17 ?n7x13 ?n7x12 ?n7x14 ?n7x16 ?n7x15 ?m1x20 ?m3x20 ?m5x20 ?m6x20 ?m1x32 ?m2x32 ?m1x24 ?m2x24 ?m3x24 ?m4x24 ?m5x24 ?m6x24 ?m2x26 ?m3x26 ?m5x26 ?in2 ?z0 ?z1 ?z2 ?z3 ?z4 ?z5 ?z6 ?z7 ?cs0 ?cl0 ?hgt ?htk ?hcl0 ?hmr0 ?ci4 ?cy4 ?su4x0 ?ne4x0 ?hcl1 ?hmr1 ?su4x1 ?ne4x1 ?hcl2 ?hmr2 ?su4x2 ?ne4x2 ?hcl3 ?hmr3 ?su4x3 ?ne4x3 ?hcl4 ?hmr4 ?hcl5 ?hmr5 ?su4x5 ?ne4x5 ?hcl6 ?hmr6 ?su4x6 ?ne4x6 ?hcl7 ?hmr7 ?su4x7 ?ne4x7 ?ci6 ?cy6 ?su6x0 ?ne6x0 ?su6x1 ?ne6x1 ?su6x2 ?ne6x2 ?su6x3 ?ne6x3 ?su6x4 ?ne6x4 ?su6x5 ?ne6x5 ?su6x7 ?ne6x7
    (case hC0 => k_is)
    (case hC1 => k_is)
    (case hC2 => k_is)
    (case hC3 => k_is)
    (case hC4 => k_is)
    (case hC5 => k_is)
    (case hC6 => k_is)
    (case hC7 => k_is)
    (case pg0 => k_is)
    (case hd0 => k_is)
    (case po0 => k_is)
    (case sa0 => k_is)
    (case mk0 => k_is)
    (case kC0 => k_is)
    (case pg1 => k_is)
    (case hd1 => k_is)
    (case po1 => k_is)
    (case sa1 => k_is)
    (case mk1 => k_is)
    (case kC1 => k_is)
    (case pg2 => k_is)
    (case hd2 => k_is)
    (case po2 => k_is)
    (case sa2 => k_is)
    (case mk2 => k_is)
    (case kC2 => k_is)
    (case pg3 => k_is)
    (case hd3 => k_is)
    (case po3 => k_is)
    (case sa3 => k_is)
    (case mk3 => k_is)
    (case kC3 => k_is)
    (case pg4 => k_is)
    (case hd4 => k_is)
    (case po4 => k_is)
    (case sa4 => k_is)
    (case mk4 => k_is)
    (case kC4 => k_is)
    (case pg5 => k_is)
    (case hd5 => k_is)
    (case po5 => k_is)
    (case sa5 => k_is)
    (case mk5 => k_is)
    (case kC5 => k_is)
    (case pg6 => k_is)
    (case hd6 => k_is)
    (case po6 => k_is)
    (case sa6 => k_is)
    (case mk6 => k_is)
    (case kC6 => k_is)
    (case pg7 => k_is)
    (case hd7 => k_is)
    (case po7 => k_is)
    (case sa7 => k_is)
    (case mk7 => k_is)
    (case kC7 => k_is)
    (case a0 => k_is)
    (case l0 => k_is)
    (case c0 => k_is)
    (case k0 => k_is)
    (case a1 => k_is)
    (case i1 => k_is)
    (case l1 => k_is)
    (case t1l => k_is)
    (case c1 => k_is)
    (case k1 => k_is)
    (case a2 => k_is)
    (case i2 => k_is)
    (case l2 => k_is)
    (case c2 => k_is)
    (case k2 => k_is)
    (case a3 => k_is)
    (case i3 => k_is)
    (case l3 => k_is)
    (case c3 => k_is)
    (case k3 => k_is)
    (case a4 => k_is)
    (case i4 => k_is)
    (case l4 => k_is)
    (case c4 => k_is)
    (case k4 => k_is)
    (case a5 => k_is)
    (case i5 => k_is)
    (case l5 => k_is)
    (case c5 => k_is)
    (case k5 => k_is)
    (case a6 => k_is)
    (case i6 => k_is)
    (case l6 => k_is)
    (case c6 => k_is)
    (case k6 => k_is)
    (case a7 => k_is)
    (case i7 => k_is)
    (case l7 => k_is)
    (case c7 => k_is)
    (case k7 => k_is)
    (case a8 => k_is)
    (case i8 => k_is)
    (case l8 => k_is)
    (case c8 => k_is)
    (case k8 => k_is)
    (case a9 => k_is)
    (case i9 => k_is)
    (case l9 => k_is)
    (case c9 => k_is)
    (case k9 => k_is)
    (case a10 => k_is)
    (case i10 => k_is)
    (case l10 => k_is)
    (case c10 => k_is)
    (case k10 => k_is)
    (case a11 => k_is)
    (case i11 => k_is)
    (case l11 => k_is)
    (case c11 => k_is)
    (case k11 => k_is)
    (case a12 => k_is)
    (case i12 => k_is)
    (case l12 => k_is)
    (case c12 => k_is)
    (case k12 => k_is)
    (case a13 => k_is)
    (case i13 => k_is)
    (case l13 => k_is)
    (case c13 => k_is)
    (case k13 => k_is)
    (case a14 => k_is)
    (case i14 => k_is)
    (case l14 => k_is)
    (case c14 => k_is)
    (case k14 => k_is)
    (case a15 => k_is)
    (case i15 => k_is)
    (case l15 => k_is)
    (case c15 => k_is)
    (case k15 => k_is)
    (case a16 => k_is)
    (case i16 => k_is)
    (case l16 => k_is)
    (case c16 => k_is)
    (case k16 => k_is)
    (case a17 => k_is)
    (case i17 => k_is)
    (case l17 => k_is)
    (case c17 => k_is)
    (case k17 => k_is)
    (case a18 => k_is)
    (case i18 => k_is)
    (case l18 => k_is)
    (case c18 => k_is)
    (case k18 => k_is)
    (case a19 => k_is)
    (case i19 => k_is)
    (case l19 => k_is)
    (case c19 => k_is)
    (case k19 => k_is)
    (case a20 => k_is)
    (case i20 => k_is)
    (case l20 => k_is)
    (case c20 => k_is)
    (case k20 => k_is)
    (case a21 => k_is)
    (case i21 => k_is)
    (case l21 => k_is)
    (case c21 => k_is)
    (case k21 => k_is)
    (case a22 => k_is)
    (case i22 => k_is)
    (case l22 => k_is)
    (case c22 => k_is)
    (case k22 => k_is)
    (case a23 => k_is)
    (case i23 => k_is)
    (case l23 => k_is)
    (case c23 => k_is)
    (case k23 => k_is)
    (case a24 => k_is)
    (case i24 => k_is)
    (case l24 => k_is)
    (case c24 => k_is)
    (case k24 => k_is)
    (case a25 => k_is)
    (case i25 => k_is)
    (case l25 => k_is)
    (case c25 => k_is)
    (case k25 => k_is)
    (case a26 => k_is)
    (case i26 => k_is)
    (case l26 => k_is)
    (case c26 => k_is)
    (case k26 => k_is)
    (case a27 => k_is)
    (case i27 => k_is)
    (case l27 => k_is)
    (case c27 => k_is)
    (case k27 => k_is)
    (case a28 => k_is)
    (case i28 => k_is)
    (case l28 => k_is)
    (case c28 => k_is)
    (case k28 => k_is)
    (case a29 => k_is)
    (case i29 => k_is)
    (case l29 => k_is)
    (case c29 => k_is)
    (case k29 => k_is)
    (case a30 => k_is)
    (case i30 => k_is)
    (case l30 => k_is)
    (case c30 => k_is)
    (case k30 => k_is)
    (case a31 => k_is)
    (case i31 => k_is)
    (case l31 => k_is)
    (case c31 => k_is)
    (case k31 => k_is)
    (case a32 => k_is)
    (case i32 => k_is)
    (case l32 => k_is)
    (case c32 => k_is)
    (case k32 => k_is)
    (case a33 => k_is)
    (case i33 => k_is)
    (case l33 => k_is)
    (case c33 => k_is)
    (case k33 => k_is)
    (case a34 => k_is)
    (case i34 => k_is)
    (case l34 => k_is)
    (case c34 => k_is)
    (case k34 => k_is)
    (case a35 => k_is)
    (case i35 => k_is)
    (case l35 => k_is)
    (case c35 => k_is)
    (case k35 => k_is)
    (case a36 => k_is)
    (case i36 => k_is)
    (case l36 => k_is)
    (case t36l => k_is)
    (case c36 => k_is)
    (case k36 => k_is)
    (case a37 => k_is)
    (case i37 => k_is)
    (case l37 => k_is)
    (case c37 => k_is)
    (case k37 => k_is)
    (case a38 => k_is)
    (case i38 => k_is)
    (case l38 => k_is)
    (case c38 => k_is)
    (case k38 => k_is)
    (case a39 => k_is)
    (case i39 => k_is)
    (case l39 => k_is)
    (case c39 => k_is)
    (case k39 => k_is)
    (case a40 => k_is)
    (case i40 => k_is)
    (case l40 => k_is)
    (case c40 => k_is)
    (case k40 => k_is)
    (case a41 => k_is)
    (case i41 => k_is)
    (case l41 => k_is)
    (case c41 => k_is)
    (case k41 => k_is)
    (case a42 => k_is)
    (case i42 => k_is)
    (case l42 => k_is)
    (case c42 => k_is)
    (case k42 => k_is)
    (case a43 => k_is)
    (case i43 => k_is)
    (case l43 => k_is)
    (case c43 => k_is)
    (case k43 => k_is)
    (case a44 => k_is)
    (case i44 => k_is)
    (case l44 => k_is)
    (case c44 => k_is)
    (case k44 => k_is)
    (case a45 => k_is)
    (case i45 => k_is)
    (case l45 => k_is)
    (case c45 => k_is)
    (case k45 => k_is)
    (case a46 => k_is)
    (case i46 => k_is)
    (case l46 => k_is)
    (case c46 => k_is)
    (case k46 => k_is)
    (case a47 => k_is)
    (case i47 => k_is)
    (case l47 => k_is)
    (case c47 => k_is)
    (case k47 => k_is)
    (case a48 => k_is)
    (case i48 => k_is)
    (case l48 => k_is)
    (case c48 => k_is)
    (case k48 => k_is)
    (case a49 => k_is)
    (case i49 => k_is)
    (case l49 => k_is)
    (case c49 => k_is)
    (case k49 => k_is)
    (case a50 => k_is)
    (case l50 => k_is)
    (case c50 => k_is)
    (case k50 => k_is)
    (case a51 => k_is)
    (case l51 => k_is)
    (case c51 => k_is)
    (case k51 => k_is)
    (case a52 => k_is)
    (case l52 => k_is)
    (case c52 => k_is)
    (case k52 => k_is)
    (case a53 => k_is)
    (case l53 => k_is)
    (case c53 => k_is)
    (case k53 => k_is)
    (case a54 => k_is)
    (case l54 => k_is)
    (case c54 => k_is)
    (case k54 => k_is)
    (case a56 => k_is)
    (case l56 => k_is)
    (case c56 => k_is)
    (case k56 => k_is)
    (case a57 => k_is)
    (case l57 => k_is)
    (case c57 => k_is)
    (case k57 => k_is)
    (case a58 => k_is)
    (case l58 => k_is)
    (case c58 => k_is)
    (case k58 => k_is)
    (case a59 => k_is)
    (case l59 => k_is)
    (case c59 => k_is)
    (case k59 => k_is)
    (case a60 => k_is)
    (case l60 => k_is)
    (case c60 => k_is)
    (case k60 => k_is)
    (case rd0 => k_is)
    (case ga0 => k_is)
    (case cv0x40 => k_is)
    (case cv0x41 => k_is)
    (case n0x1 => k_is)
    (case n0x3 => k_is)
    (case n0x0 => k_is)
    (case n0x2 => k_is)
    (case n1x4 => k_is)
    (case n1x1 => k_is)
    (case n1x3 => k_is)
    (case n1x0 => k_is)
    (case n1x2 => k_is)
    (case n2x1 => k_is)
    (case n2x3 => k_is)
    (case n2x0 => k_is)
    (case n2x2 => k_is)
    (case n3x5 => k_is)
    (case n3x1 => k_is)
    (case n3x6 => k_is)
    (case n3x3 => k_is)
    (case n3x0 => k_is)
    (case n3x2 => k_is)
    (case n4x7 => k_is)
    (case n4x8 => k_is)
    (case n4x1 => k_is)
    (case n4x6 => k_is)
    (case n4x3 => k_is)
    (case n4x0 => k_is)
    (case n4x2 => k_is)
    (case n5x1 => k_is)
    (case n5x6 => k_is)
    (case n5x3 => k_is)
    (case n5x0 => k_is)
    (case n5x2 => k_is)
    (case n6x8 => k_is)
    (case n6x1 => k_is)
    (case n6x9 => k_is)
    (case n6x10 => k_is)
    (case n6x3 => k_is)
    (case n6x0 => k_is)
    (case n6x2 => k_is)
    (case n7x19 => k_is)
    (case n7x11 => k_is)
    (case n7x18 => k_is)
    (case n7x17 => k_is)
    (case n7x13 => k_is)
    (case n7x12 => k_is)
    (case n7x14 => k_is)
    (case n7x16 => k_is)
    (case n7x15 => k_is)
    (case m1x20 => k_is)
    (case m3x20 => k_is)
    (case m5x20 => k_is)
    (case m6x20 => k_is)
    (case m1x32 => k_is)
    (case m2x32 => k_is)
    (case m1x24 => k_is)
    (case m2x24 => k_is)
    (case m3x24 => k_is)
    (case m4x24 => k_is)
    (case m5x24 => k_is)
    (case m6x24 => k_is)
    (case m2x26 => k_is)
    (case m3x26 => k_is)
    (case m5x26 => k_is)
    (case in2 => k_is)
    (case z0 => k_is)
    (case z1 => k_is)
    (case z2 => k_is)
    (case z3 => k_is)
    (case z4 => k_is)
    (case z5 => k_is)
    (case z6 => k_is)
    (case z7 => k_is)
    (case cs0 => k_is)
    (case cl0 => k_is)
    (case hgt => k_is)
    (case htk => k_is)
    (case hcl0 => k_is)
    (case hmr0 => k_is)
    (case ci4 => k_is)
    (case cy4 => k_is)
    (case su4x0 => first | rfl | k_is)
    (case ne4x0 => first | rfl | k_is)
    (case hcl1 => k_is)
    (case hmr1 => k_is)
    (case su4x1 => first | rfl | k_is)
    (case ne4x1 => first | rfl | k_is)
    (case hcl2 => k_is)
    (case hmr2 => k_is)
    (case su4x2 => first | rfl | k_is)
    (case ne4x2 => first | rfl | k_is)
    (case hcl3 => k_is)
    (case hmr3 => k_is)
    (case su4x3 => first | rfl | k_is)
    (case ne4x3 => first | rfl | k_is)
    (case hcl4 => k_is)
    (case hmr4 => k_is)
    (case hcl5 => k_is)
    (case hmr5 => k_is)
    (case su4x5 => first | rfl | k_is)
    (case ne4x5 => first | rfl | k_is)
    (case hcl6 => k_is)
    (case hmr6 => k_is)
    (case su4x6 => first | rfl | k_is)
    (case ne4x6 => first | rfl | k_is)
    (case hcl7 => k_is)
    (case hmr7 => k_is)
    (case su4x7 => first | rfl | k_is)
    (case ne4x7 => first | rfl | k_is)
    (case ci6 => k_is)
    (case cy6 => k_is)
    (case su6x0 => first | rfl | k_is)
    (case ne6x0 => first | rfl | k_is)
    (case su6x1 => first | rfl | k_is)
    (case ne6x1 => first | rfl | k_is)
    (case su6x2 => first | rfl | k_is)
    (case ne6x2 => first | rfl | k_is)
    (case su6x3 => first | rfl | k_is)
    (case ne6x3 => first | rfl | k_is)
    (case su6x4 => first | rfl | k_is)
    (case ne6x4 => first | rfl | k_is)
    (case su6x5 => first | rfl | k_is)
    (case ne6x5 => first | rfl | k_is)
    (case su6x7 => first | rfl | k_is)
    (case ne6x7 => first | rfl | k_is)
