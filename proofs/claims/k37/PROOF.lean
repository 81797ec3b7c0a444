import PyProof.Rows.All
import Wide.All
import OpenK.AllK
import Wide.FinOn
import HandS.ForMost
import HandS.ForExc
import HandS.IsInst
import HandS.Wide
import HandS.TupAny
import HandS.TupMul
import HandS.Deep
import HandS.CallSlots
import HandS.SortInts
import HandS.Rev
import HandS.RevRange
import HandS.TryOnly
import HandS.Style
import HandS.Head2
import HandS.HeadEnd
import HandS.HeadHook2
import HandS.HotCalls
import HandS.DictTup
import HandS.More
import HandS.Head0
import HandS.Head1
import HandS.HeadHook1
import PySem.Challenge.RW_earthends_k37_exchanged_added_turned
import KE.KStateDown
import Lean
import HandS.Ends
set_option Elab.async false
set_option linter.all false
set_option maxRecDepth 100000
set_option maxHeartbeats 0
/-! Z, part A: a small language of data, and how it is run. -/
namespace Z
open PySem
/-- data -/
inductive D where
  | non | bl (b : Bool) | int (i : Int) | str (x : Str)
  | tup (ds : List D) | lst (ds : List D) | scr (ds : List D) | edic
  | ref (i : Nat)
  | exc (c : Nat) (a : D)
/-- what stands in the store -/
inductive Cell where
  | lst (ds : List D)
  | dk (kvs : List (L2.Key × D))
  | dt (kvs : List (List L2.Key × D))
  | gone
abbrev Store := List Cell
abbrev Env := List (Option D)
/-- a value and the store behind it; an exception; no promise -/
inductive R (α : Type) where
  | ok (a : α) (S : Store)
  | exc (c : Nat) (a : D) (S : Store)
  | stuck
@[inline] def R.bind {α β : Type} (r : R α) (k : α → Store → R β) : R β := match r with
  | .ok a S => k a S
  | .exc c a S => .exc c a S
  | .stuck => .stuck
@[simp] theorem R.bind_ok {α β : Type} (a : α) (S : Store) (k : α → Store → R β) : (R.ok a S).bind k = k a S := rfl
@[simp] theorem R.bind_exc {α β : Type} (c : Nat) (a : D) (S : Store) (k : α → Store → R β) : (R.exc c a S : R α).bind k = .exc c a S := rfl
@[simp] theorem R.bind_stuck {α β : Type} (k : α → Store → R β) : (R.stuck : R α).bind k = .stuck := rfl

inductive Bop where | add | sub | mul | fdiv | mod | pow
inductive Cop where | eq | ne | lt | le | gt | ge | is | isnot | isin | notin
/-- kinds that isinstance asks for -/
inductive Ty where | int | bool | str | tup | lst | dict | own (c : Nat)
inductive Blt where | len | abs | int | str | tuple | list | all | any | sum | min | max | sorted | repr
inductive Mth where | append | reverse | pop | count | index | insert | extend
/-- targets: a name, a tuple of these (cons-lists) -/
inductive CT where
  | nm (i : Nat) | nil | cons (t ts : CT) | tp (ts : CT)
inductive CE where
  | var (i : Nat) | con (d : D) | edic
  | nil | cons (e es : CE) | one (e : CE)
  | tup (es : CE) | lst (es : CE) | mlst (es : CE) | mdk | mdt
  | bin (op : Bop) (a b : CE) | neg (a : CE)
  | cmp (op : Cop) (a b : CE) | chain (o1 o2 : Cop) (a b c : CE)
  | not (a : CE) | and (a b : CE) | or (a b : CE) | ife (c a b : CE)
  | idx (a i : CE) | sl (a lo hi : CE) | rev (a : CE)
  | call (f : Nat) (es : CE) | blt (b : Blt) (es : CE) | isi (a : CE) (t : Ty)
  | mth (m : Mth) (o es : CE)
  | rng (a b : CE) | zip (a b : CE) | enum (a : CE)
  | comp (elt : CE) (tg : CT) (it cond : CE) (own : List Nat) (isM : Bool)
inductive CS where
  | skip | never | seq (a b : CS) | expr (e : CE) | ret (e : CE) | retF (i : Nat)
  | asg (t : CT) (e : CE) | set (o i e : CE)
  | ife (c : CE) (a b : CS) | whl (c : CE) (b : CS) | fr (t : CT) (it : CE) (b : CS) | brk
  | rais (c : Nat) (a : CE)
  | tr (b : CS) (c : Nat) (i : Nat) (h : CS)
structure CF where
  np : Nat
  ns : Nat
  body : CS

/-! ### how it is run -/
/-- a sequence that is read -/
def seqOf (S : Store) : D → Option (List D)
  | .tup ds => some ds
  | .lst ds => some ds
  | .scr ds => some ds
  | .ref i => match S[i]? with
    | some (.lst ds) => some ds
    | _ => none
  | _ => none
/-- a list that is read, not the script -/
def seqL (S : Store) : D → Option (List D)
  | .lst ds => some ds
  | .ref i => match S[i]? with
    | some (.lst ds) => some ds
    | _ => none
  | _ => none
def isTup : D → Bool
  | .tup _ => true
  | _ => false
mutual
/-- as data of the library: no cell within -/
def py : D → Option PyData
  | .non => some .none
  | .bl b => some (.bool b)
  | .int i => some (.int i)
  | .str x => some (.str x)
  | .tup ds => match pys ds with
    | some xs => some (.tuple xs)
    | none => none
  | .lst ds => match pys ds with
    | some xs => some (.list xs)
    | none => none
  | .scr _ => none
  | .edic => none
  | .ref _ => none
  | .exc _ _ => none
def pys : List D → Option (List PyData)
  | [] => some []
  | d :: ds => match py d, pys ds with
    | some x, some xs => some (x :: xs)
    | _, _ => none
end
/-- a cell's list as data -/
def pyS (S : Store) : D → Option PyData
  | .ref i => match S[i]? with
    | some (.lst ds) => match pys ds with
      | some xs => some (.list xs)
      | none => none
    | _ => none
  | d => py d
mutual
/-- no cell within -/
def noref : D → Bool
  | .tup ds => norefs ds
  | .lst ds => norefs ds
  | .scr ds => norefs ds
  | .ref _ => false
  | .exc _ a => noref a
  | _ => true
def norefs : List D → Bool
  | [] => true
  | d :: ds => noref d && norefs ds
end
def Cell.noref : Cell → Bool
  | .lst ds => norefs ds
  | .dk kvs => norefs (kvs.map (·.2))
  | .dt kvs => norefs (kvs.map (·.2))
  | .gone => true
def MulOk (i j : Int) : Prop := i.natAbs.log2 + j.natAbs.log2 < 1000000 ∨ (-(2 ^ 64) < i ∧ i < 2 ^ 64) ∨ (-(2 ^ 64) < j ∧ j < 2 ^ 64)
def DivOk (i j : Int) : Prop := 0 < j ∧ j.natAbs.log2 < 9000
def seqMk : D → List D → D
  | .tup _, ds => .tup ds
  | _, ds => .lst ds

def R.opt (o : Option D) (S : Store) : R D := match o with
  | some d => .ok d S
  | none => .stuck
@[simp] theorem R.opt_some (d : D) (S : Store) : R.opt (some d) S = .ok d S := rfl
@[simp] theorem R.opt_none (S : Store) : R.opt none S = .stuck := rfl
def R.opt2 (o : Option (D × Store)) : R D := match o with
  | some (d, S) => .ok d S
  | none => .stuck
@[simp] theorem R.opt2_some (d : D) (S : Store) : R.opt2 (some (d, S)) = .ok d S := rfl
@[simp] theorem R.opt2_none : R.opt2 none = .stuck := rfl
open Classical in
noncomputable def catEv (S : Store) (x y : D) : Option D := match seqL S x, seqL S y with
  | some xs, some ys => if xs.length + ys.length ≤ sizeLine then some (.lst (xs ++ ys)) else none
  | _, _ => none
open Classical in
noncomputable def addEv (S : Store) : D → D → Option D
  | .int i, .int j => some (.int (i + j))
  | .str i, .str j => if i.length + j.length ≤ sizeLine then some (.str (i ++ j)) else none
  | .tup xs, .tup ys => if xs.length + ys.length ≤ sizeLine then some (.tup (xs ++ ys)) else none
  | .lst xs, y => catEv S (.lst xs) y
  | .ref i, y => catEv S (.ref i) y
  | _, _ => none
open Classical in
noncomputable def repEv (S : Store) (x : D) (k : Int) : Option D := match seqL S x with
  | some xs => if -(2 ^ 63) ≤ k ∧ k < 2 ^ 63 ∧ xs.length * k.toNat ≤ sizeLine then some (.lst (List.replicate k.toNat xs).flatten) else none
  | none => none
open Classical in
noncomputable def mulEv (S : Store) : D → D → Option D
  | .int i, .int j => if MulOk i j then some (.int (i * j)) else none
  | .tup xs, .int k => if xs ≠ [] ∧ 2 ≤ k ∧ k ≤ 1000 ∧ xs.length ≤ 1000 then some (.tup (List.replicate k.toNat xs).flatten) else none
  | .lst xs, .int k => repEv S (.lst xs) k
  | .ref i, .int k => repEv S (.ref i) k
  | _, _ => none
open Classical in
noncomputable def binEv (op : Bop) (x y : D) (S : Store) : Option D := match op with
  | .add => addEv S x y
  | .sub => match x, y with
    | .int i, .int j => some (.int (i - j))
    | _, _ => none
  | .mul => mulEv S x y
  | .fdiv => match x, y with
    | .int i, .int j => if DivOk i j then some (.int (i / j)) else none
    | _, _ => none
  | .mod => match x, y with
    | .int i, .int j => if 0 < j then some (.int (i % j)) else none
    | _, _ => none
  | .pow => match x, y with
    | .int i, .int j => if 0 ≤ j ∧ j ≤ 1000000 ∧ i.natAbs < 2 ^ 64 then some (.int (i ^ j.toNat)) else none
    | _, _ => none
def cmpI (op : Cop) (i j : Int) : Option Bool := match op with
  | .lt => some (decide (i < j))
  | .le => some (decide (i ≤ j))
  | .gt => some (decide (j < i))
  | .ge => some (decide (j ≤ i))
  | _ => none
def shapedO : Option PyData → Option PyData
  | some d => if SeqAt.shaped d = true then some d else none
  | none => none
/-- the constant behind is, is not -/
def isEv (x y : D) : Option Bool := match y, x with
  | .non, .non => some true
  | .non, .exc _ _ => none
  | .non, _ => some false
  | .bl b, .bl a => some (decide (a = b))
  | _, _ => none
def flatD : D → Bool
  | .non => true
  | .bl _ => true
  | .int _ => true
  | .str _ => true
  | _ => false
def keyOf : D → Option L2.Key
  | .int i => some (.inl i)
  | .str x => some (.inr x)
  | _ => none
/-- a dict that is read -/
def dkOf (S : Store) : D → Option (List (L2.Key × D))
  | .ref i => match S[i]? with
    | some (.dk kvs) => some kvs
    | _ => none
  | _ => none
def valD (kvs : List (L2.Key × D)) (k : L2.Key) : Option D := (kvs.find? fun kv => decide (kv.1 = k)).map (·.2)
def putD (kvs : List (L2.Key × D)) (k : L2.Key) (v : D) : List (L2.Key × D) :=
  if (kvs.any fun kv => decide (kv.1 = k)) = true then kvs.map (fun kv => if kv.1 = k then (kv.1, v) else kv) else kvs ++ [(k, v)]
def keysI : List (L2.Key × D) → Option (List Int)
  | [] => some []
  | (.inl i, _) :: r => (keysI r).map (i :: ·)
  | (.inr _, _) :: _ => none
def sortI (ks : List Int) : List Int := ks.mergeSort fun a b => decide (a ≤ b)
def inEv (S : Store) (x y : D) : Option Bool := match y with
  | .tup ds => if flatD x = true ∧ ds.all flatD = true then (match py x, pys ds with
      | some d, some es => some (es.any fun z => PyData.eqv z d)
      | _, _ => none) else none
  | y => match shapedO (pyS S x), shapedO (pyS S y) with
    | some d, some (.list es) => some (es.any fun z => PyData.eqv z d)
    | _, _ => none
def inEvD (S : Store) (x y : D) : Option Bool := match dkOf S y with
  | some kvs => (keyOf x).map fun k => (valD kvs k).isSome
  | none => inEv S x y
def eqEv (S : Store) (x y : D) : Option Bool := match shapedO (pyS S x), shapedO (pyS S y) with
  | some d, some e => some (PyData.eqv d e)
  | _, _ => none
def ordEv (op : Cop) (x y : D) : Option Bool := match x, y with
  | .int i, .int j => cmpI op i j
  | _, _ => none
def cmpB (op : Cop) (x y : D) (S : Store) : Option Bool := match op with
  | .eq => eqEv S x y
  | .ne => (eqEv S x y).map (!·)
  | .is => isEv x y
  | .isnot => (isEv x y).map (!·)
  | .isin => inEvD S x y
  | .notin => (inEvD S x y).map (!·)
  | op => ordEv op x y
def cmpEv (op : Cop) (x y : D) (S : Store) : Option D := (cmpB op x y S).map .bl
def idxEv (x y : D) (S : Store) : Option D := match dkOf S x with
  | some kvs => (keyOf y).bind (valD kvs)
  | none => match y with
    | .int i => match seqOf S x with
      | some ds => L2.atI ds i
      | none => none
    | _ => none
def cutD (ds : List D) (lo hi : Option Int) : List D := (ds.drop (HT.sIx ds.length 0 lo)).take (HT.sIx ds.length ds.length hi - HT.sIx ds.length 0 lo)
def slEv (x : D) (lo hi : Option Int) (S : Store) : Option D := match x with
  | .tup ds => some (.tup (cutD ds lo hi))
  | .scr ds => some (.lst (cutD ds lo hi))
  | x => (seqL S x).map fun ds => .lst (cutD ds lo hi)
def revEv (x : D) (S : Store) : Option D := match x with
  | .tup ds => some (.tup ds.reverse)
  | x => (seqL S x).map fun ds => .lst ds.reverse
def ints? : List D → Option (List Int)
  | [] => some []
  | .int i :: ds => (ints? ds).map (i :: ·)
  | _ => none
def bls? : List D → Option (List Bool)
  | [] => some []
  | .bl b :: ds => (bls? ds).map (b :: ·)
  | _ => none
open Classical in
noncomputable def lenEv (S : Store) (x : D) : Option D := match seqOf S x with
  | some ds => some (.int ds.length)
  | none => match x with
    | .str z => if z.length ≤ sizeLine then some (.int z.length) else none
    | _ => none
open Classical in
noncomputable def strEv : D → Option D
  | .int i => if i.natAbs.log2 < 1920 then some (.str (toString i)) else none
  | _ => none
def absEv : D → Option D
  | .int i => some (.int (if i < 0 then -i else i))
  | _ => none
def intEv : D → Option D
  | .int i => some (.int i)
  | .bl b => some (.int (if b then 1 else 0))
  | _ => none
def minEv : D → D → Option D
  | .int i, .int j => some (.int (if j < i then j else i))
  | _, _ => none
def maxEv : D → D → Option D
  | .int i, .int j => some (.int (if j > i then j else i))
  | _, _ => none
noncomputable def bltEv (b : Blt) (xs : List D) (S : Store) : Option D := match b, xs with
  | .len, [x] => lenEv S x
  | .abs, [x] => absEv x
  | .int, [x] => intEv x
  | .str, [x] => strEv x
  | .repr, [x] => strEv x
  | .tuple, [x] => (seqOf S x).map .tup
  | .list, [x] => (seqOf S x).map .lst
  | .all, [x] => ((seqL S x).bind bls?).map fun bs => .bl (bs.all id)
  | .any, [x] => ((seqL S x).bind bls?).map fun bs => .bl (bs.any id)
  | .sum, [x] => ((seqL S x).bind ints?).map fun ns => .int ns.sum
  | .sorted, [x] => match dkOf S x with
    | some kvs => (keysI kvs).bind fun ks => if ks.length < 64 then some (.lst ((sortI ks).map .int)) else none
    | none => ((seqL S x).bind ints?).map fun ns => .lst ((sortI ns).map .int)
  | .min, [x, y] => minEv x y
  | .max, [x, y] => maxEv x y
  | _, _ => none
def isiEv (x : D) (t : Ty) (S : Store) : Option Bool := match t, x with
  | .own _, _ => none
  | _, .exc _ _ => none
  | .int, .int _ => some true
  | .int, .bl _ => some true
  | .bool, .bl _ => some true
  | .str, .str _ => some true
  | .tup, .tup _ => some true
  | .lst, .lst _ => some true
  | .lst, .scr _ => some true
  | .dict, .edic => some true
  | t, .ref i => match S[i]?, t with
    | some (.lst _), .lst => some true
    | some (.lst _), _ => some false
    | some (.dk _), .dict => some true
    | some (.dk _), _ => some false
    | some (.dt _), .dict => some true
    | some (.dt _), _ => some false
    | _, _ => none
  | _, _ => some false
def setEv (o i v : D) (S : Store) : Option Store := match o, i with
  | .ref p, i => match S[p]? with
    | some (.lst ds) => match i with
      | .int k => (L2.ixN ds.length k).map fun j => S.set p (.lst (ds.set j v))
      | _ => none
    | some (.dk kvs) => (keyOf i).bind fun k => if kvs.length < sizeLine then some (S.set p (.dk (putD kvs k v))) else none
    | _ => none
  | _, _ => none
open Classical in
noncomputable def mthEv (m : Mth) (o : D) (xs : List D) (S : Store) : Option (D × Store) := match m, o, xs with
  | .append, .ref p, [y] => match S[p]? with
    | some (.lst ds) => if ds.length < sizeLine then some (.non, S.set p (.lst (ds ++ [y]))) else none
    | _ => none
  | .reverse, .ref p, [] => match S[p]? with
    | some (.lst ds) => some (.non, S.set p (.lst ds.reverse))
    | _ => none
  | .pop, .ref p, [] => match S[p]? with
    | some (.lst ds) => (ds[ds.length - 1]?).map fun y => (y, S.set p (.lst ds.dropLast))
    | _ => none
  | _, _, _ => none
/-- targets -/
def stepT : CT → D → Env → Option Env
  | .nm i, d, δ => if i < δ.length then some (δ.set i (some d)) else none
  | .tp ts, .tup ds, δ => go ts ds δ
  | _, _, _ => none
where go : CT → List D → Env → Option Env
  | .nil, [], δ => some δ
  | .cons (.nm i) ts, d :: ds, δ => if i < δ.length then go ts ds (δ.set i (some d)) else none
  | _, _, _ => none
def wipeD (δ : Env) : List Nat → Env
  | [] => δ
  | v :: vs => (wipeD δ vs).set v none
/-- what a loop walks -/
inductive Wk where
  | fix (ds : List D)
  | cel (i : Nat) (ds : List D)
def Wk.items : Wk → List D
  | .fix ds => ds
  | .cel _ ds => ds
/-- it still stands -/
def Wk.At (S : Store) : Wk → Prop
  | .fix _ => True
  | .cel i ds => S[i]? = some (.lst ds)
def rngD (a b : Int) : List D := (List.range (b - a).toNat).map fun k => .int (a + (k : Nat))
def small62 (a : Int) : Prop := -(2 ^ 62) ≤ a ∧ a < 2 ^ 62
def walkSeq (S : Store) : D → Option Wk
  | .tup ds => some (.fix ds)
  | .lst ds => some (.fix ds)
  | .str x => some (.fix (x.cps.toList.map fun c => .str ⟨#[c]⟩))
  | .ref i => match S[i]? with
    | some (.lst ds) => some (.cel i ds)
    | _ => none
  | _ => none
abbrev Fn := Nat → List D → Store → R D
open Classical in
/-- the elements of a comprehension, one behind the other -/
noncomputable def compEv (elt : Env → Store → R D) (cond : Env → Store → R D) (tg : CT) (w : Wk) (δ : Env) (own : List Nat) : List D → List D → Store → R (List D)
  | [], acc, S => if w.At S then .ok acc S else .stuck
  | d :: ds, acc, S => if w.At S then
      match stepT tg d (wipeD δ own) with
      | some δ1 => if acc.length < sizeLine then
          match cond δ1 S with
          | .ok (.bl true) S1 => match elt δ1 S1 with
            | .ok y S2 => compEv elt cond tg w δ own ds (acc ++ [y]) S2
            | _ => .stuck
          | .ok (.bl false) S1 => compEv elt cond tg w δ own ds acc S1
          | _ => .stuck
        else .stuck
      | none => .stuck
    else .stuck
mutual
noncomputable def ev (F : Fn) : CE → Env → Store → R D
  | .var i, δ, S => match δ[i]? with
    | some (some d) => .ok d S
    | _ => .stuck
  | .con d, _, S => .ok d S
  | .edic, _, S => .ok .edic S
  | .tup es, δ, S => (evs F es δ S).bind fun ds S1 => .ok (.tup ds) S1
  | .lst es, δ, S => (evs F es δ S).bind fun ds S1 => .ok (.lst ds) S1
  | .mlst es, δ, S => (evs F es δ S).bind fun ds S1 => .ok (.ref S1.length) (S1 ++ [.lst ds])
  | .mdk, _, S => .ok (.ref S.length) (S ++ [.dk []])
  | .mdt, _, S => .ok (.ref S.length) (S ++ [.dt []])
  | .bin op a b, δ, S => (ev F a δ S).bind fun x S1 => (ev F b δ S1).bind fun y S2 => .opt (binEv op x y S2) S2
  | .neg a, δ, S => (ev F a δ S).bind fun x S1 => match x with
    | .int i => .ok (.int (-i)) S1
    | _ => .stuck
  | .cmp op a b, δ, S => (ev F a δ S).bind fun x S1 => (ev F b δ S1).bind fun y S2 => .opt (cmpEv op x y S2) S2
  | .chain o1 o2 a b c, δ, S => (ev F a δ S).bind fun x S1 => (ev F b δ S1).bind fun y S2 => match cmpB o1 x y S2 with
    | some true => (ev F c δ S2).bind fun z S4 => .opt (cmpEv o2 y z S4) S4
    | some false => .ok (.bl false) S2
    | none => .stuck
  | .not a, δ, S => (ev F a δ S).bind fun x S1 => match x with
    | .bl b => .ok (.bl (!b)) S1
    | _ => .stuck
  | .and a b, δ, S => (ev F a δ S).bind fun x S1 => match x with
    | .bl true => ev F b δ S1
    | .bl false => .ok (.bl false) S1
    | _ => .stuck
  | .or a b, δ, S => (ev F a δ S).bind fun x S1 => match x with
    | .bl true => .ok (.bl true) S1
    | .bl false => ev F b δ S1
    | _ => .stuck
  | .ife c a b, δ, S => (ev F c δ S).bind fun x S1 => match x with
    | .bl true => ev F a δ S1
    | .bl false => ev F b δ S1
    | _ => .stuck
  | .idx a i, δ, S => (ev F a δ S).bind fun x S1 => (ev F i δ S1).bind fun y S2 => .opt (idxEv x y S2) S2
  | .sl a lo hi, δ, S => (ev F a δ S).bind fun x S1 => (evo F lo δ S1).bind fun l S2 => (evo F hi δ S2).bind fun h S3 => .opt (slEv x l h S3) S3
  | .rev a, δ, S => (ev F a δ S).bind fun x S1 => .opt (revEv x S1) S1
  | .call f es, δ, S => (evs F es δ S).bind fun ds S1 => F f ds S1
  | .blt b es, δ, S => (evs F es δ S).bind fun ds S1 => .opt (bltEv b ds S1) S1
  | .isi a t, δ, S => (ev F a δ S).bind fun x S1 => .opt ((isiEv x t S1).map .bl) S1
  | .mth m o es, δ, S => (ev F o δ S).bind fun x S1 => match seqL S1 x with
    | some _ => (evs F es δ S1).bind fun ds S2 => .opt2 (mthEv m x ds S2)
    | none => .stuck
  | .comp elt tg it cond own isM, δ, S => (evI F it δ S).bind fun w S1 =>
      (compEv (ev F elt) (ev F cond) tg w δ own w.items [] S1).bind fun ds S2 =>
        if isM then .ok (.ref S2.length) (S2 ++ [.lst ds]) else .ok (.lst ds) S2
  | _, _, _ => .stuck
noncomputable def evs (F : Fn) : CE → Env → Store → R (List D)
  | .nil, _, S => .ok [] S
  | .cons e es, δ, S => (ev F e δ S).bind fun d S1 => (evs F es δ S1).bind fun ds S2 => .ok (d :: ds) S2
  | _, _, _ => .stuck
noncomputable def evI (F : Fn) : CE → Env → Store → R Wk
  | .rng a b, δ, S => (ev F a δ S).bind fun x S1 => (ev F b δ S1).bind fun y S2 => match x, y with
    | .int i, .int j => open Classical in if small62 i ∧ small62 j then .ok (.fix (rngD i j)) S2 else .stuck
    | _, _ => .stuck
  | .one e, δ, S => (ev F e δ S).bind fun x S1 => match walkSeq S1 x with
    | some w => .ok w S1
    | none => .stuck
  | _, _, _ => .stuck
/-- a slice's bound -/
noncomputable def evo (F : Fn) : CE → Env → Store → R (Option Int)
  | .nil, _, S => .ok none S
  | .one e, δ, S => (ev F e δ S).bind fun x S1 => match x with
    | .int i => .ok (some i) S1
    | _ => .stuck
  | _, _, _ => .stuck
end
/-! ### statements -/
inductive SR where
  | nx (δ : Env) (S : Store) | rt (d : D) (S : Store) | bk (δ : Env) (S : Store) | xc (c : Nat) (a : D) (δ : Env) (S : Store) | stuck
@[inline] def SR.bind (r : SR) (k : Env → Store → SR) : SR := match r with
  | .nx δ S => k δ S
  | r => r
@[simp] theorem SR.bind_nx (δ : Env) (S : Store) (k : Env → Store → SR) : (SR.nx δ S).bind k = k δ S := rfl
@[simp] theorem SR.bind_rt (d : D) (S : Store) (k : Env → Store → SR) : (SR.rt d S).bind k = .rt d S := rfl
@[simp] theorem SR.bind_bk (δ : Env) (S : Store) (k : Env → Store → SR) : (SR.bk δ S).bind k = .bk δ S := rfl
@[simp] theorem SR.bind_xc (c : Nat) (a : D) (δ : Env) (S : Store) (k : Env → Store → SR) : (SR.xc c a δ S).bind k = .xc c a δ S := rfl
@[simp] theorem SR.bind_stuck (k : Env → Store → SR) : (SR.stuck).bind k = .stuck := rfl
/-- an expression within a statement -/
@[inline] def R.st {α : Type} (r : R α) (δ : Env) (k : α → Store → SR) : SR := match r with
  | .ok a S => k a S
  | .exc c a S => .xc c a δ S
  | .stuck => .stuck
@[simp] theorem R.st_ok {α : Type} (a : α) (S : Store) (δ : Env) (k : α → Store → SR) : (R.ok a S).st δ k = k a S := rfl
@[simp] theorem R.st_exc {α : Type} (c : Nat) (a : D) (S : Store) (δ : Env) (k : α → Store → SR) : (R.exc c a S : R α).st δ k = .xc c a δ S := rfl
@[simp] theorem R.st_stuck {α : Type} (δ : Env) (k : α → Store → SR) : (R.stuck : R α).st δ k = .stuck := rfl
def iterW {α β : Type} (f : α → α ⊕ β) : Nat → α → Option β
  | 0, _ => none
  | n + 1, s => match f s with
    | .inl s' => iterW f n s'
    | .inr r => some r
theorem iterW_more {α β : Type} {f : α → α ⊕ β} : ∀ {n : Nat} {s : α} {r : β}, iterW f n s = some r → ∀ k, iterW f (n + k) s = some r
  | 0, _, _, h, _ => by cases h
  | n + 1, s, r, h, k => by
    rw [Nat.succ_add]
    unfold iterW at h ⊢
    cases e : f s with
    | inl s' => rw [e] at h; exact iterW_more h k
    | inr r' => rw [e] at h; exact h
theorem iterW_one {α β : Type} {f : α → α ⊕ β} {n m : Nat} {s : α} {r r' : β} (h : iterW f n s = some r) (h' : iterW f m s = some r') : r = r' := by
  have a := iterW_more h m
  have b := iterW_more h' n
  rw [Nat.add_comm] at b
  rw [a] at b
  exact Option.some.inj b
open Classical in
noncomputable def loopW (f : Env × Store → (Env × Store) ⊕ SR) (s : Env × Store) : SR := if h : ∃ r n, iterW f n s = some r then h.choose else .stuck
theorem loopW_of {f : Env × Store → (Env × Store) ⊕ SR} {s : Env × Store} {n : Nat} {r : SR} (h : iterW f n s = some r) : loopW f s = r := by
  have e : ∃ r n, iterW f n s = some r := ⟨r, n, h⟩
  unfold loopW
  rw [dif_pos e]
  obtain ⟨m, hm⟩ := e.choose_spec
  exact iterW_one hm h
theorem loopW_step (f : Env × Store → (Env × Store) ⊕ SR) (s : Env × Store) : loopW f s = match f s with
    | .inl s' => loopW f s'
    | .inr r => r := by
  cases e : f s with
  | inr r => exact loopW_of (n := 1) (by unfold iterW; rw [e])
  | inl s' =>
    show loopW f s = loopW f s'
    by_cases h : ∃ r n, iterW f n s' = some r
    · obtain ⟨r, n, hr⟩ := h
      rw [loopW_of hr]
      exact loopW_of (n := n + 1) (by unfold iterW; rw [e]; exact hr)
    · have h2 : ¬ ∃ r n, iterW f n s = some r := fun ⟨r, n, hr⟩ => by
        cases n with
        | zero => cases hr
        | succ n => unfold iterW at hr; rw [e] at hr; exact h ⟨r, n, hr⟩
      unfold loopW
      rw [dif_neg h, dif_neg h2]
/-- a loop that is not stuck has ended -/
theorem loopW_ended {f : Env × Store → (Env × Store) ⊕ SR} {s : Env × Store} (h : loopW f s ≠ .stuck) : ∃ n, iterW f n s = some (loopW f s) := by
  by_cases e : ∃ r n, iterW f n s = some r
  · obtain ⟨r, n, hr⟩ := e
    exact ⟨n, by rw [loopW_of hr]; exact hr⟩
  · exact absurd (by unfold loopW; rw [dif_neg e]) h
def wstep (c : Env → Store → R D) (b : Env → Store → SR) (s : Env × Store) : (Env × Store) ⊕ SR := match c s.1 s.2 with
  | .ok (.bl true) S1 => match b s.1 S1 with
    | .nx δ' S' => .inl (δ', S')
    | .bk δ' S' => .inr (.nx δ' S')
    | r => .inr r
  | .ok (.bl false) S1 => .inr (.nx s.1 S1)
  | .exc c a S1 => .inr (.xc c a s.1 S1)
  | _ => .inr .stuck
open Classical in
noncomputable def forEv (body : Env → Store → SR) (tg : CT) (w : Wk) : List D → Env → Store → SR
  | [], δ, S => if w.At S then .nx δ S else .stuck
  | d :: ds, δ, S => if w.At S then
      match stepT tg d δ with
      | some δ1 => match body δ1 S with
        | .nx δ2 S2 => forEv body tg w ds δ2 S2
        | .bk δ2 S2 => .nx δ2 S2
        | r => r
      | none => .stuck
    else .stuck
noncomputable def run (F : Fn) : CS → Env → Store → SR
  | .skip, δ, S => .nx δ S
  | .never, _, _ => .stuck
  | .seq a b, δ, S => (run F a δ S).bind fun δ1 S1 => run F b δ1 S1
  | .expr e, δ, S => (ev F e δ S).st δ fun _ S1 => .nx δ S1
  | .ret e, δ, S => (ev F e δ S).st δ fun d S1 => .rt d S1
  | .retF i, δ, S => match δ[i]? with
    | some (some (.ref p)) => match S[p]? with
      | some (.lst ds) => .rt (.lst ds) (S.set p .gone)
      | _ => .stuck
    | _ => .stuck
  | .asg t e, δ, S => (ev F e δ S).st δ fun d S1 => match stepT t d δ with
    | some δ1 => .nx δ1 S1
    | none => .stuck
  | .set o i e, δ, S => (ev F e δ S).st δ fun v S1 => (ev F o δ S1).st δ fun x S2 => (ev F i δ S2).st δ fun y S3 => match setEv x y v S3 with
    | some S4 => .nx δ S4
    | none => .stuck
  | .ife c a b, δ, S => (ev F c δ S).st δ fun x S1 => match x with
    | .bl true => run F a δ S1
    | .bl false => run F b δ S1
    | _ => .stuck
  | .whl c b, δ, S => loopW (wstep (ev F c) (run F b)) (δ, S)
  | .fr t it b, δ, S => (evI F it δ S).st δ fun w S1 => forEv (run F b) t w w.items δ S1
  | .brk, δ, S => .bk δ S
  | .rais c a, δ, S => (ev F a δ S).st δ fun d S1 => .xc c d δ S1
  | .tr b c i h, δ, S => match run F b δ S with
    | .xc c' a δ1 S1 => if c = 0 ∨ c = c' then
        match run F h (δ1.set i (some (.exc c' a))) S1 with
        | .nx δ2 S2 => .nx (δ2.set i none) S2
        | .bk δ2 S2 => .bk (δ2.set i none) S2
        | .rt d S2 => .rt d S2
        | _ => .stuck
      else .xc c' a δ1 S1
    | r => r
/-! ### defs -/
def Keep (S0 S' : Store) : Prop := S0.length ≤ S'.length ∧ ∀ i, i < S0.length → S'[i]? = S0[i]? ∨ ∃ c, S'[i]? = some c ∧ c.noref = true
open Classical in
/-- what a call leaves: its own cells go where nothing names them -/
noncomputable def gc (S0 : Store) : R D → R D
  | .ok d S' => if Keep S0 S' ∧ noref d = true then .ok d (S'.take S0.length) else .ok d S'
  | .exc c a S' => if Keep S0 S' ∧ noref a = true then .exc c a (S'.take S0.length) else .exc c a S'
  | .stuck => .stuck
def SR.out : SR → R D
  | .nx _ S' => .ok .non S'
  | .rt d S' => .ok d S'
  | .xc c a _ S' => .exc c a S'
  | _ => .stuck
noncomputable def evF (P : Nat → Option CF) : Nat → Fn
  | 0, _, _, _ => .stuck
  | n + 1, f, ds, S => match P f with
    | some cf => if ds.length = cf.np ∧ cf.np ≤ cf.ns then gc S (run (evF P n) cf.body (ds.map some ++ List.replicate (cf.ns - cf.np) none) S).out else .stuck
    | none => .stuck
end Z

/-! Z, part B: how data lies in the heap. -/
namespace Z
open PySem PySem.Spec PyProof.Rows L2
/-- where the cells stand; lists that are just being made -/
structure Phi where
  c : List (Option Addr)
  h : List Addr
def Free (φ : Phi) (a : Addr) : Prop := (∀ i : Nat, φ.c[i]? ≠ some (some a)) ∧ a ∉ φ.h
/-- a tuple of the written part -/
def KT (K : PySem.W.Frag) (a : Addr) (xs : List V) : Prop :=
  ∃ (o : Obj) (its : Array Value) (n : Nat), K.lookup a = some o ∧ o.cls = .type "tuple" ∧ o.data = .seq its n ∧ its.size ≤ sizeLine ∧ Vals xs its.toList
def TupAt (K : PySem.W.Frag) (φ : Phi) (H : Hp) (a : Addr) (xs : List V) : Prop := (H a = some (.tup xs) ∧ Free φ a) ∨ KT K a xs
theorem TupAt.sq {K : PySem.W.Frag} {φ : Phi} {H : Hp} {a : Addr} {xs : List V} (h : TupAt K φ H a xs) : SqT K H a xs := by
  rcases h with ⟨h, _⟩ | h
  · exact .inl (.inl h)
  · exact .inr h
/-- a list that is only read: the script, a list of the written part -/
def ScrAt (K : PySem.W.Frag) (φ : Phi) (H : Hp) (a : Addr) (xs : List V) : Prop := ((∃ o, H a = some (.frz o (.lst xs))) ∧ Free φ a) ∨
  ∃ (o : Obj) (its : Array Value) (n : Nat), K.lookup a = some o ∧ o.cls = .type "list" ∧ o.dict = none ∧ o.data = .seq its n ∧ its.size ≤ sizeLine ∧ Vals xs its.toList
theorem ScrAt.sq {K : PySem.W.Frag} {φ : Phi} {H : Hp} {a : Addr} {xs : List V} (h : ScrAt K φ H a xs) : SqL K H a xs := by
  rcases h with ⟨⟨o, h⟩, _⟩ | h
  · exact .inl (.inr ⟨o, h⟩)
  · exact .inr h
mutual
inductive Rv (K : PySem.W.Frag) (φ : Phi) (H : Hp) : V → D → Prop
  | non : Rv K φ H .non .non
  | bl (b : Bool) : Rv K φ H (.bl b) (.bl b)
  | int (i : Int) : Rv K φ H (.int i) (.int i)
  | str (x : Str) : Rv K φ H (.str x) (.str x)
  | tup {a : Addr} {xs : List V} {ds : List D} : TupAt K φ H a xs → Rvs K φ H xs ds → Rv K φ H (.ref a) (.tup ds)
  | lst {a : Addr} {xs : List V} {ds : List D} : H a = some (.lst xs) → Free φ a → Rvs K φ H xs ds → Rv K φ H (.ref a) (.lst ds)
  | scr {a : Addr} {xs : List V} {ds : List D} : ScrAt K φ H a xs → Rvs K φ H xs ds → Rv K φ H (.ref a) (.scr ds)
  | edic {a : Addr} : H a = some (.dK []) → Free φ a → Rv K φ H (.ref a) .edic
  | ref {a : Addr} {i : Nat} {o : Option Addr} : φ.c[i]? = some o → (o = none ∨ o = some a) → Rv K φ H (.ref a) (.ref i)
inductive Rvs (K : PySem.W.Frag) (φ : Phi) (H : Hp) : List V → List D → Prop
  | nil : Rvs K φ H [] []
  | cons {v : V} {vs : List V} {d : D} {ds : List D} : Rv K φ H v d → Rvs K φ H vs ds → Rvs K φ H (v :: vs) (d :: ds)
end
/-- what may have come beside -/
structure Ext0 (φ : Phi) (H : Hp) (φ' : Phi) (H' : Hp) : Prop where
  len : φ.c.length ≤ φ'.c.length
  pre : ∀ (i : Nat) (o : Option Addr), φ.c[i]? = some o → φ'.c[i]? = some o ∨ φ'.c[i]? = some none
  keep : ∀ (a : Addr) (o : HO), Free φ a → H a = some o → H' a = some o ∧ Free φ' a
structure Ext (φ : Phi) (H : Hp) (φ' : Phi) (H' : Hp) : Prop extends Ext0 φ H φ' H' where
  hid : ∀ (a : Addr) (o : HO), a ∈ φ.h → H a = some o → H' a = some o ∧ a ∈ φ'.h
theorem Ext.mk' {φ φ' : Phi} {H H' : Hp} (len : φ.c.length ≤ φ'.c.length) (pre : ∀ (i : Nat) (o : Option Addr), φ.c[i]? = some o → φ'.c[i]? = some o ∨ φ'.c[i]? = some none)
    (keep : ∀ (a : Addr) (o : HO), Free φ a → H a = some o → H' a = some o ∧ Free φ' a) (hid : ∀ (a : Addr) (o : HO), a ∈ φ.h → H a = some o → H' a = some o ∧ a ∈ φ'.h) : Ext φ H φ' H' := ⟨⟨len, pre, keep⟩, hid⟩
theorem Ext.refl (φ : Phi) (H : Hp) : Ext φ H φ H := .mk' (Nat.le_refl _) (fun _ _ h => .inl h) (fun _ _ f h => ⟨h, f⟩) (fun _ _ f h => ⟨h, f⟩)
theorem Ext.trans {φ φ1 φ2 : Phi} {H H1 H2 : Hp} (a : Ext φ H φ1 H1) (b : Ext φ1 H1 φ2 H2) : Ext φ H φ2 H2 := by
  refine .mk' (Nat.le_trans a.len b.len) (fun i o h => ?_) (fun x o f h => ?_) fun x o f h => ?_
  · rcases a.pre i o h with h1 | h1
    · exact b.pre i o h1
    · rcases b.pre i none h1 with h2 | h2 <;> exact .inr h2
  · obtain ⟨h1, f1⟩ := a.keep x o f h
    exact b.keep x o f1 h1
  · obtain ⟨h1, f1⟩ := a.hid x o f h
    exact b.hid x o f1 h1
section
variable {K : PySem.W.Frag} {φ φ' : Phi} {H H' : Hp}
mutual
theorem Rv.ext0 (e : Ext0 φ H φ' H') : ∀ {v : V} {d : D}, Rv K φ H v d → Rv K φ' H' v d
  | _, _, .non => .non
  | _, _, .bl b => .bl b
  | _, _, .int i => .int i
  | _, _, .str x => .str x
  | _, _, .tup t r => .tup (by
      rcases t with ⟨h, f⟩ | h
      · exact .inl (e.keep _ _ f h)
      · exact .inr h) (Rvs.ext0 e r)
  | _, _, .lst h f r => .lst (e.keep _ _ f h).1 (e.keep _ _ f h).2 (Rvs.ext0 e r)
  | _, _, .scr t r => .scr (by
      rcases t with ⟨⟨o, h⟩, f⟩ | h
      · exact .inl ⟨⟨o, (e.keep _ _ f h).1⟩, (e.keep _ _ f h).2⟩
      · exact .inr h) (Rvs.ext0 e r)
  | _, _, .edic h f => .edic (e.keep _ _ f h).1 (e.keep _ _ f h).2
  | _, _, .ref h q => by
      rcases e.pre _ _ h with h1 | h1
      · exact .ref h1 q
      · exact .ref h1 (.inl rfl)
theorem Rvs.ext0 (e : Ext0 φ H φ' H') : ∀ {vs : List V} {ds : List D}, Rvs K φ H vs ds → Rvs K φ' H' vs ds
  | _, _, .nil => .nil
  | _, _, .cons r rs => .cons (Rv.ext0 e r) (Rvs.ext0 e rs)
end
theorem Rv.ext (e : Ext φ H φ' H') {v : V} {d : D} (h : Rv K φ H v d) : Rv K φ' H' v d := Rv.ext0 e.toExt0 h
theorem Rvs.ext (e : Ext φ H φ' H') {v : List V} {d : List D} (h : Rvs K φ H v d) : Rvs K φ' H' v d := Rvs.ext0 e.toExt0 h
theorem Rvs.len : ∀ {vs : List V} {ds : List D}, Rvs K φ H vs ds → vs.length = ds.length
  | _, _, .nil => rfl
  | _, _, .cons _ rs => by rw [List.length_cons, List.length_cons, Rvs.len rs]
theorem Rvs.app : ∀ {vs ws : List V} {ds es : List D}, Rvs K φ H vs ds → Rvs K φ H ws es → Rvs K φ H (vs ++ ws) (ds ++ es)
  | _, _, _, _, .nil, r => r
  | _, _, _, _, .cons r rs, q => .cons r (Rvs.app rs q)
theorem Rvs.take : ∀ {vs : List V} {ds : List D} (n : Nat), Rvs K φ H vs ds → Rvs K φ H (vs.take n) (ds.take n)
  | _, _, 0, _ => .nil
  | _, _, _ + 1, .nil => .nil
  | _, _, n + 1, .cons r rs => .cons r (Rvs.take n rs)
theorem Rvs.drop : ∀ {vs : List V} {ds : List D} (n : Nat), Rvs K φ H vs ds → Rvs K φ H (vs.drop n) (ds.drop n)
  | _, _, 0, r => r
  | _, _, _ + 1, .nil => .nil
  | _, _, n + 1, .cons _ rs => Rvs.drop n rs
theorem Rvs.get : ∀ {vs : List V} {ds : List D} {i : Nat} {d : D}, Rvs K φ H vs ds → ds[i]? = some d → ∃ v, vs[i]? = some v ∧ Rv K φ H v d
  | _, _, _, _, .nil, h => by simp at h
  | _, _, 0, _, .cons r _, h => by
    simp at h
    subst h
    exact ⟨_, rfl, r⟩
  | _, _, i + 1, _, .cons _ rs, h => by
    obtain ⟨v, h1, h2⟩ := Rvs.get (i := i) rs (by simpa using h)
    exact ⟨v, by simpa using h1, h2⟩
theorem Rvs.getV : ∀ {vs : List V} {ds : List D} {i : Nat} {v : V}, Rvs K φ H vs ds → vs[i]? = some v → ∃ d, ds[i]? = some d ∧ Rv K φ H v d
  | _, _, _, _, .nil, h => by simp at h
  | _, _, 0, _, .cons r _, h => by
    simp at h
    subst h
    exact ⟨_, rfl, r⟩
  | _, _, i + 1, _, .cons _ rs, h => by
    obtain ⟨v, h1, h2⟩ := Rvs.getV (i := i) rs (by simpa using h)
    exact ⟨v, by simpa using h1, h2⟩
theorem Rvs.set {v : V} {d : D} (q : Rv K φ H v d) : ∀ {vs : List V} {ds : List D} (i : Nat), Rvs K φ H vs ds → Rvs K φ H (vs.set i v) (ds.set i d)
  | _, _, _, .nil => .nil
  | _, _, 0, .cons _ rs => .cons q rs
  | _, _, i + 1, .cons r rs => .cons r (Rvs.set q i rs)
theorem Rvs.rev : ∀ {vs : List V} {ds : List D}, Rvs K φ H vs ds → Rvs K φ H vs.reverse ds.reverse
  | _, _, .nil => .nil
  | _, _, .cons r rs => by
    rw [List.reverse_cons, List.reverse_cons]
    exact Rvs.app (Rvs.rev rs) (.cons r .nil)
theorem Rvs.dropLast {vs : List V} {ds : List D} (r : Rvs K φ H vs ds) : Rvs K φ H vs.dropLast ds.dropLast := by
  rw [List.dropLast_eq_take, List.dropLast_eq_take, r.len]
  exact r.take _
theorem Rvs.rep {vs : List V} {ds : List D} (r : Rvs K φ H vs ds) : ∀ n : Nat, Rvs K φ H (List.replicate n vs).flatten (List.replicate n ds).flatten
  | 0 => .nil
  | n + 1 => by
    rw [List.replicate_succ, List.replicate_succ, List.flatten_cons, List.flatten_cons]
    exact r.app (Rvs.rep r n)
theorem Rvs.ints : ∀ {vs : List V} {ds : List D} {ns : List Int}, Rvs K φ H vs ds → ints? ds = some ns → vs = ns.map V.int
  | _, _, _, .nil, h => by
    unfold ints? at h
    cases h
    rfl
  | _, _, _, .cons (d := d) (ds := ds) r rs, h => by
    cases r with
    | int i =>
      unfold ints? at h
      cases e : ints? ds with
      | none => rw [e] at h; cases h
      | some ms =>
        rw [e] at h
        cases h
        rw [Rvs.ints rs e]
        rfl
    | _ => exact absurd h (by unfold ints?; exact fun z => nomatch z)
theorem Rvs.bls : ∀ {vs : List V} {ds : List D} {ns : List Bool}, Rvs K φ H vs ds → bls? ds = some ns → vs = ns.map V.bl
  | _, _, _, .nil, h => by
    unfold bls? at h
    cases h
    rfl
  | _, _, _, .cons (d := d) (ds := ds) r rs, h => by
    cases r with
    | bl i =>
      unfold bls? at h
      cases e : bls? ds with
      | none => rw [e] at h; cases h
      | some ms =>
        rw [e] at h
        cases h
        rw [Rvs.bls rs e]
        rfl
    | _ => exact absurd h (by unfold bls?; exact fun z => nomatch z)
end
/-- what stands in a cell -/
def RC (K : PySem.W.Frag) (φ : Phi) (H : Hp) (o : Option (Option Addr)) : Cell → Prop
  | .lst ds => ∃ a xs, o = some (some a) ∧ H a = some (.lst xs) ∧ Rvs K φ H xs ds
  | .dk kvs => ∃ a xs, o = some (some a) ∧ H a = some (.dK xs) ∧ xs.map (·.1) = kvs.map (·.1) ∧ Rvs K φ H (xs.map (·.2)) (kvs.map (·.2))
  | .dt kvs => ∃ a xs, o = some (some a) ∧ H a = some (.dT xs) ∧ xs.map (·.1) = kvs.map (·.1) ∧ Rvs K φ H (xs.map (·.2)) (kvs.map (·.2))
  | .gone => o = some none
structure Rs (K : PySem.W.Frag) (φ : Phi) (S : Store) (H : Hp) : Prop where
  len : φ.c.length = S.length
  nd : ∀ (i j : Nat) (a : Addr), φ.c[i]? = some (some a) → φ.c[j]? = some (some a) → i = j
  tr : ∀ (i : Nat) (a : Addr), φ.c[i]? = some (some a) → (∃ o, H a = some o) ∧ a ∉ φ.h
  ht : ∀ (a : Addr), a ∈ φ.h → ∃ o, H a = some o
  cell : ∀ (i : Nat) (c : Cell), S[i]? = some c → RC K φ H φ.c[i]? c
section
variable {K : PySem.W.Frag} {φ φ' : Phi} {H H' : Hp} {S : Store}
theorem RC.ext {o : Option (Option Addr)} (e : Ext φ H φ' H') (k : ∀ a u, o = some (some a) → H a = some u → H' a = some u) : ∀ {c : Cell}, RC K φ H o c → RC K φ' H' o c
  | .lst ds, ⟨a, xs, h1, h2, h3⟩ => ⟨a, xs, h1, k _ _ h1 h2, h3.ext e⟩
  | .dk kvs, ⟨a, xs, h1, h2, h3, h4⟩ => ⟨a, xs, h1, k _ _ h1 h2, h3, h4.ext e⟩
  | .dt kvs, ⟨a, xs, h1, h2, h3, h4⟩ => ⟨a, xs, h1, k _ _ h1 h2, h3, h4.ext e⟩
  | .gone, h => h
/-- a new object that nobody changes -/
theorem Ext.fresh {p : Addr} {o : HO} (hp : H p = none) : Ext φ H φ (upd H p o) :=
  .mk' (Nat.le_refl _) (fun _ _ h => .inl h) (fun a u f h => ⟨by rw [upd_ne (ne_of_none h hp)]; exact h, f⟩) (fun a u f h => ⟨by rw [upd_ne (ne_of_none h hp)]; exact h, f⟩)
theorem Rs.fresh {p : Addr} {o : HO} (r : Rs K φ S H) (hp : H p = none) : Rs K φ S (upd H p o) :=
  ⟨r.len, r.nd, fun i a h => by
    obtain ⟨⟨u, hu⟩, n⟩ := r.tr i a h
    exact ⟨⟨u, by rw [upd_ne (ne_of_none hu hp)]; exact hu⟩, n⟩, fun a h => by
    obtain ⟨u, hu⟩ := r.ht a h
    exact ⟨u, by rw [upd_ne (ne_of_none hu hp)]; exact hu⟩, fun i c h => (r.cell i c h).ext (Ext.fresh hp) fun a u _ h2 => by rw [upd_ne (ne_of_none h2 hp)]; exact h2⟩
theorem Rs.free {p : Addr} (r : Rs K φ S H) (hp : H p = none) : Free φ p := by
  refine ⟨fun i h => ?_, fun h => ?_⟩
  · obtain ⟨⟨u, hu⟩, _⟩ := r.tr i p h
    rw [hp] at hu
    cases hu
  · obtain ⟨u, hu⟩ := r.ht p h
    rw [hp] at hu
    cases hu
abbrev Phi.add (φ : Phi) (p : Addr) : Phi := ⟨φ.c ++ [some p], φ.h⟩
/-- a new cell -/
theorem Ext.alloc {p : Addr} {o : HO} (hp : H p = none) : Ext φ H (φ.add p) (upd H p o) := by
  refine .mk' (by simp) (fun i o h => .inl ?_) (fun a u f h => ⟨by rw [upd_ne (ne_of_none h hp)]; exact h, fun i q => ?_, f.2⟩) fun a u f h => ⟨by rw [upd_ne (ne_of_none h hp)]; exact h, f⟩
  · obtain ⟨hi, e⟩ := List.getElem?_eq_some_iff.mp h
    show (φ.c ++ [some p])[i]? = _
    rw [List.getElem?_append_left hi]
    exact h
  · have q : (φ.c ++ [some p])[i]? = some (some a) := q
    by_cases hi : i < φ.c.length
    · rw [List.getElem?_append_left hi] at q
      exact f.1 i q
    · rw [List.getElem?_append_right (by omega)] at q
      have e : i - φ.c.length = 0 := by
        by_cases z : i - φ.c.length = 0
        · exact z
        · rw [List.getElem?_eq_none (by simp; omega)] at q
          cases q
      rw [e] at q
      have q2 : some (some p) = some (some a) := q
      cases q2
      rw [hp] at h
      cases h
theorem Rs.alloc {p : Addr} {o : HO} {c : Cell} (r : Rs K φ S H) (hp : H p = none) (hc : RC K (φ.add p) (upd H p o) (some (some p)) c) : Rs K (φ.add p) (S ++ [c]) (upd H p o) := by
  have hf := r.free hp
  have last : ∀ i : Nat, φ.c.length ≤ i → ∀ x, (φ.c ++ [some p])[i]? = some x → i = φ.c.length ∧ x = some p := fun i hi x h => by
    rw [List.getElem?_append_right hi] at h
    by_cases z : i - φ.c.length = 0
    · rw [z] at h
      have h2 : some (some p) = some x := h
      exact ⟨by omega, (Option.some.inj h2).symm⟩
    · rw [List.getElem?_eq_none (by simp; omega)] at h
      cases h
  have first : ∀ i : Nat, i < φ.c.length → (φ.c ++ [some p])[i]? = φ.c[i]? := fun i hi => List.getElem?_append_left hi
  refine ⟨by simp [r.len], fun i j a h1 h2 => ?_, fun i a h => ?_, fun a h => ?_, fun i d h => ?_⟩
  · have h1 : (φ.c ++ [some p])[i]? = some (some a) := h1
    have h2 : (φ.c ++ [some p])[j]? = some (some a) := h2
    by_cases hi : i < φ.c.length
    · rw [first i hi] at h1
      by_cases hj : j < φ.c.length
      · rw [first j hj] at h2
        exact r.nd i j a h1 h2
      · obtain ⟨_, e⟩ := last j (by omega) _ h2
        cases e
        exact absurd h1 (hf.1 i)
    · obtain ⟨ei, e⟩ := last i (by omega) _ h1
      cases e
      by_cases hj : j < φ.c.length
      · rw [first j hj] at h2
        exact absurd h2 (hf.1 j)
      · obtain ⟨ej, _⟩ := last j (by omega) _ h2
        omega
  · have h : (φ.c ++ [some p])[i]? = some (some a) := h
    by_cases hi : i < φ.c.length
    · rw [first i hi] at h
      obtain ⟨⟨u, hu⟩, n⟩ := r.tr i a h
      exact ⟨⟨u, by rw [upd_ne (ne_of_none hu hp)]; exact hu⟩, n⟩
    · obtain ⟨_, e⟩ := last i (by omega) _ h
      cases e
      exact ⟨⟨_, upd_same⟩, hf.2⟩
  · obtain ⟨u, hu⟩ := r.ht a h
    exact ⟨u, by rw [upd_ne (ne_of_none hu hp)]; exact hu⟩
  · show RC K (φ.add p) (upd H p o) (φ.c ++ [some p])[i]? d
    by_cases hi : i < S.length
    · rw [List.getElem?_append_left hi] at h
      rw [first i (by rw [r.len]; exact hi)]
      exact (r.cell i d h).ext (Ext.alloc hp) fun a u _ h2 => by rw [upd_ne (ne_of_none h2 hp)]; exact h2
    · rw [List.getElem?_append_right (by omega)] at h
      by_cases z : i - S.length = 0
      · rw [z] at h
        have h2 : some c = some d := h
        cases h2
        have e : i = φ.c.length := by rw [r.len]; omega
        rw [e, List.getElem?_append_right (Nat.le_refl _), Nat.sub_self]
        exact hc
      · rw [List.getElem?_eq_none (by simp; omega)] at h
        cases h
/-- a cell is changed -/
theorem Ext.write {p : Nat} {a : Addr} {o : HO} (r : Rs K φ S H) (hp : φ.c[p]? = some (some a)) : Ext φ H φ (upd H a o) :=
  .mk' (Nat.le_refl _) (fun _ _ h => .inl h) (fun b u f h => ⟨by rw [upd_ne (fun e => by subst e; exact f.1 p hp)]; exact h, f⟩) (fun b u f h => ⟨by rw [upd_ne (fun e => by subst e; exact (r.tr p _ hp).2 f)]; exact h, f⟩)
theorem Rs.write {p : Nat} {a : Addr} {o : HO} {c : Cell} (r : Rs K φ S H) (hp : φ.c[p]? = some (some a)) (hc : RC K φ (upd H a o) (some (some a)) c) : Rs K φ (S.set p c) (upd H a o) := by
  refine ⟨by simpa using r.len, r.nd, fun i b h => ?_, fun b h => ?_, fun i d h => ?_⟩
  · refine ⟨?_, (r.tr i b h).2⟩
    by_cases e : b = a
    · subst e; exact ⟨_, upd_same⟩
    · obtain ⟨⟨u, hu⟩, _⟩ := r.tr i b h
      exact ⟨u, by rw [upd_ne e]; exact hu⟩
  · by_cases e : b = a
    · subst e; exact ⟨_, upd_same⟩
    · obtain ⟨u, hu⟩ := r.ht b h
      exact ⟨u, by rw [upd_ne e]; exact hu⟩
  · by_cases e : p = i
    · subst e
      have hl : p < S.length := by
        rw [← r.len]
        exact (List.getElem?_eq_some_iff.mp hp).1
      rw [List.getElem?_set_self hl] at h
      cases h
      rw [hp]
      exact hc
    · rw [List.getElem?_set_ne e] at h
      refine (r.cell i d h).ext (Ext.write r hp) fun b u h1 h2 => ?_
      rw [upd_ne (fun z => by subst z; exact e (r.nd p i b hp h1))]
      exact h2
abbrev Phi.cut (φ : Phi) (p : Nat) : Phi := ⟨φ.c.set p none, φ.h⟩
theorem cut_low {p : Nat} (i : Nat) (a : Addr) (q : (φ.c.set p none)[i]? = some (some a)) : φ.c[i]? = some (some a) ∧ p ≠ i := by
  by_cases e : p = i
  · subst e
    by_cases hl : p < φ.c.length
    · rw [List.getElem?_set_self hl] at q
      cases q
    · rw [List.getElem?_eq_none (by simpa using hl)] at q
      cases q
  · rw [List.getElem?_set_ne e] at q
    exact ⟨q, e⟩
/-- a cell goes: its list is kept as it is from now on -/
theorem Ext.frz {p : Nat} : Ext φ H (φ.cut p) H := by
  refine .mk' (by simp) (fun i o h => ?_) (fun a u f h => ⟨h, fun i q => f.1 i (cut_low i a q).1, f.2⟩) fun a u f h => ⟨h, f⟩
  show (φ.c.set p none)[i]? = _ ∨ (φ.c.set p none)[i]? = _
  by_cases e : p = i
  · subst e
    have hl := (List.getElem?_eq_some_iff.mp h).1
    exact .inr (by rw [List.getElem?_set_self hl])
  · exact .inl (by rw [List.getElem?_set_ne e]; exact h)
theorem Rs.frz {p : Nat} (r : Rs K φ S H) : Rs K (φ.cut p) (S.set p .gone) H := by
  refine ⟨by simpa using r.len, fun i j a h1 h2 => r.nd i j a (cut_low i a h1).1 (cut_low j a h2).1, fun i a h => r.tr i a (cut_low i a h).1, r.ht, fun i d h => ?_⟩
  show RC K (φ.cut p) H (φ.c.set p none)[i]? d
  by_cases e : p = i
  · subst e
    have hl : p < S.length := by
      have := (List.getElem?_eq_some_iff.mp h).1
      simpa using this
    rw [List.getElem?_set_self hl] at h
    cases h
    show (φ.c.set p none)[p]? = some none
    rw [List.getElem?_set_self (by rw [r.len]; exact hl)]
  · rw [List.getElem?_set_ne e] at h
    rw [List.getElem?_set_ne e]
    exact (r.cell i d h).ext Ext.frz fun a u _ h2 => h2
theorem free_frz {p : Nat} {a : Addr} (r : Rs K φ S H) (hp : φ.c[p]? = some (some a)) : Free (φ.cut p) a := ⟨fun i q => (cut_low i a q).2 (r.nd p i a hp (cut_low i a q).1), (r.tr p a hp).2⟩
/-! a list that is just being made -/
abbrev Phi.hide (φ : Phi) (p : Addr) : Phi := ⟨φ.c, p :: φ.h⟩
theorem Ext.hide {p : Addr} {o : HO} (hp : H p = none) : Ext φ H (φ.hide p) (upd H p o) := by
  refine .mk' (Nat.le_refl _) (fun _ _ h => .inl h) (fun a u f h => ⟨by rw [upd_ne (ne_of_none h hp)]; exact h, f.1, fun z => ?_⟩) fun a u f h => ⟨by rw [upd_ne (ne_of_none h hp)]; exact h, List.mem_cons_of_mem _ f⟩
  rcases List.mem_cons.mp z with z | z
  · exact ne_of_none h hp z
  · exact f.2 z
theorem Rs.hide {p : Addr} {o : HO} (r : Rs K φ S H) (hp : H p = none) : Rs K (φ.hide p) S (upd H p o) :=
  ⟨r.len, r.nd, fun i a h => by
    obtain ⟨⟨u, hu⟩, n⟩ := r.tr i a h
    exact ⟨⟨u, by rw [upd_ne (ne_of_none hu hp)]; exact hu⟩, fun z => by
      rcases List.mem_cons.mp z with z | z
      · exact ne_of_none hu hp z
      · exact n z⟩, fun a h => by
    rcases List.mem_cons.mp h with z | z
    · subst z; exact ⟨_, upd_same⟩
    · obtain ⟨u, hu⟩ := r.ht a z
      exact ⟨u, by rw [upd_ne (ne_of_none hu hp)]; exact hu⟩, fun i c h => (r.cell i c h).ext (Ext.hide hp) fun a u _ h2 => by rw [upd_ne (ne_of_none h2 hp)]; exact h2⟩
/-- it grows -/
theorem Ext0.hwrite {p : Addr} {o : HO} (hp : p ∈ φ.h) : Ext0 φ H φ (upd H p o) :=
  ⟨Nat.le_refl _, fun _ _ h => .inl h, fun a u f h => ⟨by rw [upd_ne (fun z => by subst z; exact f.2 hp)]; exact h, f⟩⟩
theorem Ext.hwrite {φ1 : Phi} {H1 : Hp} {p : Addr} {o : HO} (e : Ext φ1 H1 φ H) (hp : H1 p = none) : Ext φ1 H1 φ (upd H p o) :=
  .mk' e.len e.pre (fun a u f h => ⟨by rw [upd_ne (ne_of_none h hp)]; exact (e.keep a u f h).1, (e.keep a u f h).2⟩) fun a u f h => ⟨by rw [upd_ne (ne_of_none h hp)]; exact (e.hid a u f h).1, (e.hid a u f h).2⟩
theorem RC.ext0 {o : Option (Option Addr)} (e : Ext0 φ H φ' H') (k : ∀ a u, o = some (some a) → H a = some u → H' a = some u) : ∀ {c : Cell}, RC K φ H o c → RC K φ' H' o c
  | .lst ds, ⟨a, xs, h1, h2, h3⟩ => ⟨a, xs, h1, k _ _ h1 h2, h3.ext0 e⟩
  | .dk kvs, ⟨a, xs, h1, h2, h3, h4⟩ => ⟨a, xs, h1, k _ _ h1 h2, h3, h4.ext0 e⟩
  | .dt kvs, ⟨a, xs, h1, h2, h3, h4⟩ => ⟨a, xs, h1, k _ _ h1 h2, h3, h4.ext0 e⟩
  | .gone, h => h
theorem Rs.hwrite {p : Addr} {o : HO} (r : Rs K φ S H) (hp : p ∈ φ.h) : Rs K φ S (upd H p o) := by
  have ne : ∀ i a, φ.c[i]? = some (some a) → a ≠ p := fun i a h z => by
    subst z
    exact (r.tr i a h).2 hp
  refine ⟨r.len, r.nd, fun i a h => ?_, fun a h => ?_, fun i c h => (r.cell i c h).ext0 (Ext0.hwrite hp) fun a u h1 h2 => by rw [upd_ne (ne i a h1)]; exact h2⟩
  · obtain ⟨⟨u, hu⟩, n⟩ := r.tr i a h
    exact ⟨⟨u, by rw [upd_ne (ne i a h)]; exact hu⟩, n⟩
  · by_cases z : a = p
    · subst z; exact ⟨_, upd_same⟩
    · obtain ⟨u, hu⟩ := r.ht a h
      exact ⟨u, by rw [upd_ne z]; exact hu⟩
/-- it is made: kept from now on, or a cell -/
abbrev Phi.bare (φ : Phi) (p : Addr) : Phi := ⟨φ.c, φ.h.filter fun a => decide (a ≠ p)⟩
abbrev Phi.bareA (φ : Phi) (p : Addr) : Phi := ⟨φ.c ++ [some p], φ.h.filter fun a => decide (a ≠ p)⟩
theorem mem_bare {p a : Addr} : a ∈ (φ.h.filter fun a => decide (a ≠ p)) ↔ a ∈ φ.h ∧ a ≠ p := by simp [List.mem_filter]
theorem Ext0.bare {p : Addr} : Ext0 φ H (φ.bare p) H := ⟨Nat.le_refl _, fun _ _ h => .inl h, fun a u f h => ⟨h, f.1, fun z => f.2 (mem_bare.mp z).1⟩⟩
theorem Ext.bare {φ1 : Phi} {H1 : Hp} {p : Addr} (e : Ext φ1 H1 φ H) (hp : H1 p = none) : Ext φ1 H1 (φ.bare p) H :=
  .mk' e.len e.pre (fun a u f h => ⟨(e.keep a u f h).1, (e.keep a u f h).2.1, fun z => (e.keep a u f h).2.2 (mem_bare.mp z).1⟩) fun a u f h => ⟨(e.hid a u f h).1, mem_bare.mpr ⟨(e.hid a u f h).2, ne_of_none h hp⟩⟩
theorem Rs.bare {p : Addr} (r : Rs K φ S H) : Rs K (φ.bare p) S H :=
  ⟨r.len, r.nd, fun i a h => ⟨(r.tr i a h).1, fun z => (r.tr i a h).2 (mem_bare.mp z).1⟩, fun a h => r.ht a (mem_bare.mp h).1, fun i c h => (r.cell i c h).ext0 Ext0.bare fun _ _ _ h2 => h2⟩
theorem free_bare {p : Addr} (r : Rs K φ S H) (hp : p ∈ φ.h) : Free (φ.bare p) p := ⟨fun i h => (r.tr i p h).2 hp, fun z => (mem_bare.mp z).2 rfl⟩
theorem add_low {p : Addr} {i : Nat} {x : Option Addr} (h : (φ.c ++ [some p])[i]? = some x) : φ.c[i]? = some x ∨ (i = φ.c.length ∧ x = some p) := by
  by_cases hi : i < φ.c.length
  · rw [List.getElem?_append_left hi] at h
    exact .inl h
  · rw [List.getElem?_append_right (by omega)] at h
    by_cases z : i - φ.c.length = 0
    · rw [z] at h
      have h2 : some (some p) = some x := h
      exact .inr ⟨by omega, (Option.some.inj h2).symm⟩
    · rw [List.getElem?_eq_none (by simp; omega)] at h
      cases h
theorem add_up {p : Addr} {i : Nat} {x : Option Addr} (h : φ.c[i]? = some x) : (φ.c ++ [some p])[i]? = some x := by
  rw [List.getElem?_append_left (List.getElem?_eq_some_iff.mp h).1]
  exact h
theorem Ext0.bareA {p : Addr} (hp : p ∈ φ.h) : Ext0 φ H (φ.bareA p) H := ⟨by simp, fun _ _ h => .inl (add_up h), fun a u f h => ⟨h, fun i z => by
  rcases add_low z with z | ⟨_, z⟩
  · exact f.1 i z
  · cases z; exact f.2 hp, fun z => f.2 (mem_bare.mp z).1⟩⟩
theorem Ext.bareA {φ1 : Phi} {H1 : Hp} {p : Addr} (e : Ext φ1 H1 φ H) (hp : H1 p = none) (hq : p ∈ φ.h) : Ext φ1 H1 (φ.bareA p) H := by
  refine .mk' (by simpa using Nat.le_succ_of_le e.len) (fun i o h => ?_) (fun a u f h => ⟨(e.keep a u f h).1, fun i z => ?_, fun z => (e.keep a u f h).2.2 (mem_bare.mp z).1⟩) fun a u f h => ⟨(e.hid a u f h).1, mem_bare.mpr ⟨(e.hid a u f h).2, ne_of_none h hp⟩⟩
  · rcases e.pre i o h with z | z
    · exact .inl (add_up z)
    · exact .inr (add_up z)
  · rcases add_low z with z | ⟨_, z⟩
    · exact (e.keep a u f h).2.1 i z
    · cases z; exact ne_of_none h hp rfl
theorem Rs.bareA {p : Addr} {xs : List V} {ds : List D} (r : Rs K φ S H) (hp : p ∈ φ.h) (hx : H p = some (.lst xs)) (hr : Rvs K φ H xs ds) : Rs K (φ.bareA p) (S ++ [.lst ds]) H := by
  refine ⟨by simp [r.len], fun i j a h1 h2 => ?_, fun i a h => ?_, fun a h => r.ht a (mem_bare.mp h).1, fun i c h => ?_⟩
  · rcases add_low h1 with z1 | ⟨e1, z1⟩
    · rcases add_low h2 with z2 | ⟨e2, z2⟩
      · exact r.nd i j a z1 z2
      · cases z2
        exact absurd hp (r.tr i p z1).2
    · cases z1
      rcases add_low h2 with z2 | ⟨e2, z2⟩
      · exact absurd hp (r.tr j p z2).2
      · omega
  · rcases add_low h with z | ⟨e, z⟩
    · exact ⟨(r.tr i a z).1, fun q => (r.tr i a z).2 (mem_bare.mp q).1⟩
    · cases z
      exact ⟨⟨_, hx⟩, fun q => (mem_bare.mp q).2 rfl⟩
  · show RC K (φ.bareA p) H (φ.c ++ [some p])[i]? c
    by_cases hi : i < S.length
    · rw [List.getElem?_append_left hi] at h
      rw [List.getElem?_append_left (by rw [r.len]; exact hi)]
      exact (r.cell i c h).ext0 (Ext0.bareA hp) fun _ _ _ h2 => h2
    · rw [List.getElem?_append_right (by omega)] at h
      by_cases z : i - S.length = 0
      · rw [z] at h
        have h2 : some (Cell.lst ds) = some c := h
        cases h2
        have e : i = φ.c.length := by rw [r.len]; omega
        rw [e, List.getElem?_append_right (Nat.le_refl _), Nat.sub_self]
        exact ⟨p, xs, rfl, hx, hr.ext0 (Ext0.bareA hp)⟩
      · rw [List.getElem?_eq_none (by simp; omega)] at h
        cases h
end
/-! ### the slots -/
def RE (K : PySem.W.Frag) (φ : Phi) (H : Hp) (δ : Env) (σ : L2.St) : Prop := δ.length = σ.length ∧ ∀ (i : Nat) (d : D), δ[i]? = some (some d) → ∃ v, σ[i]? = some (some v) ∧ Rv K φ H v d
section
variable {K : PySem.W.Frag} {φ φ' : Phi} {H H' : Hp} {S : Store} {δ : Env} {σ : L2.St}
theorem RE.ext (e : Ext φ H φ' H') (r : RE K φ H δ σ) : RE K φ' H' δ σ := ⟨r.1, fun i d h => by
  obtain ⟨v, h1, h2⟩ := r.2 i d h
  exact ⟨v, h1, h2.ext e⟩⟩
theorem RE.set {i : Nat} {d : D} {v : V} (r : RE K φ H δ σ) (q : Rv K φ H v d) : RE K φ H (δ.set i (some d)) (σ.set i (some v)) := ⟨by simpa using r.1, fun j e h => by
  by_cases z : i = j
  · subst z
    have hl : i < δ.length := by
      have := (List.getElem?_eq_some_iff.mp h).1
      simpa using this
    rw [List.getElem?_set_self hl] at h
    cases h
    exact ⟨v, by rw [List.getElem?_set_self (by rw [← r.1]; exact hl)], q⟩
  · rw [List.getElem?_set_ne z] at h
    rw [List.getElem?_set_ne z]
    exact r.2 j e h⟩
theorem RE.setN {i : Nat} (r : RE K φ H δ σ) : RE K φ H (δ.set i none) (σ.set i none) := ⟨by simpa using r.1, fun j e h => by
  by_cases z : i = j
  · subst z
    have hl : i < δ.length := by
      have := (List.getElem?_eq_some_iff.mp h).1
      simpa using this
    rw [List.getElem?_set_self hl] at h
    cases h
  · rw [List.getElem?_set_ne z] at h
    rw [List.getElem?_set_ne z]
    exact r.2 j e h⟩
theorem RE.wipe : ∀ {own : List Nat}, RE K φ H δ σ → RE K φ H (wipeD δ own) (wipe σ own)
  | [], r => r
  | v :: vs, r => by
    unfold wipeD L2.wipe
    exact (RE.wipe r).setN
end
end Z

/-! Z, part C: expressions keep what their run says. -/
namespace Z
open PySem PySem.Spec PyProof.Rows L2
abbrev St := L2.St
/-- an exception's own dict -/
def Xd (K : PySem.W.Frag) (φ : Phi) (H : Hp) (a : D) (dd : Option Addr) : Prop := match a with
  | .non => dd = none
  | a => ∃ p v, dd = some p ∧ H p = some (.xd [("row", v)]) ∧ Rv K φ H v a
/-- what a run promises of the values behind it -/
def OutG {α β : Type} (rel : Phi → Hp → β → α → Prop) (K : PySem.W.Frag) (ec : Nat → Value) (W : WX) (σ : St) (φ : Phi) (H : Hp) (r : R α) (Q : β → Hp → Prop) : Prop := match r with
  | .ok d S' => ∀ φ' v H', Ext φ H φ' H' → Rs K φ' S' H' → rel φ' H' v d → Q v H'
  | .exc c a S' => ∀ φ' H' dd, Ext φ H φ' H' → Rs K φ' S' H' → Xd K φ' H' a dd → W (ec c) dd σ H'
  | .stuck => False
section
variable {α β γ ε : Type} {rel : Phi → Hp → β → α → Prop} {rel' : Phi → Hp → γ → ε → Prop} {K : PySem.W.Frag} {ec : Nat → Value} {W : WX} {σ : St} {φ φ1 : Phi} {H H1 : Hp} {r : R α} {Q : β → Hp → Prop}
theorem OutG.ext (e : Ext φ H φ1 H1) (h : OutG rel K ec W σ φ H r Q) : OutG rel K ec W σ φ1 H1 r Q := by
  cases r with
  | ok d S' => exact fun φ' v H' e' => h φ' v H' (e.trans e')
  | exc c a S' => exact fun φ' H' dd e' => h φ' H' dd (e.trans e')
  | stuck => exact h
theorem OutG.bind {k : α → Store → R ε} {Q' : γ → Hp → Prop} (h : OutG rel' K ec W σ φ H (r.bind k) Q') :
    OutG rel K ec W σ φ H r fun v H1 => ∃ φ1 x S1, Ext φ H φ1 H1 ∧ Rs K φ1 S1 H1 ∧ rel φ1 H1 v x ∧ OutG rel' K ec W σ φ1 H1 (k x S1) Q' := by
  cases r with
  | ok d S' => exact fun φ' v H' e' rs rv => ⟨φ', d, S', e', rs, rv, OutG.ext e' h⟩
  | exc c a S' => exact h
  | stuck => exact h
theorem OutG.mono {Q' : β → Hp → Prop} (h : OutG rel K ec W σ φ H r Q) (k : ∀ v H', Q v H' → Q' v H') : OutG rel K ec W σ φ H r Q' := by
  cases r with
  | ok d S' => exact fun φ' v H' e' rs rv => k _ _ (h φ' v H' e' rs rv)
  | exc c a S' => exact h
  | stuck => exact h
end
abbrev Out (K : PySem.W.Frag) (ec : Nat → Value) (W : WX) (σ : St) (φ : Phi) (H : Hp) (r : R D) (Q : VK) : Prop := OutG (Rv K) K ec W σ φ H r Q
/-- the readings: of an expression, of several, of a test -/
def rdE (K : PySem.W.Frag) (ec : Nat → Value) (F : Fn) (W : WX) (c : CE) : TE := fun σ H Q => ∃ φ δ S, Rs K φ S H ∧ RE K φ H δ σ ∧ OutG (Rv K) K ec W σ φ H (ev F c δ S) Q
def rdA (K : PySem.W.Frag) (ec : Nat → Value) (F : Fn) (W : WX) (c : CE) : TA := fun σ H Q => ∃ φ δ S, Rs K φ S H ∧ RE K φ H δ σ ∧ OutG (Rvs K) K ec W σ φ H (evs F c δ S) Q
def relB (_ : Phi) (_ : Hp) (b : Bool) (d : D) : Prop := d = .bl b
def rdT (K : PySem.W.Frag) (ec : Nat → Value) (F : Fn) (W : WX) (c : CE) : TT := fun σ H Q => ∃ φ δ S, Rs K φ S H ∧ RE K φ H δ σ ∧ (∀ d S', ev F c δ S = .ok d S' → ∃ b, d = .bl b) ∧ OutG relB K ec W σ φ H (ev F c δ S) Q
def GE (X : Cx) (ec : Nat → Value) (F : Fn) (W : WX) (e : Expr) (c : CE) : Prop := PE X e (rdE X.K ec F W c)
def GA (X : Cx) (ec : Nat → Value) (F : Fn) (W : WX) (es : List Expr) (c : CE) : Prop := PA X es (rdA X.K ec F W c)
def GT (X : Cx) (ec : Nat → Value) (F : Fn) (W : WX) (e : Expr) (c : CE) : Prop := PT X e (rdT X.K ec F W c)
theorem PE.imp {X : Cx} {e : Expr} {t t' : TE} (h : PE X e t) (k : ∀ σ H Q, t' σ H Q → t σ H Q) : PE X e t' := ⟨fun pins s σ H Q I q => h.run pins s σ H Q I (k σ H Q q)⟩
theorem PA.imp {X : Cx} {e : List Expr} {t t' : TA} (h : PA X e t) (k : ∀ σ H Q, t' σ H Q → t σ H Q) : PA X e t' := ⟨fun pos pins s σ H Q I q => h.run pos pins s σ H Q I (k σ H Q q)⟩
theorem PT.imp {X : Cx} {e : Expr} {t t' : TT} (h : PT X e t) (k : ∀ σ H Q, t' σ H Q → t σ H Q) : PT X e t' := ⟨fun pins s σ H Q I q => h.run pins s σ H Q I (k σ H Q q)⟩
theorem PW.imp {X : Cx} {e : Expr} {t t' : TT} (h : PW X e t) (k : ∀ σ H Q, t' σ H Q → t σ H Q) : PW X e t' := ⟨fun wh pins s σ H Q I q => h.run wh pins s σ H Q I (k σ H Q q)⟩
/-- an operation by values that leaves the store as it is -/
def OV (K : PySem.W.Frag) (φ : Phi) (S : Store) (H : Hp) (o : Option D) (Q : VK) : Prop := match o with
  | some d => ∀ v H', Ext φ H φ H' → Rs K φ S H' → Rv K φ H' v d → Q v H'
  | none => False
section
variable {K : PySem.W.Frag} {ec : Nat → Value} {W : WX} {σ : St} {φ : Phi} {S : Store} {H : Hp} {o : Option D} {Q : VK}
theorem OutG.ov (h : OutG (Rv K) K ec W σ φ H (R.opt o S) Q) : OV K φ S H o Q := by
  cases o with
  | some d => exact fun v H' e rs rv => h φ v H' e rs rv
  | none => exact h
theorem OV.same {d : D} {v : V} (h : OV K φ S H (some d) Q) (rs : Rs K φ S H) (r : Rv K φ H v d) : Q v H := h v H (Ext.refl _ _) rs r
theorem OV.new {ds : List D} {xs : List V} {p : Addr} (h : OV K φ S H (some (.tup ds)) Q) (rs : Rs K φ S H) (r : Rvs K φ H xs ds) (hp : H p = none) : Q (.ref p) (upd H p (.tup xs)) :=
  h _ _ (Ext.fresh hp) (rs.fresh hp) (.tup (.inl ⟨upd_same, rs.free hp⟩) (r.ext (Ext.fresh hp)))
theorem OV.newL {ds : List D} {xs : List V} {p : Addr} (h : OV K φ S H (some (.lst ds)) Q) (rs : Rs K φ S H) (r : Rvs K φ H xs ds) (hp : H p = none) : Q (.ref p) (upd H p (.lst xs)) :=
  h _ _ (Ext.fresh hp) (rs.fresh hp) (.lst upd_same (rs.free hp) (r.ext (Ext.fresh hp)))
end
/-- what a sequence is in the heap -/
theorem seqL_at {K : PySem.W.Frag} {φ : Phi} {S : Store} {H : Hp} {v : V} {d : D} {ds : List D} (rs : Rs K φ S H) (r : Rv K φ H v d) (h : seqL S d = some ds) : ∃ a xs, v = .ref a ∧ H a = some (.lst xs) ∧ Rvs K φ H xs ds := by
  cases r with
  | lst h1 h2 h3 =>
    cases h
    exact ⟨_, _, rfl, h1, h3⟩
  | ref h1 h2 =>
    rename_i a i o
    unfold seqL at h
    cases e : S[i]? with
    | none => simp [e] at h
    | some c =>
      cases c with
      | lst es =>
        simp [e] at h
        subst h
        obtain ⟨b, xs, e1, e2, e3⟩ := rs.cell i _ e
        rw [h1] at e1
        cases e1
        rcases h2 with h2 | h2
        · cases h2
        · cases h2
          exact ⟨_, _, rfl, e2, e3⟩
      | _ => simp [e] at h
  | _ => cases h
theorem seqOf_at {K : PySem.W.Frag} {φ : Phi} {S : Store} {H : Hp} {v : V} {d : D} {ds : List D} (rs : Rs K φ S H) (r : Rv K φ H v d) (h : seqOf S d = some ds) : ∃ a xs, v = .ref a ∧ (SqL K H a xs ∨ SqT K H a xs) ∧ Rvs K φ H xs ds := by
  cases r with
  | tup h1 h2 =>
    cases h
    exact ⟨_, _, rfl, .inr h1.sq, h2⟩
  | lst h1 h2 h3 =>
    cases h
    exact ⟨_, _, rfl, .inl (SqL.of h1), h3⟩
  | scr h1 h3 =>
    cases h
    exact ⟨_, _, rfl, .inl h1.sq, h3⟩
  | ref h1 h2 =>
    obtain ⟨a, xs, e1, e2, e3⟩ := seqL_at rs (.ref h1 h2) (show seqL S (.ref _) = some ds from h)
    exact ⟨a, xs, e1, .inl (SqL.of e2), e3⟩
  | _ => cases h
/-! as data -/
section
variable {K : PySem.W.Frag} {φ : Phi} {S : Store} {H : Hp}
mutual
theorem py_at : ∀ {v : V} {d : D} {x : PyData}, Rv K φ H v d → py d = some x → Dp K H v x
  | _, _, _, .non, h => by
    unfold py at h
    cases h
    exact .non
  | _, _, _, .bl b, h => by
    unfold py at h
    cases h
    exact .bl b
  | _, _, _, .int i, h => by
    unfold py at h
    cases h
    exact .int i
  | _, _, _, .str i, h => by
    unfold py at h
    cases h
    exact .str i
  | _, _, _, .tup (ds := ds) t r, h => by
    unfold py at h
    cases e : pys ds with
    | none => rw [e] at h; cases h
    | some xs =>
      rw [e] at h
      cases h
      exact .tup t.sq (pys_at r e)
  | _, _, _, .lst (ds := ds) h1 h2 r, h => by
    unfold py at h
    cases e : pys ds with
    | none => rw [e] at h; cases h
    | some xs =>
      rw [e] at h
      cases h
      exact .lst (SqL.of h1) (pys_at r e)
  | _, _, _, .scr _ _, h => by unfold py at h; cases h
  | _, _, _, .edic _ _, h => by unfold py at h; cases h
  | _, _, _, .ref _ _, h => by unfold py at h; cases h
theorem pys_at : ∀ {vs : List V} {ds : List D} {xs : List PyData}, Rvs K φ H vs ds → pys ds = some xs → DpAll K H vs xs
  | _, _, _, .nil, h => by
    unfold pys at h
    cases h
    exact .nil
  | _, _, _, .cons (d := d) (ds := ds) r rs, h => by
    unfold pys at h
    cases e : py d with
    | none => simp [e] at h
    | some x =>
      cases e2 : pys ds with
      | none => simp [e, e2] at h
      | some xs =>
        simp [e, e2] at h
        subst h
        exact .cons (py_at r e) (pys_at rs e2)
end
theorem pyS_at {v : V} {d : D} {x : PyData} (rs : Rs K φ S H) (r : Rv K φ H v d) (h : pyS S d = some x) : Dp K H v x := by
  cases r with
  | ref h1 h2 =>
    rename_i a i o
    unfold pyS at h
    cases e : S[i]? with
    | none => simp [e] at h
    | some c =>
      cases c with
      | lst ds =>
        simp [e] at h
        cases e2 : pys ds with
        | none => simp [e2] at h
        | some xs =>
          simp [e2] at h
          subst h
          obtain ⟨b, ys, e3, e4, e5⟩ := seqL_at rs (.ref h1 h2) (show seqL S (.ref i) = some ds by unfold seqL; simp [e])
          cases e3
          exact .lst (SqL.of e4) (pys_at e5 e2)
      | _ => simp [e] at h
  | non => exact py_at (φ := φ) .non h
  | bl b => exact py_at (φ := φ) (.bl b) h
  | int b => exact py_at (φ := φ) (.int b) h
  | str b => exact py_at (φ := φ) (.str b) h
  | tup a b => exact py_at (.tup a b) h
  | lst a b c => exact py_at (.lst a b c) h
  | scr a b => exact py_at (.scr a b) h
  | edic a b => exact py_at (.edic a b) h
theorem shapedO_of {o : Option PyData} {x : PyData} (h : shapedO o = some x) : o = some x ∧ SeqAt.shaped x = true := by
  cases o with
  | none => cases h
  | some y =>
    unfold shapedO at h
    by_cases e : SeqAt.shaped y = true
    · simp [e] at h
      subst h
      exact ⟨rfl, e⟩
    · simp [e] at h
end
end Z

/-! Z, part D: operations by values. -/
namespace Z
open PySem PySem.Spec PyProof.Rows L2 Classical
/-- a two-place operation, by data -/
def rB (K : PySem.W.Frag) (f : D → D → Store → Option D) : R2 := fun x y H Q => ∃ φ S a b, Rs K φ S H ∧ Rv K φ H x a ∧ Rv K φ H y b ∧ OV K φ S H (f a b S) Q
theorem MulOk.ok {i j : Int} (h : MulOk i j) : IntMulOk i j := by
  rcases h with h | h | h
  · exact CMulW.ok h
  · exact .of_left (intBits_le_64 h.1 h.2)
  · exact .of_right (intBits_le_64 h.1 h.2)
section
variable {X : Cx}
theorem OpR.imp {f : Value → Value → Sem Value} {r r' : R2} (h : OpR X f r) (k : ∀ x y H Q, r' x y H Q → r x y H Q) : OpR X f r' := fun pins s σ H x y v u Q I rx ry q => h pins s σ H x y v u Q I rx ry (k _ _ _ _ q)
theorem op_mulZ : OpR X (binaryOp .Mult) (rI MulOk fun i j => .int (i * j)) := opI fun _ _ _ _ _ _ _ hc q => mul_int q hc.ok
theorem z_add : OpR X (binaryOp .Add) (rB X.K fun x y S => addEv S x y) := by
  have h := (op_add (X := X)).or ((op_add_str (X := X)).or ((op_catA (X := X)).or (op_cat (X := X))))
  refine OpR.imp h fun x y H Q ⟨φ, S, a, b, rs, ra, rb, q⟩ => ?_
  have lst : ∀ xs ys, seqL S a = some xs → seqL S b = some ys → OV X.K φ S H (catEv S a b) Q → rCat x y H Q := fun xs ys e1 e2 q => by
    obtain ⟨l, vs, rfl, h1, r1⟩ := seqL_at rs ra e1
    obtain ⟨m, ws, rfl, h2, r2⟩ := seqL_at rs rb e2
    unfold catEv at q
    simp only [e1, e2] at q
    by_cases hz : xs.length + ys.length ≤ sizeLine
    · rw [if_pos hz] at q
      exact ⟨l, m, vs, ws, rfl, rfl, h1, h2, by rw [r1.len, r2.len]; exact hz, fun p hp => OV.newL q rs (r1.app r2) hp⟩
    · rw [if_neg hz] at q
      exact q.elim
  have cat : ∀ {a b : D}, OV X.K φ S H (catEv S a b) Q → ∃ xs ys, seqL S a = some xs ∧ seqL S b = some ys := fun {a b} q => by
    unfold catEv at q
    cases e1 : seqL S a with
    | none => simp only [e1] at q; exact q.elim
    | some xs =>
      cases e2 : seqL S b with
      | none => simp only [e1, e2] at q; exact q.elim
      | some ys => exact ⟨xs, ys, rfl, rfl⟩
  cases ra with
  | int i =>
    cases rb with
    | int j => exact .inl ⟨i, j, rfl, rfl, OV.same q rs (.int _)⟩
    | _ => exact q.elim
  | str i =>
    cases rb with
    | str j =>
      have q' : OV X.K φ S H (if i.length + j.length ≤ sizeLine then some (.str (i ++ j)) else none) Q := q
      by_cases hz : i.length + j.length ≤ sizeLine
      · rw [if_pos hz] at q'
        exact .inr (.inl ⟨i, j, rfl, rfl, hz, OV.same q' rs (.str _)⟩)
      · rw [if_neg hz] at q'
        exact q'.elim
    | _ => exact q.elim
  | @tup a xs ds t r =>
    cases rb with
    | @tup b ys es t2 r2 =>
      have q' : OV X.K φ S H (if ds.length + es.length ≤ sizeLine then some (.tup (ds ++ es)) else none) Q := q
      by_cases hz : ds.length + es.length ≤ sizeLine
      · rw [if_pos hz] at q'
        refine .inr (.inr (.inl ⟨a, b, xs, ys, rfl, rfl, t.sq, t2.sq, by rw [r.len, r2.len]; exact hz, fun e => ?_, fun _ e => ?_, fun _ _ p hp => OV.new q' rs (r.app r2) hp⟩))
        · subst e
          cases r
          exact OV.same q' rs (.tup t2 r2)
        · subst e
          cases r2
          rw [List.append_nil] at q'
          exact OV.same q' rs (.tup t r)
      · rw [if_neg hz] at q'
        exact q'.elim
    | _ => exact q.elim
  | lst h1 h2 h3 =>
    have q' := q
    unfold addEv at q'
    obtain ⟨xs, ys, e1, e2⟩ := cat q'
    exact .inr (.inr (.inr (lst xs ys e1 e2 q')))
  | ref h1 h2 =>
    have q' := q
    unfold addEv at q'
    obtain ⟨xs, ys, e1, e2⟩ := cat q'
    exact .inr (.inr (.inr (lst xs ys e1 e2 q')))
  | _ => exact q.elim
theorem z_mul : OpR X (binaryOp .Mult) (rB X.K fun x y S => mulEv S x y) := by
  have h := (op_mulZ (X := X)).or ((op_repT (X := X)).or (op_rep (X := X)))
  refine OpR.imp h fun x y H Q ⟨φ, S, a, b, rs, ra, rb, q⟩ => ?_
  have lst : ∀ k, y = .int k → OV X.K φ S H (repEv S a k) Q → rRep x y H Q := fun k ey q => by
    unfold repEv at q
    cases e1 : seqL S a with
    | none => simp only [e1] at q; exact q.elim
    | some xs =>
      obtain ⟨l, vs, rfl, h1, r1⟩ := seqL_at rs ra e1
      simp only [e1] at q
      by_cases hz : -(2 ^ 63) ≤ k ∧ k < 2 ^ 63 ∧ xs.length * k.toNat ≤ sizeLine
      · rw [if_pos hz] at q
        exact ⟨l, k, vs, rfl, ey, h1, hz.1, hz.2.1, by rw [r1.len]; exact hz.2.2, fun p hp => OV.newL q rs (r1.rep _) hp⟩
      · rw [if_neg hz] at q
        exact q.elim
  cases rb with
  | int j =>
    cases ra with
    | int i =>
      have q' : OV X.K φ S H (if MulOk i j then some (.int (i * j)) else none) Q := q
      by_cases hz : MulOk i j
      · rw [if_pos hz] at q'
        exact .inl ⟨i, j, rfl, rfl, hz, OV.same q' rs (.int _)⟩
      · rw [if_neg hz] at q'
        exact q'.elim
    | @tup a xs ds t r =>
      have q' : OV X.K φ S H (if ds ≠ [] ∧ 2 ≤ j ∧ j ≤ 1000 ∧ ds.length ≤ 1000 then some (.tup (List.replicate j.toNat ds).flatten) else none) Q := q
      by_cases hz : ds ≠ [] ∧ 2 ≤ j ∧ j ≤ 1000 ∧ ds.length ≤ 1000
      · rw [if_pos hz] at q'
        refine .inr (.inl ⟨a, j, xs, rfl, rfl, t.sq, fun e => ?_, hz.2.1, hz.2.2.1, by rw [r.len]; exact hz.2.2.2, fun p hp => OV.new q' rs (r.rep _) hp⟩)
        subst e
        cases r
        exact hz.1 rfl
      · rw [if_neg hz] at q'
        exact q'.elim
    | lst h1 h2 h3 => exact .inr (.inr (lst j rfl q))
    | ref h1 h2 => exact .inr (.inr (lst j rfl q))
    | _ => exact q.elim
  | _ => cases ra <;> exact q.elim
def bopOp : Bop → Operator
  | .add => .Add
  | .sub => .Sub
  | .mul => .Mult
  | .fdiv => .FloorDiv
  | .mod => .Mod
  | .pow => .Pow
theorem opInt {op : Operator} {C : Int → Int → Prop} {g : Int → Int → Int} {f : D → D → Store → Option D} (h : OpR X (binaryOp op) (rI C fun i j => .int (g i j)))
    (k : ∀ a b S d, f a b S = some d → ∃ i j, a = .int i ∧ b = .int j ∧ C i j ∧ d = .int (g i j)) : OpR X (binaryOp op) (rB X.K f) := by
  refine OpR.imp h fun x y H Q ⟨φ, S, a, b, rs, ra, rb, q⟩ => ?_
  cases e : f a b S with
  | none => rw [e] at q; exact q.elim
  | some d =>
    obtain ⟨i, j, rfl, rfl, hc, rfl⟩ := k a b S d e
    rw [e] at q
    cases ra
    cases rb
    exact ⟨i, j, rfl, rfl, hc, OV.same q rs (.int _)⟩
theorem z_bin (op : Bop) : OpR X (binaryOp (bopOp op)) (rB X.K (binEv op)) := by
  cases op with
  | add => exact z_add
  | sub =>
    refine opInt (C := fun _ _ => True) (g := fun i j => i - j) (OpR.imp (op_sub (X := X)) fun x y H Q ⟨i, j, h1, h2, _, h3⟩ => ⟨i, j, h1, h2, h3⟩) fun a b S d e => ?_
    cases a <;> cases b <;> cases e
    exact ⟨_, _, rfl, rfl, trivial, rfl⟩
  | mul => exact z_mul
  | fdiv =>
    refine opInt (op_fdivW (X := X)) fun a b S d e => ?_
    cases a <;> cases b <;> first | (cases e; done) | skip
    rename_i i j
    have e' : (if DivOk i j then some (D.int (i / j)) else none) = some d := e
    by_cases h : DivOk i j
    · rw [if_pos h] at e'
      cases e'
      exact ⟨_, _, rfl, rfl, h, rfl⟩
    · rw [if_neg h] at e'
      cases e'
  | mod =>
    refine opInt (op_mod (X := X)) fun a b S d e => ?_
    cases a <;> cases b <;> first | (cases e; done) | skip
    rename_i i j
    have e' : (if 0 < j then some (D.int (i % j)) else none) = some d := e
    by_cases h : 0 < j
    · rw [if_pos h] at e'
      cases e'
      exact ⟨_, _, rfl, rfl, h, rfl⟩
    · rw [if_neg h] at e'
      cases e'
  | pow =>
    refine opInt (op_pow (X := X)) fun a b S d e => ?_
    cases a <;> cases b <;> first | (cases e; done) | skip
    rename_i i j
    have e' : (if 0 ≤ j ∧ j ≤ 1000000 ∧ i.natAbs < 2 ^ 64 then some (D.int (i ^ j.toNat)) else none) = some d := e
    by_cases h : 0 ≤ j ∧ j ≤ 1000000 ∧ i.natAbs < 2 ^ 64
    · rw [if_pos h] at e'
      cases e'
      exact ⟨_, _, rfl, rfl, h, rfl⟩
    · rw [if_neg h] at e'
      cases e'
/-! ### comparisons -/
def copOp : Cop → CmpOp
  | .eq => .Eq
  | .ne => .NotEq
  | .lt => .Lt
  | .le => .LtE
  | .gt => .Gt
  | .ge => .GtE
  | .is => .Is
  | .isnot => .IsNot
  | .isin => .In
  | .notin => .NotIn
theorem eqEv_at {K : PySem.W.Frag} {φ : Phi} {S : Store} {H : Hp} {x y : V} {a b : D} {r : Bool} (rs : Rs K φ S H) (ra : Rv K φ H x a) (rb : Rv K φ H y b) (h : eqEv S a b = some r) :
    ∃ d e, Dp K H x d ∧ Dp K H y e ∧ SeqAt.shaped d = true ∧ SeqAt.shaped e = true ∧ r = PyData.eqv d e := by
  unfold eqEv at h
  cases e1 : shapedO (pyS S a) with
  | none => simp only [e1] at h; cases h
  | some d =>
    cases e2 : shapedO (pyS S b) with
    | none => simp only [e1, e2] at h; cases h
    | some e =>
      simp only [e1, e2] at h
      cases h
      obtain ⟨f1, f2⟩ := shapedO_of e1
      obtain ⟨g1, g2⟩ := shapedO_of e2
      exact ⟨d, e, pyS_at rs ra f1, pyS_at rs rb g1, f2, g2, rfl⟩
theorem OV.bool {K : PySem.W.Frag} {φ : Phi} {S : Store} {H : Hp} {o : Option Bool} {Q : VK} (h : OV K φ S H (o.map D.bl) Q) (rs : Rs K φ S H) : ∃ b, o = some b ∧ Q (.bl b) H := by
  cases o with
  | none => exact h.elim
  | some b => exact ⟨b, rfl, OV.same h rs (.bl b)⟩
theorem rIn_of {K : PySem.W.Frag} {φ : Phi} {S : Store} {H : Hp} {x y : V} {a b : D} {r : Bool} (rs : Rs K φ S H) (ra : Rv K φ H x a) (rb : Rv K φ H y b) (h : inEv S a b = some r) :
    (∃ p xs, y = .ref p ∧ SqT K H p xs ∧ flatV x = true ∧ xs.all flatV = true ∧ r = inV x xs) ∨
    ∃ d ds, Dp K H x d ∧ Dp K H y (.list ds) ∧ SeqAt.shaped d = true ∧ SeqAt.shaped (.list ds) = true ∧ r = ds.any fun z => PyData.eqv z d := by
  have deep : ∀ {b : D}, Rv K φ H y b → (match shapedO (pyS S a), shapedO (pyS S b) with
    | some d, some (.list es) => some (es.any fun z => PyData.eqv z d)
    | _, _ => none) = some r → ∃ d ds, Dp K H x d ∧ Dp K H y (.list ds) ∧ SeqAt.shaped d = true ∧ SeqAt.shaped (.list ds) = true ∧ r = ds.any fun z => PyData.eqv z d := fun {b} rb h => by
    cases e1 : shapedO (pyS S a) with
    | none => simp only [e1] at h; cases h
    | some d =>
      cases e2 : shapedO (pyS S b) with
      | none => simp only [e1, e2] at h; cases h
      | some e =>
        obtain ⟨f1, f2⟩ := shapedO_of e1
        obtain ⟨g1, g2⟩ := shapedO_of e2
        cases e with
        | list es =>
          simp only [e1, e2] at h
          cases h
          exact ⟨d, es, pyS_at rs ra f1, pyS_at rs rb g1, f2, g2, rfl⟩
        | _ => simp only [e1, e2] at h; cases h
  cases rb with
  | @tup p xs ds t rr =>
    left
    unfold inEv at h
    by_cases hf : flatD a = true ∧ ds.all flatD = true
    · simp only [hf, and_self, if_true] at h
      have fl : ∀ {v : V} {d : D}, Rv K φ H v d → flatD d = true → flatV v = true := fun {v d} r h => by
        cases r <;> first | rfl | cases h
      have fls : ∀ {vs : List V} {ds : List D}, Rvs K φ H vs ds → ds.all flatD = true → vs.all flatV = true := fun {vs ds} r h => by
        induction vs generalizing ds with
        | nil => rfl
        | cons v vs ih =>
          cases r with
          | cons r1 r2 =>
            rw [List.all_cons, Bool.and_eq_true] at h
            rw [List.all_cons, Bool.and_eq_true]
            exact ⟨fl r1 h.1, ih r2 h.2⟩
      refine ⟨p, xs, rfl, t.sq, fl ra hf.1, fls rr hf.2, ?_⟩
      have one : ∀ {v : V} {d : D} {z : PyData}, Rv K φ H v d → flatD d = true → py d = some z → (∀ {w : V} {e : D} {u : PyData}, Rv K φ H w e → flatD e = true → py e = some u → PyData.eqv z u = eqV v w) := fun {v d z} r1 f1 p1 {w e u} r2 f2 p2 => by
        cases r1 <;> first | (cases f1; done) | (cases r2 <;> first | (cases f2; done) | (unfold py at p1 p2; cases p1; cases p2; simp [PyData.eqv, eqV]))
      cases e1 : py a with
      | none => simp only [e1] at h; cases h
      | some d =>
        cases e2 : pys ds with
        | none => simp only [e1, e2] at h; cases h
        | some es =>
          simp only [e1, e2] at h
          cases h
          unfold inV
          have go : ∀ {vs : List V} {ds : List D} {es : List PyData}, Rvs K φ H vs ds → ds.all flatD = true → pys ds = some es → (es.any fun z => PyData.eqv z d) = vs.any fun y => eqV y x := fun {vs ds es} r f q => by
            induction vs generalizing ds es with
            | nil =>
              cases r
              unfold pys at q
              cases q
              rfl
            | cons v vs ih =>
              cases r with
              | cons r1 r2 =>
                rename_i d1 ds1
                rw [List.all_cons, Bool.and_eq_true] at f
                unfold pys at q
                cases e3 : py d1 with
                | none => simp [e3] at q
                | some z =>
                  cases e4 : pys ds1 with
                  | none => simp [e3, e4] at q
                  | some zs =>
                    simp [e3, e4] at q
                    subst q
                    rw [List.any_cons, List.any_cons, ih r2 f.2 e4, one r1 f.1 e3 ra hf.1 e1]
          exact go rr hf.2 e2
    · simp only [if_neg hf] at h
      cases h
  | lst h1 h2 h3 => exact .inr (deep (.lst h1 h2 h3) h)
  | ref h1 h2 => exact .inr (deep (.ref h1 h2) h)
  | scr h1 h2 => exact .inr (deep (.scr h1 h2) h)
  | edic h1 h2 => exact .inr (deep (.edic h1 h2) h)
  | non => exact .inr (deep (.non) h)
  | bl b => exact .inr (deep (.bl b) h)
  | int b => exact .inr (deep (.int b) h)
  | str b => exact .inr (deep (.str b) h)
end

section
variable {X : Cx}
theorem isEv_at {K : PySem.W.Frag} {φ : Phi} {H : Hp} {x y : V} {a b : D} {r : Bool} (ra : Rv K φ H x a) (rb : Rv K φ H y b) (h : isEv a b = some r) :
    (y = .non ∧ r = decide (x = .non)) ∨ ∃ p q : Bool, x = .bl p ∧ y = .bl q ∧ r = decide (p = q) := by
  cases rb with
  | non => cases ra <;> first | (cases h; exact .inl ⟨rfl, rfl⟩) | cases h
  | bl b => cases ra <;> first | (cases h; exact .inr ⟨_, _, rfl, rfl, rfl⟩) | cases h
  | _ => cases h
/-! ### dicts -/
section
variable {K : PySem.W.Frag} {φ : Phi} {S : Store} {H : Hp}
theorem key_at {v : V} {d : D} {k : Key} (r : Rv K φ H v d) (e : keyOf d = some k) : v = kV k := by
  cases r <;> first | (cases e; rfl) | cases e
theorem dk_at {v : V} {d : D} {kvs : List (Key × D)} (rs : Rs K φ S H) (r : Rv K φ H v d) (e : dkOf S d = some kvs) :
    ∃ p a xs, d = .ref p ∧ v = .ref a ∧ S[p]? = some (.dk kvs) ∧ φ.c[p]? = some (some a) ∧ H a = some (.dK xs) ∧ xs.map (·.1) = kvs.map (·.1) ∧ Rvs K φ H (xs.map (·.2)) (kvs.map (·.2)) := by
  cases r with
  | ref h1 h2 =>
    rename_i a i o
    unfold dkOf at e
    cases e1 : S[i]? with
    | none => simp [e1] at e
    | some c =>
      have rc := rs.cell i c e1
      cases c with
      | dk es =>
        simp [e1] at e
        subst e
        rw [h1] at rc
        obtain ⟨b, xs, q1, q2, q3, q4⟩ := rc
        cases q1
        rcases h2 with h2 | h2 <;> cases h2
        exact ⟨i, a, xs, rfl, rfl, e1, h1, q2, q3, q4⟩
      | _ => simp [e1] at e
  | _ => cases e
theorem val_at {k : Key} : ∀ {xs : List (Key × V)} {kvs : List (Key × D)}, xs.map (·.1) = kvs.map (·.1) → Rvs K φ H (xs.map (·.2)) (kvs.map (·.2)) →
    (∀ d, valD kvs k = some d → ∃ v, valV xs k = some v ∧ Rv K φ H v d) ∧ (valV xs k).isSome = (valD kvs k).isSome
  | [], [], _, _ => ⟨fun d h => (by cases h), rfl⟩
  | [], _ :: _, h, _ => by simp at h
  | _ :: _, [], h, _ => by simp at h
  | x :: xs, y :: kvs, h, r => by
    rw [List.map_cons, List.map_cons, List.cons.injEq] at h
    rw [List.map_cons, List.map_cons] at r
    cases r with
    | cons r1 r2 =>
      have ih := val_at (k := k) h.2 r2
      by_cases e : x.1 = k
      · have e2 : y.1 = k := by rw [← h.1]; exact e
        have v1 : valV (x :: xs) k = some x.2 := valV_pos e
        have v2 : valD (y :: kvs) k = some y.2 := by simp [valD, List.find?_cons, e2]
        rw [v1, v2]
        exact ⟨fun d hd => by cases hd; exact ⟨_, rfl, r1⟩, rfl⟩
      · have e2 : ¬ y.1 = k := by rw [← h.1]; exact e
        have v1 : valV (x :: xs) k = valV xs k := valV_neg e
        have v2 : valD (y :: kvs) k = valD kvs k := by simp [valD, List.find?_cons, e2]
        rw [v1, v2]
        exact ih
theorem any_at {k : Key} : ∀ {xs : List (Key × V)} {kvs : List (Key × D)}, xs.map (·.1) = kvs.map (·.1) → (xs.any fun kv => decide (kv.1 = k)) = kvs.any fun kv => decide (kv.1 = k)
  | [], [], _ => rfl
  | [], _ :: _, h => by simp at h
  | _ :: _, [], h => by simp at h
  | x :: xs, y :: kvs, h => by
    rw [List.map_cons, List.map_cons, List.cons.injEq] at h
    rw [List.any_cons, List.any_cons, any_at h.2, h.1]
theorem put_map {k : Key} {v : V} {d : D} (q : Rv K φ H v d) : ∀ {xs : List (Key × V)} {kvs : List (Key × D)}, xs.map (·.1) = kvs.map (·.1) → Rvs K φ H (xs.map (·.2)) (kvs.map (·.2)) →
    (xs.map fun kv => if kv.1 = k then (kv.1, v) else kv).map (·.1) = (kvs.map fun kv => if kv.1 = k then (kv.1, d) else kv).map (·.1) ∧
    Rvs K φ H ((xs.map fun kv => if kv.1 = k then (kv.1, v) else kv).map (·.2)) ((kvs.map fun kv => if kv.1 = k then (kv.1, d) else kv).map (·.2))
  | [], [], _, _ => ⟨rfl, .nil⟩
  | [], _ :: _, h, _ => by simp at h
  | _ :: _, [], h, _ => by simp at h
  | x :: xs, y :: kvs, h, r => by
    rw [List.map_cons, List.map_cons, List.cons.injEq] at h
    rw [List.map_cons, List.map_cons] at r
    cases r with
    | cons r1 r2 =>
      obtain ⟨ih1, ih2⟩ := put_map (k := k) q h.2 r2
      simp only [List.map_cons]
      by_cases e : x.1 = k
      · have e2 : y.1 = k := by rw [← h.1]; exact e
        rw [if_pos e, if_pos e2]
        exact ⟨by rw [ih1]; show x.1 :: _ = y.1 :: _; rw [h.1], .cons q ih2⟩
      · have e2 : ¬ y.1 = k := by rw [← h.1]; exact e
        rw [if_neg e, if_neg e2]
        exact ⟨by rw [ih1]; show x.1 :: _ = y.1 :: _; rw [h.1], .cons r1 ih2⟩
theorem put_at {k : Key} {v : V} {d : D} (q : Rv K φ H v d) {xs : List (Key × V)} {kvs : List (Key × D)} (h : xs.map (·.1) = kvs.map (·.1)) (r : Rvs K φ H (xs.map (·.2)) (kvs.map (·.2))) :
    (putK xs k v).map (·.1) = (putD kvs k d).map (·.1) ∧ Rvs K φ H ((putK xs k v).map (·.2)) ((putD kvs k d).map (·.2)) := by
  unfold putK putD
  rw [any_at h]
  by_cases e : (kvs.any fun kv => decide (kv.1 = k)) = true
  · rw [if_pos e, if_pos e]
    exact put_map q h r
  · rw [if_neg e, if_neg e]
    rw [List.map_append, List.map_append, List.map_append, List.map_append, h]
    exact ⟨rfl, r.app (.cons q .nil)⟩
theorem keysI_at : ∀ {kvs : List (Key × D)} {ks : List Int}, keysI kvs = some ks → kvs.map (·.1) = ks.map Sum.inl
  | [], ks, h => by cases h; rfl
  | (.inl i, d) :: r, ks, h => by
    unfold keysI at h
    cases e : keysI r with
    | none => rw [e] at h; cases h
    | some l =>
      rw [e] at h
      cases h
      rw [List.map_cons, List.map_cons, keysI_at e]
  | (.inr _, _) :: _, ks, h => by cases h
theorem sort_uniq {ks ys : List Int} (p : ys.Perm ks) (s : ys.Pairwise (· ≤ ·)) : ys = sortI ks := by
  have h2 : (sortI ks).Pairwise (· ≤ ·) := by
    have := List.pairwise_mergeSort (le := fun a b : Int => decide (a ≤ b)) (fun a b c h1 h2 => by simp at *; omega) (fun a b => by simp; omega) ks
    exact this.imp fun h => of_decide_eq_true h
  exact List.Perm.eq_of_pairwise (le := (· ≤ ·)) (fun a b _ _ h1 h2 => Int.le_antisymm h1 h2) s h2 (p.trans (List.mergeSort_perm ks _).symm)
end
theorem op_inK (hu : X.A.units + 1 < cLine) : OpR X (compareOp .In) (fun x y H Q => ∃ a kvs k, y = .ref a ∧ H a = some (.dK kvs) ∧ x = kV k ∧ Q (.bl (valV kvs k).isSome) H) := by
  intro pins s σ H x y v u Q I rx ry h
  obtain ⟨a, kvs, k, rfl, e, rfl, q⟩ := h
  cases ry
  exact d_in hu I (DGet.k e) rx fun s' I' => ⟨.bl _, H, I', rfl, q⟩
theorem op_notInK (hu : X.A.units + 1 < cLine) : OpR X (compareOp .NotIn) (fun x y H Q => ∃ a kvs k, y = .ref a ∧ H a = some (.dK kvs) ∧ x = kV k ∧ Q (.bl (!(valV kvs k).isSome)) H) := by
  intro pins s σ H x y v u Q I rx ry h
  obtain ⟨a, kvs, k, rfl, e, rfl, q⟩ := h
  cases ry
  exact d_notIn hu I (DGet.k e) rx fun s' I' => ⟨.bl _, H, I', rfl, q⟩
theorem inD_of {K : PySem.W.Frag} {φ : Phi} {S : Store} {H : Hp} {x y : V} {a b : D} {r : Bool} (rs : Rs K φ S H) (ra : Rv K φ H x a) (rb : Rv K φ H y b) (h : inEvD S a b = some r) :
    inEv S a b = some r ∨ ∃ p xs k, y = .ref p ∧ H p = some (.dK xs) ∧ x = kV k ∧ r = (valV xs k).isSome := by
  unfold inEvD at h
  cases e : dkOf S b with
  | none => rw [e] at h; exact .inl h
  | some kvs =>
    rw [e] at h
    cases e2 : keyOf a with
    | none => simp [e2] at h
    | some k =>
      simp only [e2, Option.map_some, Option.some.injEq] at h
      obtain ⟨p, w, xs, rfl, rfl, q1, q2, q3, q4, q5⟩ := dk_at rs rb e
      refine .inr ⟨w, xs, k, rfl, q3, key_at ra e2, ?_⟩
      rw [← h, (val_at q4 q5).2]
theorem cmp_of {op : CmpOp} {o : Cop} {r : R2} (h : OpR X (compareOp op) r) (k : ∀ φ S H x y a b c (Q : VK), Rs X.K φ S H → Rv X.K φ H x a → Rv X.K φ H y b → cmpB o a b S = some c → Q (.bl c) H → r x y H Q) : OpR X (compareOp op) (rB X.K (cmpEv o)) := by
  refine OpR.imp h fun x y H Q ⟨φ, S, a, b, rs, ra, rb, q⟩ => ?_
  obtain ⟨c, e, q⟩ := OV.bool q rs
  exact k φ S H x y a b c Q rs ra rb e q
theorem map_not {o : Option Bool} {c : Bool} (h : o.map (!·) = some c) : o = some (!c) := by
  cases o with
  | none => cases h
  | some b =>
    cases h
    simp
theorem ord_of {op : CmpOp} {o : Cop} {g : Int → Int → Bool} (h : OpR X (compareOp op) (rI0 fun i j => .bl (g i j))) (e : ∀ a b S, cmpB o a b S = ordEv o a b) (eg : ∀ i j, cmpI o i j = some (g i j)) : OpR X (compareOp op) (rB X.K (cmpEv o)) := by
  refine cmp_of h fun φ S H x y a b c Q rs ra rb e2 q => ?_
  rw [e] at e2
  cases ra <;> first | (cases e2; done) | skip
  cases rb <;> first | (cases e2; done) | skip
  have e3 : cmpI o _ _ = some c := e2
  rw [eg] at e3
  cases e3
  exact ⟨_, _, rfl, rfl, q⟩
theorem z_cmp (hu : X.A.units + 65 < cLine) (op : Cop) : OpR X (compareOp (copOp op)) (rB X.K (cmpEv op)) := by
  cases op with
  | eq =>
    refine cmp_of (op_eqD (X := X) (by omega)) fun φ S H x y a b c Q rs ra rb e q => ?_
    obtain ⟨d, f, h1, h2, h3, h4, rfl⟩ := eqEv_at rs ra rb e
    exact ⟨d, f, h1, h2, h3, h4, q⟩
  | ne =>
    refine cmp_of (op_neD (X := X) (by omega)) fun φ S H x y a b c Q rs ra rb e q => ?_
    obtain ⟨d, f, h1, h2, h3, h4, e5⟩ := eqEv_at rs ra rb (map_not e)
    refine ⟨d, f, h1, h2, h3, h4, ?_⟩
    rw [← e5, Bool.not_not]
    exact q
  | lt => exact ord_of op_lt (fun _ _ _ => rfl) fun _ _ => rfl
  | le => exact ord_of op_le (fun _ _ _ => rfl) fun _ _ => rfl
  | gt => exact ord_of op_gt (fun _ _ _ => rfl) fun _ _ => rfl
  | ge => exact ord_of op_ge (fun _ _ _ => rfl) fun _ _ => rfl
  | is =>
    refine cmp_of ((op_isN (X := X)).or (op_isBl (X := X))) fun φ S H x y a b c Q rs ra rb e q => ?_
    rcases isEv_at ra rb e with ⟨h1, rfl⟩ | ⟨p, r, h1, h2, rfl⟩
    · exact .inl ⟨h1, q⟩
    · exact .inr ⟨p, r, h1, h2, q⟩
  | isnot =>
    refine cmp_of ((op_notN (X := X)).or (op_notBl (X := X))) fun φ S H x y a b c Q rs ra rb e q => ?_
    rcases isEv_at ra rb (map_not e) with ⟨h1, e2⟩ | ⟨p, r, h1, h2, e2⟩
    · exact .inl ⟨h1, by rw [← e2, Bool.not_not]; exact q⟩
    · exact .inr ⟨p, r, h1, h2, by rw [← e2, Bool.not_not]; exact q⟩
  | isin =>
    refine cmp_of (((op_in_seq (X := X)).or (op_inD (X := X) hu)).or (op_inK (X := X) (by omega))) fun φ S H x y a b c Q rs ra rb e q => ?_
    rcases inD_of rs ra rb e with e | ⟨p, xs, k, h1, h2, h3, rfl⟩
    · rcases rIn_of rs ra rb e with ⟨p, xs, h1, h2, h3, h4, rfl⟩ | ⟨d, ds, h1, h2, h3, h4, rfl⟩
      · exact .inl (.inl ⟨p, xs, h1, .inr h2, h3, h4, q⟩)
      · exact .inl (.inr ⟨d, ds, h1, h2, h3, h4, q⟩)
    · exact .inr ⟨p, xs, k, h1, h2, h3, q⟩
  | notin =>
    refine cmp_of (((op_notIn_seq (X := X)).or (op_notInD (X := X) hu)).or (op_notInK (X := X) (by omega))) fun φ S H x y a b c Q rs ra rb e q => ?_
    rcases inD_of rs ra rb (map_not e) with e | ⟨p, xs, k, h1, h2, h3, e2⟩
    · rcases rIn_of rs ra rb e with ⟨p, xs, h1, h2, h3, h4, e2⟩ | ⟨d, ds, h1, h2, h3, h4, e2⟩
      · exact .inl (.inl ⟨p, xs, h1, .inr h2, h3, h4, by rw [← e2]; simpa using q⟩)
      · exact .inl (.inr ⟨d, ds, h1, h2, h3, h4, by rw [← e2]; simpa using q⟩)
    · exact .inr ⟨p, xs, k, h1, h2, h3, by rw [← e2, Bool.not_not]; exact q⟩
/-! ### subscripts -/
theorem atI_rv {K : PySem.W.Frag} {φ : Phi} {H : Hp} {vs : List V} {ds : List D} {i : Int} {d : D} (r : Rvs K φ H vs ds) (h : atI ds i = some d) : ∃ v, atI vs i = some v ∧ Rv K φ H v d := by
  unfold atI at h ⊢
  rw [r.len]
  cases e : ixN ds.length i with
  | none => rw [e] at h; cases h
  | some j =>
    rw [e] at h
    exact r.get h
theorem ix_dk (hu : X.A.units + 1 < cLine) : IxR X (fun x y H Q => ∃ a kvs k v, x = .ref a ∧ H a = some (.dK kvs) ∧ y = kV k ∧ valV kvs k = some v ∧ Q v H) := by
  intro value slice pins s σ H x y v u Q I rx ry h hs
  obtain ⟨a, kvs, k, z, rfl, e, rfl, l, q⟩ := h
  have g : DGet H a (kV k) (some z) := by rw [← l]; exact DGet.k e
  cases rx
  exact tail_any (dict_typeIs I g) PySem.F.slot_dict_getitem.lookup (d_getItem hu I g ry fun w' s' I' rw' => ⟨z, H, I', rw', q⟩) hs
theorem z_ix (hu : X.A.units + 1 < cLine) : IxR X (rB X.K idxEv) := by
  have h := ((ix_list (X := X)).or (ix_tup (X := X))).or (ix_dk hu)
  intro value slice pins s σ H x y v u Q I rx ry q hs
  obtain ⟨φ, S, a, b, rs, ra, rb, q⟩ := q
  refine h value slice pins s σ H x y v u Q I rx ry ?_ hs
  unfold idxEv at q
  cases e0 : dkOf S a with
  | some kvs =>
    simp only [e0] at q
    cases e1 : keyOf b with
    | none => simp only [e1, Option.bind_none] at q; exact q.elim
    | some k =>
      simp only [e1, Option.bind_some] at q
      cases e2 : valD kvs k with
      | none => simp only [e2] at q; exact q.elim
      | some d =>
        simp only [e2] at q
        obtain ⟨p, w, xs, rfl, rfl, q1, q2, q3, q4, q5⟩ := dk_at rs ra e0
        obtain ⟨z, hz, rz⟩ := (val_at q4 q5).1 d e2
        exact .inr ⟨w, xs, k, z, rfl, q3, key_at rb e1, hz, OV.same q rs rz⟩
  | none =>
    simp only [e0] at q
    cases rb with
    | int i =>
      cases e : seqOf S a with
      | none => simp only [e] at q; exact q.elim
      | some ds =>
        simp only [e] at q
        cases e2 : atI ds i with
        | none => simp only [e2] at q; exact q.elim
        | some d =>
          simp only [e2] at q
          obtain ⟨p, xs, rfl, hq, rr⟩ := seqOf_at rs ra e
          obtain ⟨w, hw, rw'⟩ := atI_rv rr e2
          rcases hq with hq | hq
          · exact .inl (.inl ⟨p, xs, i, w, rfl, rfl, hq, hw, OV.same q rs rw'⟩)
          · exact .inl (.inr ⟨p, xs, i, w, rfl, rfl, hq, hw, OV.same q rs rw'⟩)
    | _ => exact q.elim
theorem cut_rv {K : PySem.W.Frag} {φ : Phi} {H : Hp} {vs : List V} {ds : List D} (r : Rvs K φ H vs ds) (lo hi : Option Int) : Rvs K φ H (cutV vs lo hi) (cutD ds lo hi) := by
  unfold cutV cutD
  rw [r.len]
  exact (r.drop _).take _
theorem cutD_whole {ds : List D} {lo hi : Option Int} (h : HT.sIx ds.length 0 lo = 0 ∧ HT.sIx ds.length ds.length hi = ds.length) : cutD ds lo hi = ds := by
  unfold cutD
  rw [h.1, h.2]
  simp
def rSlZ (K : PySem.W.Frag) : V → Option Int → Option Int → Hp → VK → Prop := fun x lo hi H Q => ∃ φ S a, Rs K φ S H ∧ Rv K φ H x a ∧ OV K φ S H (slEv a lo hi S) Q
theorem z_sl : SlR X (rSlZ X.K) := by
  have h := (sl_list (X := X)).or (sl_tupA (X := X))
  intro pins s σ H x v vl vu lo hi sl Q I rx hs pl pu q
  obtain ⟨φ, S, a, rs, ra, q⟩ := q
  refine h pins s σ H x v vl vu lo hi sl Q I rx hs pl pu ?_
  have lst : ∀ {b : D}, Rv X.K φ H x b → OV X.K φ S H ((seqL S b).map fun ds => .lst (cutD ds lo hi)) Q → rSlL X.K x lo hi H Q := fun {b} rb q => by
    cases e : seqL S b with
    | none => simp only [e] at q; exact q.elim
    | some ds =>
      simp only [e] at q
      obtain ⟨p, xs, rfl, hq, rr⟩ := seqL_at rs rb e
      exact ⟨p, xs, rfl, SqL.of hq, fun l hl => OV.newL q rs (cut_rv rr lo hi) hl⟩
  cases ra with
  | @tup p xs ds t r =>
    right
    have q' : OV X.K φ S H (some (.tup (cutD ds lo hi))) Q := q
    refine ⟨p, xs, rfl, t.sq, fun w => ?_, fun w l hl => OV.new q' rs (cut_rv r lo hi) hl⟩
    rw [r.len] at w
    rw [cutD_whole w] at q'
    exact OV.same q' rs (.tup t r)
  | @scr p xs ds h1 r =>
    have q' : OV X.K φ S H (some (.lst (cutD ds lo hi))) Q := q
    exact .inl ⟨p, xs, rfl, h1.sq, fun l hl => OV.newL q' rs (cut_rv r lo hi) hl⟩
  | lst h1 h2 h3 => exact .inl (lst (.lst h1 h2 h3) q)
  | ref h1 h2 => exact .inl (lst (.ref h1 h2) q)
  | _ => exact q.elim
/-! ### builtins -/
def rBl (K : PySem.W.Frag) (b : Blt) : List V → Hp → VK → Prop := fun xs H Q => ∃ φ S ds, Rs K φ S H ∧ Rvs K φ H xs ds ∧ OV K φ S H (bltEv b ds S) Q
theorem CallR.imp {f : Value} {r r' : List V → Hp → VK → Prop} (h : CallR X f r) (k : ∀ xs H Q, r' xs H Q → r xs H Q) : CallR X f r' := fun pins s σ H xs us Q I rx q => h pins s σ H xs us Q I rx (k _ _ _ q)
theorem CallR.or {f : Value} {r r' : List V → Hp → VK → Prop} (h : CallR X f r) (h' : CallR X f r') : CallR X f (fun xs H Q => r xs H Q ∨ r' xs H Q) := fun pins s σ H xs us Q I rx q => by
  rcases q with q | q
  · exact h pins s σ H xs us Q I rx q
  · exact h' pins s σ H xs us Q I rx q
theorem Rvs.one {K : PySem.W.Frag} {φ : Phi} {H : Hp} {xs : List V} {d : D} (r : Rvs K φ H xs [d]) : ∃ x, xs = [x] ∧ Rv K φ H x d := by
  cases r with
  | cons r1 r2 => cases r2; exact ⟨_, rfl, r1⟩
theorem Rvs.two {K : PySem.W.Frag} {φ : Phi} {H : Hp} {xs : List V} {d e : D} (r : Rvs K φ H xs [d, e]) : ∃ x y, xs = [x, y] ∧ Rv K φ H x d ∧ Rv K φ H y e := by
  cases r with
  | cons r1 r2 =>
    obtain ⟨y, rfl, r3⟩ := r2.one
    exact ⟨_, _, rfl, r1, r3⟩
theorem rBl_one {K : PySem.W.Frag} {b : Blt} {xs : List V} {H : Hp} {Q : VK} (h : rBl K b xs H Q) (k : ∀ ds S, bltEv b ds S ≠ none → ∃ d, ds = [d]) :
    ∃ φ S d x, Rs K φ S H ∧ xs = [x] ∧ Rv K φ H x d ∧ OV K φ S H (bltEv b [d] S) Q := by
  obtain ⟨φ, S, ds, rs, r, q⟩ := h
  obtain ⟨d, rfl⟩ := k ds S fun e => by rw [e] at q; exact q
  obtain ⟨x, rfl, r1⟩ := r.one
  exact ⟨φ, S, d, x, rs, rfl, r1, q⟩
theorem rBl_two {K : PySem.W.Frag} {b : Blt} {xs : List V} {H : Hp} {Q : VK} (h : rBl K b xs H Q) (k : ∀ ds S, bltEv b ds S ≠ none → ∃ d e, ds = [d, e]) :
    ∃ φ S d e x y, Rs K φ S H ∧ xs = [x, y] ∧ Rv K φ H x d ∧ Rv K φ H y e ∧ OV K φ S H (bltEv b [d, e] S) Q := by
  obtain ⟨φ, S, ds, rs, r, q⟩ := h
  obtain ⟨d, e, rfl⟩ := k ds S fun e => by rw [e] at q; exact q
  obtain ⟨x, y, rfl, r1, r2⟩ := r.two
  exact ⟨φ, S, d, e, x, y, rs, rfl, r1, r2, q⟩
theorem OV.none {K : PySem.W.Frag} {φ : Phi} {S : Store} {H : Hp} {Q : VK} {o : Option D} {C : Prop} (q : OV K φ S H o Q) (e : o = none) : C := by
  subst e
  exact False.elim q
theorem z_len : CallR X (.builtin "len") (rBl X.K .len) := by
  refine CallR.imp (CallR.or (call_len_seq (X := X)) (call_len_str (X := X))) fun xs H Q h => ?_
  obtain ⟨φ, S, d, x, rs, rfl, r, q⟩ := rBl_one h fun ds S h => match ds, h with
    | [d], _ => ⟨d, rfl⟩
    | [], h => absurd rfl h
    | _ :: _ :: _, h => absurd rfl h
  have q' : OV X.K φ S H (lenEv S d) Q := q
  unfold lenEv at q'
  cases e : seqOf S d with
  | some es =>
    simp only [e] at q'
    obtain ⟨p, ys, rfl, hq, rr⟩ := seqOf_at rs r e
    rw [← rr.len] at q'
    exact .inl ⟨p, ys, rfl, hq, OV.same q' rs (.int _)⟩
  | none =>
    simp only [e] at q'
    cases r with
    | str z =>
      by_cases hz : z.length ≤ sizeLine
      · simp only [if_pos hz] at q'
        exact .inr ⟨z, rfl, hz, OV.same q' rs (.int _)⟩
      · simp only [if_neg hz] at q'
        exact OV.none q' rfl
    | _ => exact OV.none q' rfl
theorem z_abs : CallR X (.builtin "abs") (rBl X.K .abs) := by
  refine CallR.imp (call_abs (X := X)) fun xs H Q h => ?_
  obtain ⟨φ, S, d, x, rs, rfl, r, q⟩ := rBl_one h fun ds S h => match ds, h with
    | [d], _ => ⟨d, rfl⟩
    | [], h => absurd rfl h
    | _ :: _ :: _, h => absurd rfl h
  cases r with
  | int i => exact ⟨i, rfl, OV.same q rs (.int _)⟩
  | _ => exact OV.none q rfl
theorem z_int : CallR X (.type "int") (rBl X.K .int) := by
  refine CallR.imp (call_int1 (X := X)) fun xs H Q h => ?_
  obtain ⟨φ, S, d, x, rs, rfl, r, q⟩ := rBl_one h fun ds S h => match ds, h with
    | [d], _ => ⟨d, rfl⟩
    | [], h => absurd rfl h
    | _ :: _ :: _, h => absurd rfl h
  cases r with
  | int i => exact .inl ⟨i, rfl, OV.same q rs (.int _)⟩
  | bl i => exact .inr ⟨i, rfl, OV.same q rs (.int _)⟩
  | _ => exact OV.none q rfl
theorem z_str : CallR X (.type "str") (rBl X.K .str) := by
  refine CallR.imp (call_str_int (X := X)) fun xs H Q h => ?_
  obtain ⟨φ, S, d, x, rs, rfl, r, q⟩ := rBl_one h fun ds S h => match ds, h with
    | [d], _ => ⟨d, rfl⟩
    | [], h => absurd rfl h
    | _ :: _ :: _, h => absurd rfl h
  cases r with
  | int i =>
    have q' : OV X.K φ S H (if i.natAbs.log2 < 1920 then some (.str (toString i)) else none) Q := q
    by_cases hz : i.natAbs.log2 < 1920
    · rw [if_pos hz] at q'
      exact ⟨i, rfl, hz, OV.same q' rs (.str _)⟩
    · rw [if_neg hz] at q'
      exact OV.none q' rfl
  | _ => exact OV.none q rfl
theorem z_tuple : CallR X (.type "tuple") (rBl X.K .tuple) := by
  refine CallR.imp (call_tuple_of (X := X)) fun xs H Q h => ?_
  obtain ⟨φ, S, d, x, rs, rfl, r, q⟩ := rBl_one h fun ds S h => match ds, h with
    | [d], _ => ⟨d, rfl⟩
    | [], h => absurd rfl h
    | _ :: _ :: _, h => absurd rfl h
  have q' : OV X.K φ S H ((seqOf S d).map .tup) Q := q
  cases r with
  | tup t r =>
    have q2 : OV X.K φ S H (some (.tup _)) Q := q'
    exact ⟨_, _, rfl, .inr ⟨t.sq, OV.same q2 rs (.tup t r)⟩⟩
  | lst h1 h2 h3 =>
    have q2 : OV X.K φ S H (some (.tup _)) Q := q'
    exact ⟨_, _, rfl, .inl ⟨SqL.of h1, fun l hl => OV.new q2 rs h3 hl⟩⟩
  | scr h1 h3 =>
    have q2 : OV X.K φ S H (some (.tup _)) Q := q'
    exact ⟨_, _, rfl, .inl ⟨h1.sq, fun l hl => OV.new q2 rs h3 hl⟩⟩
  | ref h1 h2 =>
    rename_i a i o
    cases e : seqL S (.ref i) with
    | none =>
      rw [show seqOf S (.ref i) = seqL S (.ref i) from rfl, e] at q'
      exact OV.none q' rfl
    | some es =>
      rw [show seqOf S (.ref i) = seqL S (.ref i) from rfl, e] at q'
      obtain ⟨p, ys, e1, hq, rr⟩ := seqL_at rs (.ref h1 h2) e
      cases e1
      exact ⟨_, _, rfl, .inl ⟨SqL.of hq, fun l hl => OV.new q' rs rr hl⟩⟩
  | _ => exact OV.none q' rfl
theorem z_list : CallR X (.type "list") (rBl X.K .list) := by
  refine CallR.imp (call_list_of (X := X)) fun xs H Q h => ?_
  obtain ⟨φ, S, d, x, rs, rfl, r, q⟩ := rBl_one h fun ds S h => match ds, h with
    | [d], _ => ⟨d, rfl⟩
    | [], h => absurd rfl h
    | _ :: _ :: _, h => absurd rfl h
  have q' : OV X.K φ S H ((seqOf S d).map .lst) Q := q
  cases e : seqOf S d with
  | none => rw [e] at q'; exact OV.none q' rfl
  | some es =>
    rw [e] at q'
    obtain ⟨p, ys, rfl, hq, rr⟩ := seqOf_at rs r e
    exact ⟨p, ys, rfl, hq, fun l hl => OV.newL q' rs rr hl⟩
theorem bls_at {K : PySem.W.Frag} {φ : Phi} {S : Store} {H : Hp} {v : V} {d : D} {bs : List Bool} (rs : Rs K φ S H) (r : Rv K φ H v d) (h : (seqL S d).bind bls? = some bs) : ∃ a, v = .ref a ∧ SqL K H a (bs.map V.bl) := by
  cases e : seqL S d with
  | none => rw [e] at h; cases h
  | some ds =>
    rw [e] at h
    obtain ⟨a, xs, rfl, h1, r1⟩ := seqL_at rs r e
    rw [← r1.bls (show bls? ds = some bs from h)]
    exact ⟨a, rfl, SqL.of h1⟩
theorem ints_at {K : PySem.W.Frag} {φ : Phi} {S : Store} {H : Hp} {v : V} {d : D} {bs : List Int} (rs : Rs K φ S H) (r : Rv K φ H v d) (h : (seqL S d).bind ints? = some bs) : ∃ a, v = .ref a ∧ SqL K H a (bs.map V.int) := by
  cases e : seqL S d with
  | none => rw [e] at h; cases h
  | some ds =>
    rw [e] at h
    obtain ⟨a, xs, rfl, h1, r1⟩ := seqL_at rs r e
    rw [← r1.ints (show ints? ds = some bs from h)]
    exact ⟨a, rfl, SqL.of h1⟩
theorem z_all (hc : X.calm = true) : CallR X (.builtin "all") (rBl X.K .all) := by
  refine CallR.imp (cr_all (X := X) hc) fun xs H Q h => ?_
  obtain ⟨φ, S, d, x, rs, rfl, r, q⟩ := rBl_one h fun ds S h => match ds, h with
    | [d], _ => ⟨d, rfl⟩
    | [], h => absurd rfl h
    | _ :: _ :: _, h => absurd rfl h
  have q' : OV X.K φ S H (((seqL S d).bind bls?).map fun bs => .bl (bs.all id)) Q := q
  cases e : (seqL S d).bind bls? with
  | none => rw [e] at q'; exact OV.none q' rfl
  | some bs =>
    rw [e] at q'
    obtain ⟨a, rfl, hb⟩ := bls_at rs r e
    exact ⟨a, bs, rfl, hb, OV.same q' rs (.bl _)⟩
theorem z_any (hc : X.calm = true) : CallR X (.builtin "any") (rBl X.K .any) := by
  refine CallR.imp (cr_any (X := X) hc) fun xs H Q h => ?_
  obtain ⟨φ, S, d, x, rs, rfl, r, q⟩ := rBl_one h fun ds S h => match ds, h with
    | [d], _ => ⟨d, rfl⟩
    | [], h => absurd rfl h
    | _ :: _ :: _, h => absurd rfl h
  have q' : OV X.K φ S H (((seqL S d).bind bls?).map fun bs => .bl (bs.any id)) Q := q
  cases e : (seqL S d).bind bls? with
  | none => rw [e] at q'; exact OV.none q' rfl
  | some bs =>
    rw [e] at q'
    obtain ⟨a, rfl, hb⟩ := bls_at rs r e
    exact ⟨a, bs, rfl, hb, OV.same q' rs (.bl _)⟩
theorem z_sum (hc : X.calm = true) : CallR X (.builtin "sum") (rBl X.K .sum) := by
  refine CallR.imp (cr_sum (X := X) hc) fun xs H Q h => ?_
  obtain ⟨φ, S, d, x, rs, rfl, r, q⟩ := rBl_one h fun ds S h => match ds, h with
    | [d], _ => ⟨d, rfl⟩
    | [], h => absurd rfl h
    | _ :: _ :: _, h => absurd rfl h
  have q' : OV X.K φ S H (((seqL S d).bind ints?).map fun ns => .int ns.sum) Q := q
  cases e : (seqL S d).bind ints? with
  | none => rw [e] at q'; exact OV.none q' rfl
  | some bs =>
    rw [e] at q'
    obtain ⟨a, rfl, hb⟩ := ints_at rs r e
    exact ⟨a, bs, rfl, hb, OV.same q' rs (.int _)⟩
theorem z_sorted (hc : X.calm = true) : CallR X (.builtin "sorted") (rBl X.K .sorted) := by
  refine CallR.imp (CallR.or (call_sortedDI (X := X) hc) (cr_sortedI (X := X))) fun xs H Q h => ?_
  obtain ⟨φ, S, d, x, rs, rfl, r, q⟩ := rBl_one h fun ds S h => match ds, h with
    | [d], _ => ⟨d, rfl⟩
    | [], h => absurd rfl h
    | _ :: _ :: _, h => absurd rfl h
  have q' : OV X.K φ S H (match dkOf S d with
    | some kvs => (keysI kvs).bind fun ks => if ks.length < 64 then some (.lst ((sortI ks).map .int)) else none
    | none => ((seqL S d).bind ints?).map fun ns => .lst ((sortI ns).map .int)) Q := q
  have hint : ∀ (H : Hp) (ns : List Int), Rvs X.K φ H (ns.map V.int) (ns.map D.int) := fun H ns => by
    induction ns with
    | nil => exact .nil
    | cons n ns ih => exact .cons (.int n) ih
  cases e : dkOf S d with
  | some kvs =>
    simp only [e] at q'
    cases e2 : keysI kvs with
    | none => simp only [e2] at q'; exact OV.none q' rfl
    | some ks =>
      simp only [e2, Option.bind_some] at q'
      by_cases hl : ks.length < 64
      · rw [if_pos hl] at q'
        obtain ⟨p, w, zs, rfl, rfl, q1, q2, q3, q4, q5⟩ := dk_at rs r e
        refine .inl ⟨w, zs, ks, rfl, .inl q3, by rw [q4, keysI_at e2], hl, fun ys l p1 s1 hl => ?_⟩
        rw [sort_uniq p1 s1]
        exact OV.newL q' rs (hint H _) hl
      · rw [if_neg hl] at q'
        exact OV.none q' rfl
  | none =>
    simp only [e] at q'
    cases e2 : (seqL S d).bind ints? with
    | none => rw [e2] at q'; exact OV.none q' rfl
    | some ns =>
      rw [e2] at q'
      obtain ⟨a, rfl, hb⟩ := ints_at rs r e2
      refine .inr ⟨a, ns, rfl, hb, fun ys l p1 s1 hl => ?_⟩
      rw [sort_uniq p1 s1]
      exact OV.newL q' rs (hint H _) hl
theorem z_min (hc : X.calm = true) : CallR X (.builtin "min") (rBl X.K .min) := by
  refine CallR.imp (call_min2 (X := X) hc) fun xs H Q h => ?_
  obtain ⟨φ, S, d, e, x, y, rs, rfl, r1, r2, q⟩ := rBl_two h fun ds S h => match ds, h with
    | [d, e], _ => ⟨d, e, rfl⟩
    | [], h => absurd rfl h
    | [_], h => absurd rfl h
    | _ :: _ :: _ :: _, h => absurd rfl h
  cases r1 with
  | int i =>
    cases r2 with
    | int j => exact ⟨i, j, rfl, OV.same q rs (.int _)⟩
    | _ => exact OV.none q rfl
  | _ => exact OV.none q rfl
theorem z_max (hc : X.calm = true) : CallR X (.builtin "max") (rBl X.K .max) := by
  refine CallR.imp (call_max2 (X := X) hc) fun xs H Q h => ?_
  obtain ⟨φ, S, d, e, x, y, rs, rfl, r1, r2, q⟩ := rBl_two h fun ds S h => match ds, h with
    | [d, e], _ => ⟨d, e, rfl⟩
    | [], h => absurd rfl h
    | [_], h => absurd rfl h
    | _ :: _ :: _ :: _, h => absurd rfl h
  cases r1 with
  | int i =>
    cases r2 with
    | int j => exact ⟨i, j, rfl, OV.same q rs (.int _)⟩
    | _ => exact OV.none q rfl
  | _ => exact OV.none q rfl
/-! ### isinstance -/
def tyName : Ty → String
  | .int => "int"
  | .bool => "bool"
  | .str => "str"
  | .tup => "tuple"
  | .lst => "list"
  | .dict => "dict"
  | .own _ => ""
/-- the type's name of a thing -/
def tyOfD (S : Store) : D → Option String
  | .non => some "NoneType"
  | .bl _ => some "bool"
  | .int _ => some "int"
  | .str _ => some "str"
  | .tup _ => some "tuple"
  | .lst _ => some "list"
  | .scr _ => some "list"
  | .edic => some "dict"
  | .ref i => match S[i]? with
    | some (.lst _) => some "list"
    | some (.dk _) => some "dict"
    | some (.dt _) => some "dict"
    | _ => none
  | .exc _ _ => none
theorem tyOf_at {K : PySem.W.Frag} {φ : Phi} {S : Store} {H : Hp} {v : V} {d : D} {n : String} (rs : Rs K φ S H) (r : Rv K φ H v d) (h : tyOfD S d = some n) : TyX K H v (.type n) := by
  cases r with
  | non => cases h; exact .base .non
  | bl b => cases h; exact .base (.bl b)
  | int b => cases h; exact .base (.int b)
  | str b => cases h; exact .base (.str b)
  | tup t _ =>
    cases h
    rcases t with ⟨h1, _⟩ | ⟨o, its, n, h1, h2, _⟩
    · exact .base (.tup h1)
    · exact .kTuple h1 h2
  | lst h1 _ _ => cases h; exact .base (.lst h1)
  | scr h1 _ =>
    cases h
    rcases h1 with ⟨⟨o, h1⟩, _⟩ | ⟨o, its, n, h1, h2, _⟩
    · exact .base (.frz h1)
    · exact .kList h1 h2
  | edic h1 _ => cases h; exact .base (.dK h1)
  | ref h1 h2 =>
    rename_i a i o
    unfold tyOfD at h
    cases e : S[i]? with
    | none => simp [e] at h
    | some c =>
      have rc := rs.cell i c e
      rw [h1] at rc
      cases c with
      | lst es =>
        simp [e] at h
        subst h
        obtain ⟨b, xs, e1, e2, _⟩ := rc
        cases e1
        rcases h2 with h2 | h2 <;> cases h2
        exact .base (.lst e2)
      | dk es =>
        simp [e] at h
        subst h
        obtain ⟨b, xs, e1, e2, _⟩ := rc
        cases e1
        rcases h2 with h2 | h2 <;> cases h2
        exact .base (.dK e2)
      | dt es =>
        simp [e] at h
        subst h
        obtain ⟨b, xs, e1, e2, _⟩ := rc
        cases e1
        rcases h2 with h2 | h2 <;> cases h2
        exact .base (.dT e2)
      | gone => simp [e] at h
theorem isi_tab {t : Ty} {n : String} (hn : n = "NoneType" ∨ n = "bool" ∨ n = "int" ∨ n = "str" ∨ n = "tuple" ∨ n = "list" ∨ n = "dict") (ht : ∀ c, t ≠ .own c) :
    kitB n (tyName t) = some (n == tyName t || (n == "bool" && tyName t == "int")) := by
  cases t with
  | own c => exact absurd rfl (ht c)
  | _ => rcases hn with h | h | h | h | h | h | h <;> subst h <;> decide +kernel
theorem isiEv_at {d : D} {t : Ty} {S : Store} {b : Bool} (h : isiEv d t S = some b) :
    (∀ c, t ≠ .own c) ∧ ∃ n, tyOfD S d = some n ∧ (n = "NoneType" ∨ n = "bool" ∨ n = "int" ∨ n = "str" ∨ n = "tuple" ∨ n = "list" ∨ n = "dict") ∧ b = (n == tyName t || (n == "bool" && tyName t == "int")) := by
  have ht : ∀ c, t ≠ .own c := fun c e => by
    subst e
    unfold isiEv at h
    cases h
  refine ⟨ht, ?_⟩
  cases d with
  | ref i =>
    unfold tyOfD
    cases e : S[i]? with
    | none => cases t <;> (unfold isiEv at h; simp [e] at h)
    | some c =>
      cases c with
      | lst es => refine ⟨"list", by simp [e], by simp, ?_⟩; cases t <;> (unfold isiEv at h; simp [e] at h; try (subst h; decide +kernel))
      | dk es => refine ⟨"dict", by simp [e], by simp, ?_⟩; cases t <;> (unfold isiEv at h; simp [e] at h; try (subst h; decide +kernel))
      | dt es => refine ⟨"dict", by simp [e], by simp, ?_⟩; cases t <;> (unfold isiEv at h; simp [e] at h; try (subst h; decide +kernel))
      | gone => cases t <;> (unfold isiEv at h; simp [e] at h)
  | exc c a => cases t <;> (unfold isiEv at h; cases h)
  | non => exact ⟨"NoneType", rfl, by simp, by cases t <;> (unfold isiEv at h; cases h; try decide +kernel)⟩
  | bl _ => exact ⟨"bool", rfl, by simp, by cases t <;> (unfold isiEv at h; cases h; try decide +kernel)⟩
  | int _ => exact ⟨"int", rfl, by simp, by cases t <;> (unfold isiEv at h; cases h; try decide +kernel)⟩
  | str _ => exact ⟨"str", rfl, by simp, by cases t <;> (unfold isiEv at h; cases h; try decide +kernel)⟩
  | tup _ => exact ⟨"tuple", rfl, by simp, by cases t <;> (unfold isiEv at h; cases h; try decide +kernel)⟩
  | lst _ => exact ⟨"list", rfl, by simp, by cases t <;> (unfold isiEv at h; cases h; try decide +kernel)⟩
  | scr _ => exact ⟨"list", rfl, by simp, by cases t <;> (unfold isiEv at h; cases h; try decide +kernel)⟩
  | edic => exact ⟨"dict", rfl, by simp, by cases t <;> (unfold isiEv at h; cases h; try decide +kernel)⟩
def rIsiZ (K : PySem.W.Frag) (t : Ty) : List V → Hp → VK → Prop := fun xs H Q => ∃ φ S d x b, Rs K φ S H ∧ xs = [x, .ty (tyName t)] ∧ Rv K φ H x d ∧ isiEv d t S = some b ∧ Q (.bl b) H
theorem z_isi (t : Ty) : CallR X (.builtin "isinstance") (rIsiZ X.K t) := by
  refine CallR.imp (call_isi (X := X)) fun xs H Q ⟨φ, S, d, x, b, rs, e, r, hb, q⟩ => ?_
  obtain ⟨ht, n, h1, h2, h3⟩ := isiEv_at hb
  subst h3
  exact ⟨x, .ty (tyName t), .type n, .type (tyName t), _, e, .ty _, tyOf_at rs r h1, kit_ty (isi_tab h2 ht), q⟩
/-! ### stores -/
def rSetZ (K : PySem.W.Frag) : TSet := fun o i v H Q => ∃ φ S a b c, Rs K φ S H ∧ Rv K φ H o a ∧ Rv K φ H i b ∧ Rv K φ H v c ∧ (match setEv a b c S with
  | some S' => ∀ H', Ext φ H φ H' → Rs K φ S' H' → Q H'
  | none => False)
theorem cell_at {K : PySem.W.Frag} {φ : Phi} {S : Store} {H : Hp} {v : V} {p : Nat} {ds : List D} (rs : Rs K φ S H) (r : Rv K φ H v (.ref p)) (e : S[p]? = some (.lst ds)) :
    ∃ a xs, v = .ref a ∧ φ.c[p]? = some (some a) ∧ H a = some (.lst xs) ∧ Rvs K φ H xs ds := by
  cases r with
  | ref h1 h2 =>
    obtain ⟨b, xs, e1, e2, e3⟩ := rs.cell p _ e
    rw [h1] at e1
    cases e1
    rcases h2 with h2 | h2 <;> cases h2
    exact ⟨_, xs, rfl, h1, e2, e3⟩
theorem set_dk (hu : X.A.units + 1 < cLine) : PSet X (fun o i v H Q => ∃ a kvs k, o = .ref a ∧ H a = some (.dK kvs) ∧ i = kV k ∧ kvs.length < sizeLine ∧ Q (upd H a (.dK (putK kvs k v)))) := by
  intro pins s σ H o i v ov iv u Q I ro ri rv q
  obtain ⟨a, kvs, k, rfl, e, rfl, hl, q⟩ := q
  cases ro
  exact d_setItem hu I (DPut.k e hl) ri rv fun s' I' => ⟨_, I', q⟩
theorem PSet.or {t t' : TSet} (h : PSet X t) (h' : PSet X t') : PSet X (fun o i v H Q => t o i v H Q ∨ t' o i v H Q) := fun pins s σ H o i v ov iv u Q I ro ri rv q => by
  rcases q with q | q
  · exact h pins s σ H o i v ov iv u Q I ro ri rv q
  · exact h' pins s σ H o i v ov iv u Q I ro ri rv q
theorem z_set (hu : X.A.units + 1 < cLine) : PSet X (rSetZ X.K) := by
  intro pins s σ H o i v ov iv u Q I ro ri rv q
  obtain ⟨φ, S, a, b, c, rs, ra, rb, rc, q⟩ := q
  refine (PSet.or (set_list (X := X)) (set_dk hu)) pins s σ H o i v ov iv u Q I ro ri rv ?_
  unfold setEv at q
  cases a <;> first | (exact q.elim) | skip
  rename_i p
  cases e : S[p]? with
  | none => simp only [e] at q
  | some cl =>
    cases cl with
    | lst ds =>
      simp only [e] at q
      cases b <;> first | (exact q.elim) | skip
      rename_i k
      cases rb
      cases e2 : ixN ds.length k with
      | none => simp only [e2, Option.map_none] at q
      | some j =>
        simp only [e2, Option.map_some] at q
        obtain ⟨x, xs, rfl, h1, h2, h3⟩ := cell_at rs ra e
        refine .inl ⟨x, xs, k, j, rfl, rfl, h2, by rw [h3.len]; exact e2, q _ (Ext.write rs h1) (rs.write h1 ⟨x, _, rfl, upd_same, ?_⟩)⟩
        exact (h3.set rc j).ext (Ext.write rs h1)
    | dk kvs =>
      simp only [e] at q
      cases e2 : keyOf b with
      | none => simp only [e2, Option.bind_none] at q
      | some k =>
        simp only [e2, Option.bind_some] at q
        by_cases hl : kvs.length < sizeLine
        · rw [if_pos hl] at q
          obtain ⟨p', w, xs, e3, rfl, q1, q2, q3, q4, q5⟩ := dk_at (kvs := kvs) rs ra (by unfold dkOf; simp [e])
          cases e3
          have hlen : xs.length = kvs.length := by simpa using congrArg List.length q4
          obtain ⟨m1, m2⟩ := put_at (k := k) (rc.ext (Ext.write rs q2)) q4 (q5.ext (Ext.write (o := .dK (putK xs k v)) rs q2))
          exact .inr ⟨w, xs, k, rfl, q3, key_at rb e2, by rw [hlen]; exact hl, q _ (Ext.write rs q2) (rs.write q2 ⟨w, _, rfl, upd_same, m1, m2⟩)⟩
        · rw [if_neg hl] at q
          exact q.elim
    | _ => simp only [e] at q
def rMt (K : PySem.W.Frag) (m : Mth) : V → List V → Hp → VK → Prop := fun x xs H Q => ∃ φ S a ds, Rs K φ S H ∧ Rv K φ H x a ∧ Rvs K φ H xs ds ∧ (match mthEv m a ds S with
  | some (d, S') => ∀ v H', Ext φ H φ H' → Rs K φ S' H' → Rv K φ H' v d → Q v H'
  | none => False)
theorem MtR.imp {id : String} {r r' : V → List V → Hp → VK → Prop} (h : MtR X id r) (k : ∀ x xs H Q, r' x xs H Q → r x xs H Q) : MtR X id r' := fun pins s σ H x xs v us Q I rx rxs q => h pins s σ H x xs v us Q I rx rxs (k _ _ _ _ q)
theorem mth_ref {m : Mth} {a : D} {ds : List D} {S : Store} (h : mthEv m a ds S ≠ none) : ∃ p es, a = .ref p ∧ S[p]? = some (.lst es) := by
  unfold mthEv at h
  split at h <;> first | (split at h <;> first | (exact ⟨_, _, rfl, by assumption⟩) | exact absurd rfl h) | exact absurd rfl h
theorem rMt_ref {K : PySem.W.Frag} {m : Mth} {x : V} {xs : List V} {H : Hp} {Q : VK} (h : rMt K m x xs H Q) : ∃ φ S p a ds es ys, Rs K φ S H ∧ x = .ref a ∧ S[p]? = some (.lst es) ∧ φ.c[p]? = some (some a) ∧ H a = some (.lst ys) ∧ Rvs K φ H ys es ∧ Rvs K φ H xs ds ∧
    ∃ d S', mthEv m (.ref p) ds S = some (d, S') ∧ ∀ v H', Ext φ H φ H' → Rs K φ S' H' → Rv K φ H' v d → Q v H' := by
  obtain ⟨φ, S, a, ds, rs, ra, r, q⟩ := h
  cases e : mthEv m a ds S with
  | none => rw [e] at q; exact q.elim
  | some o =>
    obtain ⟨d, S'⟩ := o
    obtain ⟨p, es, rfl, e2⟩ := mth_ref (by rw [e]; exact fun z => nomatch z)
    rw [e] at q
    obtain ⟨w, ys, rfl, h1, h2, h3⟩ := cell_at rs ra e2
    exact ⟨φ, S, p, w, ds, es, ys, rs, rfl, e2, h1, h2, h3, r, d, S', e, q⟩
theorem z_append : MtR X "list.append" (rMt X.K .append) := by
  refine MtR.imp (X := X) mt_append fun x xs H Q h => ?_
  obtain ⟨φ, S, p, a, ds, es, ys, rs, rfl, e, h1, h2, h3, r, d, S', e2, q⟩ := rMt_ref h
  match ds, r, e2 with
  | [y], r0, e2 =>
    obtain ⟨w, rfl, r1⟩ := Rvs.one r0
    have e3 : (match S[p]? with
      | some (.lst ds) => if ds.length < sizeLine then some (D.non, S.set p (.lst (ds ++ [y]))) else none
      | _ => none) = some (d, S') := e2
    rw [e] at e3
    dsimp only at e3
    by_cases hz : es.length < sizeLine
    · rw [if_pos hz] at e3
      cases e3
      refine ⟨a, ys, w, rfl, rfl, h2, by rw [h3.len]; exact hz, q _ _ (Ext.write rs h1) (rs.write h1 ⟨a, _, rfl, upd_same, ?_⟩) .non⟩
      exact (h3.app (.cons r1 .nil)).ext (Ext.write rs h1)
    · rw [if_neg hz] at e3
      cases e3
  | [], _, e2 => cases e2
  | _ :: _ :: _, _, e2 => cases e2
theorem z_reverse : MtR X "list.reverse" (rMt X.K .reverse) := by
  refine MtR.imp (X := X) mt_reverse fun x xs H Q h => ?_
  obtain ⟨φ, S, p, a, ds, es, ys, rs, rfl, e, h1, h2, h3, r, d, S', e2, q⟩ := rMt_ref h
  match ds, r, e2 with
  | [], r0, e2 =>
    cases r0
    have e3 : (match S[p]? with
      | some (.lst ds) => some (D.non, S.set p (.lst ds.reverse))
      | _ => none) = some (d, S') := e2
    rw [e] at e3
    cases e3
    refine ⟨a, ys, rfl, rfl, h2, q _ _ (Ext.write rs h1) (rs.write h1 ⟨a, _, rfl, upd_same, ?_⟩) .non⟩
    exact h3.rev.ext (Ext.write rs h1)
  | _ :: _, _, e2 => cases e2
theorem z_pop : MtR X "list.pop" (rMt X.K .pop) := by
  refine MtR.imp (X := X) mt_pop fun x xs H Q h => ?_
  obtain ⟨φ, S, p, a, ds, es, ys, rs, rfl, e, h1, h2, h3, r, d, S', e2, q⟩ := rMt_ref h
  match ds, r, e2 with
  | [], r0, e2 =>
    cases r0
    have e3 : (match S[p]? with
      | some (.lst ds) => (ds[ds.length - 1]?).map fun y => (y, S.set p (.lst ds.dropLast))
      | _ => none) = some (d, S') := e2
    rw [e] at e3
    dsimp only at e3
    cases e4 : es[es.length - 1]? with
    | none => rw [e4] at e3; cases e3
    | some y =>
      rw [e4] at e3
      cases e3
      obtain ⟨w, hw, rw'⟩ := h3.get e4
      refine ⟨a, ys, w, rfl, rfl, h2, by rw [h3.len]; exact hw, q _ _ (Ext.write rs h1) (rs.write h1 ⟨a, _, rfl, upd_same, ?_⟩) (rw'.ext (Ext.write rs h1))⟩
      exact h3.dropLast.ext (Ext.write rs h1)
  | _ :: _, _, e2 => cases e2
end
end Z

/-! Z, part R: t[::-1] of tuples. -/
namespace Z
theorem fmap_congr0 {α β : Type} {f g : α → Option β} : ∀ {l : List α}, (∀ x ∈ l, f x = g x) → l.filterMap f = l.filterMap g
  | [], _ => rfl
  | x :: xs, h => by
    rw [List.filterMap_cons, List.filterMap_cons, h x List.mem_cons_self, fmap_congr0 (l := xs) fun y hy => h y (List.mem_cons_of_mem _ hy)]
end Z
namespace HT
open PySem PySem.Spec PyProof.Rows
section
variable {prog : Program} {w : World} {A : Around} {E : Value → Shared → Prop} {s : Shared}
theorem zrev_applied {sl : Addr} {vs : Value} {n : Nat} {Q : Int × Int × Nat → Shared → Prop} (hs : s.heap.IsSliceOf sl .none .none vs) (ps : IsPart vs (some (-1)))
    (h : Q ((n : Int) - 1, -1, n) s) : wpAny (model prog w) A (Builtin.Slice.sliceApplied (.ref sl) (pure (n : Int))) Q E s := by
  obtain ⟨os, hos, hcs, hds⟩ := id hs
  unfold Builtin.Slice.sliceApplied Builtin.Slice.sliceFields
  refine wpAny_bind (wpAny_bind (wpAny_field hos hds (x := .none) rfl (wpAny_bind (wpAny_field hos hds (x := .none) rfl (wpAny_bind (wpAny_field hos hds (x := vs) rfl (wpAny_pure ?_)))))))
  refine wpAny_bind (slicePart_ ps ?_)
  show wpAny _ _ (if ((-1 : Int) == 0) = true then _ else _) _ _ s
  rw [if_neg (by decide)]
  refine wpAny_bind (slicePart_none (wpAny_bind (slicePart_none (wpAny_bind (wpAny_pure ?_)))))
  show wpAny _ _ (match Builtin.Slice.sliceAdjust none none (-1) (n : Int) with | (lo, hi) => pure (lo, (-1 : Int), Builtin.Slice.slicePlaces lo hi (-1))) _ _ s
  have e : Builtin.Slice.sliceAdjust none none (-1) (n : Int) = ((n : Int) - 1, -1) := by
    unfold Builtin.Slice.sliceAdjust
    simp
  rw [e]
  show wpAny _ _ (pure ((n : Int) - 1, (-1 : Int), Builtin.Slice.slicePlaces ((n : Int) - 1) (-1) (-1))) _ _ s
  have e2 : Builtin.Slice.slicePlaces ((n : Int) - 1) (-1) (-1) = n := by
    unfold Builtin.Slice.slicePlaces
    have h1 : ¬ ((-1 : Int) > 0) := by decide
    simp only [h1, if_false]
    by_cases hn : n = 0
    · subst hn; rfl
    · have h2 : (n : Int) - 1 > -1 := by omega
      simp only [h2, if_true, show (- -1 : Int) = 1 by decide, Int.ediv_one]
      omega
  rw [e2]
  exact wpAny_pure h
theorem zrev_pick (xs : Array Value) : ((List.range xs.size).filterMap fun (k : Nat) => xs[((xs.size : Int) - 1 + (k : Int) * -1).toNat]?).toArray = xs.toList.reverse.toArray := by
  apply congrArg
  apply List.ext_getElem?
  intro i
  have e : ((List.range xs.size).filterMap fun (k : Nat) => xs[((xs.size : Int) - 1 + (k : Int) * -1).toNat]?) = (List.range xs.size).map fun k => xs.toList.reverse.getD k .none := by
    rw [← List.filterMap_eq_map]
    apply Z.fmap_congr0
    intro k hk
    have hk := List.mem_range.mp hk
    have e1 : ((xs.size : Int) - 1 + (k : Int) * -1).toNat = xs.size - 1 - k := by omega
    rw [e1]
    have hl : k < xs.toList.reverse.length := by simpa using hk
    simp only [Function.comp]
    rw [List.getD_eq_getElem?_getD, List.getElem?_eq_getElem hl, Array.getElem?_eq_getElem (by omega)]
    simp
  rw [e]
  by_cases hi : i < xs.size
  · rw [List.getElem?_map, List.getElem?_range hi]
    have hl : i < xs.toList.reverse.length := by simpa using hi
    simp only [Option.map_some]
    rw [List.getD_eq_getElem?_getD, List.getElem?_eq_getElem hl]
    rfl
  · rw [List.getElem?_eq_none (by simp; omega), List.getElem?_eq_none (by simp; omega)]
theorem zrev_get {t sl : Addr} {items : Array Value} {vs : Value} {Q : Value → Shared → Prop} (ht : IsTup s.heap t items) (hs : s.heap.IsSliceOf sl .none .none vs) (ps : IsPart vs (some (-1)))
    (h : Q (.ref s.heap.objs.size) { s with heap := s.heap.push { cls := .type "tuple", data := .seq items.toList.reverse.toArray } })
    (hsz : items.size ≤ sizeLine) : wpAny (model prog w) A (getItem (.ref t) (.ref sl)) Q E s := by
  have hok : sizeOk (.seq items.toList.reverse.toArray) := by
    show items.toList.reverse.toArray.size ≤ sizeLine
    simpa using hsz
  obtain ⟨os, hos, hcs, hds⟩ := id hs
  have hTs : s.TypeIs (.ref sl) "slice" := ⟨os, hos, hcs⟩
  unfold getItem
  try with_reducible refine wpAny_holding ?_
  first | refine wpAny_bind (wpAny_pure ?_) | skip
  refine wpAny_bind (wpAny_sequenceKey ht.typeIs (by decide) ?_)
  refine wpAny_bind (wpAny_callSpecial?_slot (name := Str.ofString "__getitem__") ht.typeIs PyProof.Rows.slot_tuple_getitem
    (wpAny_call_entry PyProof.Rows.slot_tuple_getitem ht.typeIs entry_tuple_getitem ?_ (args_tuple_getitem _ _)))
  show wpAny _ _ (Builtin.Tuple.tupleItemsOf (.ref t) >>= _) _ _ s
  refine wpAny_bind (tupleItemsOf_ ht ?_)
  refine wpAny_bind (wpAny_typeOf hTs ?_)
  rw [if_pos (by decide)]
  refine wpAny_bind (zrev_applied hs ps ?_)
  have hno : ¬ ((((items.size : Int) - 1) == 0 && (-1 : Int) == 1 && items.size == items.size) = true) := by
    have e : ((-1 : Int) == 1) = false := by decide
    rw [e]
    simp
  show wpAny _ _ (if ((((items.size : Int) - 1) == 0 && (-1 : Int) == 1 && items.size == items.size) = true) then _ else _) _ _ s
  rw [if_neg hno, zrev_pick]
  first
    | exact wpAny_bind (m := Builtin.Tuple.tupleExact _) (wpAny_newObj_type (wpAny_pure ⟨_, rfl, wpAny_pure h⟩) hok)
    | exact wpAny_bind (m := Builtin.Tuple.tupleExact _) (wpAny_newObj_type (wpAny_bind (wpAny_pure (wpAny_pure ⟨_, rfl, wpAny_pure h⟩))) hok)
    | exact wpAny_bind (wpAny_bind (m := Builtin.Tuple.tupleExact _) (wpAny_newObj_type (wpAny_pure (wpAny_pure ⟨_, rfl, wpAny_pure h⟩)) hok))
    | exact wpAny_bind (wpAny_bind (m := Builtin.Tuple.tupleExact _) (wpAny_newObj_type (wpAny_pure ⟨_, rfl, wpAny_pure h⟩) hok))
end
end HT
namespace Z
open PySem PySem.Spec PyProof.Rows L2
section
variable {X : Cx}
def tRevZ (K : PySem.W.Frag) (te : TE) : TE := fun σ H Q => te σ H fun x H1 => ∃ a xs, x = .ref a ∧ ((SqL K H1 a xs ∧ ∀ p, H1 p = none → Q (.ref p) (upd H1 p (.lst xs.reverse))) ∨ (SqT K H1 a xs ∧ ∀ p, H1 p = none → Q (.ref p) (upd H1 p (.tup xs.reverse))))
theorem pe_revZ {e : Expr} {te : TE} {k : Nat} {p1 p2 p3 pos : Pos} (he : PE X e te) : PE X (.Subscript e (.Slice none none (some (.UnaryOp .USub (.Constant (.int 1) k p1) p2)) p3) pos) (tRevZ X.K te) := by
  refine ⟨fun pins s σ H Q I h => ?_⟩
  refine Subscript_ (thn (he.run pins s σ H _ I h) fun v s1 ⟨x, H1, I1, r1, q1⟩ => ?_)
  obtain ⟨a, xs, ex, q⟩ := q1
  subst ex
  cases r1
  have hst : PO X (some (.UnaryOp .USub (.Constant (.int 1) k p1) p2)) (tPart (tUn (rU fun i => .int (-i)) (tC (.int 1)))) := po_some (pe_un un_neg pe_int)
  refine wpAny_Slice (thn (po_none.run pins s1 σ H1 (fun o H2 => o = none ∧ H2 = H1) I1 ⟨rfl, rfl⟩) fun vl s2 ⟨l, H2, I2, pl, el, e2⟩ => ?_)
  subst el e2
  refine thn (po_none.run pins s2 σ H2 (fun o H3 => o = none ∧ H3 = H2) I2 ⟨rfl, rfl⟩) fun vu s3 ⟨u, H3, I3, pu, eu, e3⟩ => ?_
  subst eu e3
  refine thn (hst.run pins s3 σ H3 (fun o H4 => o = some (-1) ∧ H4 = H3) I3 ⟨1, rfl, -1, rfl, rfl, rfl⟩) fun vs s4 ⟨o, H4, I4, ps, eo, e4⟩ => ?_
  subst eo e4
  have I5 : Inv X pins σ H4 { s4 with heap := s4.heap.push { cls := .type "slice", data := .fields #[vl, vu, vs] } } := I4.kept (t' := s4.toks) fun b ob q => Heap.get?_push_of_some _ q
  show wpAny (model X.prog X.w) X.A (subscriptTail e (.Slice none none (some (.UnaryOp .USub (.Constant (.int 1) k p1) p2)) p3) (.ref a) (.ref s4.heap.objs.size)) (EP X pins σ Q) X.xe { s4 with heap := s4.heap.push { cls := .type "slice", data := .fields #[vl, vu, vs] } }
  rcases q with ⟨hx, q⟩ | ⟨hx, q⟩
  · obtain ⟨its, r, ht, hz⟩ := I5.list hx
    have hlen := r.length
    refine tail_any (ops := [.ref a, .ref s4.heap.objs.size]) ht.isList.typeIs (PySem.slot_list_getitem.lookup) ?_ (by with_unfolding_all rfl)
    refine wpAny_getItem_list_slice ht.isList (Heap.IsSliceOf.new _ vl vu vs) pl pu ps (by decide) ?_ (by rw [List.size_toArray]; omega)
    rw [PySem.W.krv_pick]
    refine ⟨.ref _, _, I5.laid (t' := s4.toks) (o := .lst xs.reverse) (fun b ob q => Heap.get?_push_of_some _ q) (Nat.le_refl _) ?_, rfl, q _ (I5.hok.fresh (Nat.le_refl _))⟩
    exact ⟨by rw [List.length_reverse]; exact hz, _, 0, r.reverse, Heap.get?_push_size _ rfl⟩
  · obtain ⟨its, r, ht, hz⟩ := I5.tuple hx
    have hlen := r.length
    cases pl
    cases pu
    refine tail_any (ops := [.ref a, .ref s4.heap.objs.size]) ht.typeIs (PyProof.Rows.slot_tuple_getitem.lookup) ?_ (by with_unfolding_all rfl)
    refine HT.zrev_get ht (Heap.IsSliceOf.new _ .none .none vs) ps ?_ (by rw [List.size_toArray]; omega)
    refine ⟨.ref _, _, I5.laid (t' := s4.toks) (o := .tup xs.reverse) (fun b ob q => Heap.get?_push_of_some _ q) (Nat.le_refl _) ?_, rfl, q _ (I5.hok.fresh (Nat.le_refl _))⟩
    exact ⟨by rw [List.length_reverse]; exact hz, _, r.reverse, IsTup.new _ _⟩
end
end Z

/-! Z, part E: the constructs of expressions. -/
namespace Z
open PySem PySem.Spec PyProof.Rows L2
section
variable {X : Cx} {ec : Nat → Value} {F : Fn} {W : WX} {a b c e : Expr} {es rest : List Expr} {ca cb cc ce : CE} {pos : Pos}
theorem out_ok {K : PySem.W.Frag} {σ : St} {φ : Phi} {S : Store} {H : Hp} {d : D} {v : V} {Q : VK} (h : OutG (Rv K) K ec W σ φ H (.ok d S) Q) (rs : Rs K φ S H) (r : Rv K φ H v d) : Q v H := h φ v H (Ext.refl _ _) rs r
theorem g_var {i : Nat} {x : Str} (hN : X.N[i]? = some x) (hv : Vis X.env.scope x) (hd : (x == ("__debug__" : Str)) = false) (hcd : (x == ("__classdict__" : Str)) = false) : GE X ec F W (.Name x pos) (.var i) := by
  refine PE.imp (pe_var hN hv hd hcd) fun σ H Q ⟨φ, δ, S, rs, re, h⟩ => ?_
  unfold ev at h
  cases e : δ[i]? with
  | none => simp only [e] at h; exact h.elim
  | some o =>
    cases o with
    | none => simp only [e] at h; exact h.elim
    | some d =>
      simp only [e] at h
      obtain ⟨v, h1, h2⟩ := re.2 i d e
      exact ⟨v, h1, out_ok h rs h2⟩
theorem ev_con (d : D) (δ : Env) (S : Store) : ev F (.con d) δ S = .ok d S := by unfold ev; rfl
theorem g_int {i j} : GE X ec F W (.Constant (.int i) j pos) (.con (.int i)) := PE.imp pe_int fun _ _ _ ⟨_, _, _, rs, _, h⟩ => out_ok (by rw [ev_con] at h; exact h) rs (.int i)
theorem g_bl {i j} : GE X ec F W (.Constant (.bool i) j pos) (.con (.bl i)) := PE.imp pe_bl fun _ _ _ ⟨_, _, _, rs, _, h⟩ => out_ok (by rw [ev_con] at h; exact h) rs (.bl i)
theorem g_str {i j} : GE X ec F W (.Constant (.str i) j pos) (.con (.str i)) := PE.imp pe_str fun _ _ _ ⟨_, _, _, rs, _, h⟩ => out_ok (by rw [ev_con] at h; exact h) rs (.str i)
theorem g_non {j} : GE X ec F W (.Constant .none j pos) (.con .non) := PE.imp pe_non fun _ _ _ ⟨_, _, _, rs, _, h⟩ => out_ok (by rw [ev_con] at h; exact h) rs .non
/-- a constant of the module -/
theorem g_glob {x : Str} {d : D} {u : Value} {v : V} (hg : Gl X x) (hm : X.mg x = some u) (r : RelV v u) (hd : (x == ("__debug__" : Str)) = false) (k : ∀ φ H, Rv X.K φ H v d) : GE X ec F W (.Name x pos) (.con d) :=
  PE.imp (pe_glob hg hm r hd) fun _ _ _ ⟨_, _, _, rs, _, h⟩ => out_ok (by rw [ev_con] at h; exact h) rs (k _ _)
/-! ### several -/
theorem g_nil : GA X ec F W [] .nil := PA.imp pa_nil fun σ H Q ⟨φ, δ, S, rs, re, h⟩ => by
  unfold evs at h
  exact h φ [] H (Ext.refl _ _) rs .nil
theorem starEach_of (e : Expr) (es : List Expr) (env : PySem.Env) (h : ∀ x p, e ≠ .Starred x p) : starEach (e :: es) env = (false, eval e env) :: starEach es env := by
  cases e <;> first | rfl | exact absurd rfl (h _ _)
theorem g_cons (hs : ∀ x p, e ≠ .Starred x p) (he : GE X ec F W e ce) (hr : GA X ec F W es cb) : GA X ec F W (e :: es) (.cons ce cb) := by
  refine PA.imp (pa_cons he hr (starEach_of e es X.env hs)) fun σ H Q ⟨φ, δ, S, rs, re, h⟩ => ?_
  unfold evs at h
  refine ⟨φ, δ, S, rs, re, h.bind.mono fun v H1 ⟨φ1, x, S1, e1, rs1, r1, h1⟩ => ?_⟩
  refine ⟨φ1, δ, S1, rs1, re.ext e1, h1.bind.mono fun vs H2 ⟨φ2, xs, S2, e2, rs2, r2, h2⟩ => ?_⟩
  exact h2 φ2 (v :: vs) H2 (Ext.refl _ _) rs2 (.cons (r1.ext e2) r2)
theorem Rvs_size {K : PySem.W.Frag} {φ : Phi} {H : Hp} : True := trivial
/-- displays: of written items, few -/
def esLen : CE → Nat
  | .cons _ es => esLen es + 1
  | _ => 0
theorem evs_len : ∀ {c : CE} {δ : Env} {S : Store} {ds : List D} {S' : Store}, evs F c δ S = .ok ds S' → ds.length = esLen c
  | .nil, _, _, _, _, h => by
    unfold evs at h
    cases h
    rfl
  | .cons e es, δ, S, ds, S', h => by
    unfold evs at h
    cases h1 : ev F e δ S with
    | ok d S1 =>
      rw [h1, R.bind_ok] at h
      cases h2 : evs F es δ S1 with
      | ok d2 S2 =>
        rw [h2, R.bind_ok] at h
        cases h
        rw [List.length_cons, evs_len h2]
        rfl
      | exc c a S2 => rw [h2, R.bind_exc] at h; cases h
      | stuck => rw [h2, R.bind_stuck] at h; cases h
    | exc c a S2 => rw [h1, R.bind_exc] at h; cases h
    | stuck => rw [h1, R.bind_stuck] at h; cases h
  | .var _, _, _, _, _, h => by unfold evs at h; cases h
  | .con _, _, _, _, _, h => by unfold evs at h; cases h
  | .edic, _, _, _, _, h => by unfold evs at h; cases h
  | .one _, _, _, _, _, h => by unfold evs at h; cases h
  | .tup _, _, _, _, _, h => by unfold evs at h; cases h
  | .lst _, _, _, _, _, h => by unfold evs at h; cases h
  | .mlst _, _, _, _, _, h => by unfold evs at h; cases h
  | .mdk, _, _, _, _, h => by unfold evs at h; cases h
  | .mdt, _, _, _, _, h => by unfold evs at h; cases h
  | .bin _ _ _, _, _, _, _, h => by unfold evs at h; cases h
  | .neg _, _, _, _, _, h => by unfold evs at h; cases h
  | .cmp _ _ _, _, _, _, _, h => by unfold evs at h; cases h
  | .chain _ _ _ _ _, _, _, _, _, h => by unfold evs at h; cases h
  | .not _, _, _, _, _, h => by unfold evs at h; cases h
  | .and _ _, _, _, _, _, h => by unfold evs at h; cases h
  | .or _ _, _, _, _, _, h => by unfold evs at h; cases h
  | .ife _ _ _, _, _, _, _, h => by unfold evs at h; cases h
  | .idx _ _, _, _, _, _, h => by unfold evs at h; cases h
  | .sl _ _ _, _, _, _, _, h => by unfold evs at h; cases h
  | .rev _, _, _, _, _, h => by unfold evs at h; cases h
  | .call _ _, _, _, _, _, h => by unfold evs at h; cases h
  | .blt _ _, _, _, _, _, h => by unfold evs at h; cases h
  | .isi _ _, _, _, _, _, h => by unfold evs at h; cases h
  | .mth _ _ _, _, _, _, _, h => by unfold evs at h; cases h
  | .rng _ _, _, _, _, _, h => by unfold evs at h; cases h
  | .zip _ _, _, _, _, _, h => by unfold evs at h; cases h
  | .enum _, _, _, _, _, h => by unfold evs at h; cases h
  | .comp _ _ _ _ _ _, _, _, _, _, h => by unfold evs at h; cases h
theorem small_of {n : Nat} (h : n ≤ 1000) : n ≤ sizeLine := by rw [sizeLine_eq]; omega
/-- .. with the length told -/
theorem GA.len (h : GA X ec F W es ca) : PA X es fun σ H Q => ∃ φ δ S, Rs X.K φ S H ∧ RE X.K φ H δ σ ∧ OutG (fun φ H vs ds => Rvs X.K φ H vs ds ∧ ds.length = esLen ca) X.K ec W σ φ H (evs F ca δ S) Q := by
  refine PA.imp h fun σ H Q ⟨φ, δ, S, rs, re, q⟩ => ⟨φ, δ, S, rs, re, ?_⟩
  cases e : evs F ca δ S with
  | ok ds S' =>
    rw [e] at q
    exact fun φ' v H' e' rs' r' => q φ' v H' e' rs' ⟨r', evs_len e⟩
  | exc c a S' => rw [e] at q; exact q
  | stuck => rw [e] at q; exact q
theorem g_tup {k} (hl : esLen ca ≤ 1000) (h : GA X ec F W es ca) : GE X ec F W (.Tuple es k pos) (.tup ca) := by
  refine PE.imp (pe_tup (GA.len h)) fun σ H Q ⟨φ, δ, S, rs, re, h⟩ => ?_
  unfold ev at h
  refine ⟨φ, δ, S, rs, re, h.bind.mono fun vs H1 ⟨φ1, xs, S1, e1, rs1, ⟨r1, l1⟩, h1⟩ => ⟨by rw [r1.len, l1]; exact small_of hl, fun p hp => ?_⟩⟩
  exact h1 φ1 _ _ (Ext.fresh hp) (rs1.fresh hp) (.tup (.inl ⟨upd_same, rs1.free hp⟩) (r1.ext (Ext.fresh hp)))
theorem g_lst (hl : esLen ca ≤ 1000) (h : GA X ec F W es ca) : GE X ec F W (.List es pos) (.lst ca) := by
  refine PE.imp (pe_lst (GA.len h)) fun σ H Q ⟨φ, δ, S, rs, re, h⟩ => ?_
  unfold ev at h
  refine ⟨φ, δ, S, rs, re, h.bind.mono fun vs H1 ⟨φ1, xs, S1, e1, rs1, ⟨r1, l1⟩, h1⟩ => ⟨by rw [r1.len, l1]; exact small_of hl, fun p hp => ?_⟩⟩
  exact h1 φ1 _ _ (Ext.fresh hp) (rs1.fresh hp) (.lst upd_same (rs1.free hp) (r1.ext (Ext.fresh hp)))
theorem g_mlst (hl : esLen ca ≤ 1000) (h : GA X ec F W es ca) : GE X ec F W (.List es pos) (.mlst ca) := by
  refine PE.imp (pe_lst (GA.len h)) fun σ H Q ⟨φ, δ, S, rs, re, h⟩ => ?_
  unfold ev at h
  refine ⟨φ, δ, S, rs, re, h.bind.mono fun vs H1 ⟨φ1, xs, S1, e1, rs1, ⟨r1, l1⟩, h1⟩ => ⟨by rw [r1.len, l1]; exact small_of hl, fun p hp => ?_⟩⟩
  refine h1 (φ1.add p) _ _ (Ext.alloc hp) (rs1.alloc hp ⟨p, vs, rfl, upd_same, r1.ext (Ext.alloc hp)⟩) (.ref (o := some p) ?_ (.inr rfl))
  show (φ1.c ++ [some p])[S1.length]? = _
  rw [← rs1.len, List.getElem?_append_right (Nat.le_refl _), Nat.sub_self]
  rfl
/-! ### operators -/
theorem rB_of {K : PySem.W.Frag} {σ : St} {φ : Phi} {H : Hp} {δ : Env} {S : Store} {Q : VK} {f : D → D → Store → Option D} (rs : Rs K φ S H) (re : RE K φ H δ σ)
    (h : OutG (Rv K) K ec W σ φ H ((ev F ca δ S).bind fun x S1 => (ev F cb δ S1).bind fun y S2 => R.opt (f x y S2) S2) Q) : tOp (rB K f) (rdE K ec F W ca) (rdE K ec F W cb) σ H Q := by
  refine ⟨φ, δ, S, rs, re, h.bind.mono fun v H1 ⟨φ1, x, S1, e1, rs1, r1, h1⟩ => ?_⟩
  refine ⟨φ1, δ, S1, rs1, re.ext e1, h1.bind.mono fun u H2 ⟨φ2, y, S2, e2, rs2, r2, h2⟩ => ?_⟩
  exact ⟨φ2, S2, x, y, rs2, r1.ext e2, r2, h2.ov⟩
theorem g_bin (op : Bop) (ha : GE X ec F W a ca) (hb : GE X ec F W b cb) : GE X ec F W (.BinOp a (bopOp op) b pos) (.bin op ca cb) := by
  refine PE.imp (pe_op (z_bin op) ha hb) fun σ H Q ⟨φ, δ, S, rs, re, h⟩ => ?_
  unfold ev at h
  exact rB_of rs re h
theorem g_cmp (hu : X.A.units + 65 < cLine) (op : Cop) (ha : GE X ec F W a ca) (hb : GE X ec F W b cb) (hm : behindInMarks (copOp op) b = false) : GE X ec F W (.Compare a [copOp op] [b] pos) (.cmp op ca cb) := by
  refine PE.imp (pe_cmpR (z_cmp hu op) ha hb hm) fun σ H Q ⟨φ, δ, S, rs, re, h⟩ => ?_
  unfold ev at h
  exact rB_of rs re h
theorem g_neg (ha : GE X ec F W a ca) : GE X ec F W (.UnaryOp .USub a pos) (.neg ca) := by
  refine PE.imp (pe_un un_neg ha) fun σ H Q ⟨φ, δ, S, rs, re, h⟩ => ?_
  unfold ev at h
  refine ⟨φ, δ, S, rs, re, h.bind.mono fun v H1 ⟨φ1, x, S1, e1, rs1, r1, h1⟩ => ?_⟩
  cases r1 with
  | int i => exact ⟨i, rfl, out_ok h1 rs1 (.int _)⟩
  | _ => exact h1.elim
theorem g_idx (hu : X.A.units + 65 < cLine) (hs : PlainIx b) (ha : GE X ec F W a ca) (hb : GE X ec F W b cb) : GE X ec F W (.Subscript a b pos) (.idx ca cb) := by
  refine PE.imp (pe_ix (z_ix (by omega)) ha hb hs) fun σ H Q ⟨φ, δ, S, rs, re, h⟩ => ?_
  unfold ev at h
  exact rB_of rs re h
theorem g_ife {t : Expr} {ct : CE} (ht : GT X ec F W t ct) (ha : GE X ec F W a ca) (hb : GE X ec F W b cb) : GE X ec F W (.IfExp t a b pos) (.ife ct ca cb) := by
  refine PE.imp (pe_ifExp ht ha hb) fun σ H Q ⟨φ, δ, S, rs, re, h⟩ => ?_
  unfold ev at h
  refine ⟨φ, δ, S, rs, re, fun d S' e => ?_, ?_⟩
  · rw [e, R.bind_ok] at h
    cases d with
    | bl b => exact ⟨b, rfl⟩
    | _ => exact h.elim
  · refine (OutG.bind (rel := relB) h).mono fun v H1 ⟨φ1, x, S1, e1, rs1, r1, h1⟩ => ?_
    cases r1
    cases v with
    | true => exact ⟨φ1, δ, S1, rs1, re.ext e1, h1⟩
    | false => exact ⟨φ1, δ, S1, rs1, re.ext e1, h1⟩
/-! ### tests -/
/-- a value that is a truth, as a test -/
theorem t_val (h : GE X ec F W e ce) (he : ∀ whole, isTrue e X.env whole = (do let v ← whole; standAt e.pos; holding [v] (truthy v))) : GT X ec F W e ce := by
  refine PT.imp (pt_val h he) fun σ H Q ⟨φ, δ, S, rs, re, hb, h⟩ => ⟨φ, δ, S, rs, re, ?_⟩
  cases e1 : ev F ce δ S with
  | ok d S' =>
    rw [e1] at h
    obtain ⟨b, rfl⟩ := hb d S' e1
    intro φ' v H' e' rs' r'
    cases r'
    exact ⟨b, rfl, h φ' b H' e' rs' rfl⟩
  | exc c a S' => rw [e1] at h; exact h
  | stuck => rw [e1] at h; exact h
theorem rdT_E {K : PySem.W.Frag} {c : CE} {σ : St} {H : Hp} {Q : Bool → Hp → Prop} (h : rdT K ec F W c σ H Q) : rdE K ec F W c σ H fun x H' => ∃ k, x = .bl k ∧ Q k H' := by
  obtain ⟨φ, δ, S, rs, re, hb, h⟩ := h
  refine ⟨φ, δ, S, rs, re, ?_⟩
  cases e1 : ev F c δ S with
  | ok d S' =>
    rw [e1] at h
    obtain ⟨b, rfl⟩ := hb d S' e1
    intro φ' v H' e' rs' r'
    cases r'
    exact ⟨b, rfl, h φ' b H' e' rs' rfl⟩
  | exc c a S' => rw [e1] at h; exact h
  | stuck => rw [e1] at h; exact h
theorem t_cmp (hu : X.A.units + 65 < cLine) (op : Cop) (ha : GE X ec F W a ca) (hb : GE X ec F W b cb) (hm : behindInMarks (copOp op) b = false) : GT X ec F W (.Compare a [copOp op] [b] pos) (.cmp op ca cb) := by
  refine PT.imp (pt_cmpR (z_cmp hu op) ha hb hm) fun σ H Q h => ?_
  obtain ⟨φ, δ, S, rs, re, h⟩ := rdT_E h
  unfold ev at h
  exact rB_of rs re h
theorem t_not (ha : GT X ec F W a ca) : GT X ec F W (.UnaryOp .Not a pos) (.not ca) := by
  refine PT.imp (pt_not ha) fun σ H Q ⟨φ, δ, S, rs, re, hb, h⟩ => ?_
  unfold ev at h
  refine ⟨φ, δ, S, rs, re, fun d S' e => ?_, ?_⟩
  · rw [e, R.bind_ok] at h
    cases d with
    | bl b => exact ⟨b, rfl⟩
    | _ => exact h.elim
  · refine (OutG.bind (rel := relB) h).mono fun v H1 ⟨φ1, x, S1, e1, rs1, r1, h1⟩ => ?_
    cases r1
    exact h1 φ1 _ H1 (Ext.refl _ _) rs1 rfl
theorem g_not (ha : GE X ec F W a ca) : GE X ec F W (.UnaryOp .Not a pos) (.not ca) := by
  refine PE.imp (pe_not ha) fun σ H Q ⟨φ, δ, S, rs, re, h⟩ => ?_
  unfold ev at h
  refine ⟨φ, δ, S, rs, re, h.bind.mono fun v H1 ⟨φ1, x, S1, e1, rs1, r1, h1⟩ => ?_⟩
  cases r1 with
  | bl b => exact ⟨b, rfl, out_ok h1 rs1 (.bl _)⟩
  | _ => exact h1.elim
/-- and, or as values: all but the last truths -/
theorem g_one {op} (ha : GE X ec F W a ca) : GE X ec F W (.BoolOp op [a] pos) ca := pe_one ha
theorem g_and (ha : GE X ec F W a ca) (hb : GE X ec F W (.BoolOp .And (b :: rest) pos) cb) : GE X ec F W (.BoolOp .And (a :: b :: rest) pos) (.and ca cb) := by
  refine PE.imp (pe_and ha hb) fun σ H Q ⟨φ, δ, S, rs, re, h⟩ => ?_
  unfold ev at h
  refine ⟨φ, δ, S, rs, re, h.bind.mono fun v H1 ⟨φ1, x, S1, e1, rs1, r1, h1⟩ => ?_⟩
  cases r1 with
  | bl b =>
    refine ⟨b, rfl, ?_⟩
    cases b with
    | true => exact ⟨φ1, δ, S1, rs1, re.ext e1, h1⟩
    | false => exact out_ok h1 rs1 (.bl _)
  | _ => exact h1.elim
theorem g_or (ha : GE X ec F W a ca) (hb : GE X ec F W (.BoolOp .Or (b :: rest) pos) cb) : GE X ec F W (.BoolOp .Or (a :: b :: rest) pos) (.or ca cb) := by
  refine PE.imp (pe_or ha hb) fun σ H Q ⟨φ, δ, S, rs, re, h⟩ => ?_
  unfold ev at h
  refine ⟨φ, δ, S, rs, re, h.bind.mono fun v H1 ⟨φ1, x, S1, e1, rs1, r1, h1⟩ => ?_⟩
  cases r1 with
  | bl b =>
    refine ⟨b, rfl, ?_⟩
    cases b with
    | false => exact ⟨φ1, δ, S1, rs1, re.ext e1, h1⟩
    | true => exact out_ok h1 rs1 (.bl _)
  | _ => exact h1.elim
/-- .. as tests, whatever the whole is -/
def GW (X : Cx) (ec : Nat → Value) (F : Fn) (W : WX) (e : Expr) (c : CE) : Prop := PW X e (rdT X.K ec F W c)
theorem w_and1 (ha : GT X ec F W a ca) : GW X ec F W (.BoolOp .And [a] pos) ca := pw_and1 ha
theorem w_or1 (ha : GT X ec F W a ca) : GW X ec F W (.BoolOp .Or [a] pos) ca := pw_or1 ha
theorem w_and (ha : GT X ec F W a ca) (hb : GW X ec F W (.BoolOp .And (b :: rest) pos) cb) : GW X ec F W (.BoolOp .And (a :: b :: rest) pos) (.and ca cb) := by
  refine PW.imp (pw_and ha hb) fun σ H Q ⟨φ, δ, S, rs, re, hq, h⟩ => ?_
  unfold ev at h hq
  refine ⟨φ, δ, S, rs, re, fun d S' e => ?_, ?_⟩
  · rw [e, R.bind_ok] at h
    cases d with
    | bl b => exact ⟨b, rfl⟩
    | _ => exact h.elim
  · cases e1 : ev F ca δ S with
    | ok x S1 =>
      rw [e1, R.bind_ok] at h hq
      intro φ1 v H1 e2 rs1 r1
      cases r1
      cases v with
      | true => exact ⟨φ1, δ, S1, rs1, re.ext e2, hq, OutG.ext e2 h⟩
      | false => exact h φ1 false H1 e2 rs1 rfl
    | exc c a S1 => rw [e1] at h; exact h
    | stuck => rw [e1] at h; exact h
theorem w_or (ha : GT X ec F W a ca) (hb : GW X ec F W (.BoolOp .Or (b :: rest) pos) cb) : GW X ec F W (.BoolOp .Or (a :: b :: rest) pos) (.or ca cb) := by
  refine PW.imp (pw_or ha hb) fun σ H Q ⟨φ, δ, S, rs, re, hq, h⟩ => ?_
  unfold ev at h hq
  refine ⟨φ, δ, S, rs, re, fun d S' e => ?_, ?_⟩
  · rw [e, R.bind_ok] at h
    cases d with
    | bl b => exact ⟨b, rfl⟩
    | _ => exact h.elim
  · cases e1 : ev F ca δ S with
    | ok x S1 =>
      rw [e1, R.bind_ok] at h hq
      intro φ1 v H1 e2 rs1 r1
      cases r1
      cases v with
      | false => exact ⟨φ1, δ, S1, rs1, re.ext e2, hq, OutG.ext e2 h⟩
      | true => exact h φ1 true H1 e2 rs1 rfl
    | exc c a S1 => rw [e1] at h; exact h
    | stuck => rw [e1] at h; exact h
theorem GW.t (h : GW X ec F W e ce) : GT X ec F W e ce := PW.pt h
/-! ### chains -/
theorem chain_of {K : PySem.W.Frag} {σ : St} {φ : Phi} {H : Hp} {δ : Env} {S : Store} {Q : VK} {o1 o2 : Cop} (rs : Rs K φ S H) (re : RE K φ H δ σ)
    (h : OutG (Rv K) K ec W σ φ H (ev F (.chain o1 o2 ca cb cc) δ S) Q) : tChain (rB K (cmpEv o1)) (rB K (cmpEv o2)) (rdE K ec F W ca) (rdE K ec F W cb) (rdE K ec F W cc) σ H Q := by
  unfold ev at h
  refine ⟨φ, δ, S, rs, re, h.bind.mono fun v H1 ⟨φ1, x, S1, e1, rs1, r1, h1⟩ => ?_⟩
  refine ⟨φ1, δ, S1, rs1, re.ext e1, h1.bind.mono fun u H2 ⟨φ2, y, S2, e2, rs2, r2, h2⟩ => ?_⟩
  refine ⟨φ2, S2, x, y, rs2, r1.ext e2, r2, ?_⟩
  unfold cmpEv
  cases ec1 : cmpB o1 x y S2 with
  | none => simp only [ec1] at h2; exact h2.elim
  | some k =>
    simp only [ec1] at h2
    intro w H3 e3 rs3 r3
    cases r3
    refine ⟨k, rfl, ?_⟩
    cases k with
    | false => exact h2 φ2 _ H3 e3 rs3 (.bl _)
    | true =>
      rw [if_pos rfl]
      refine ⟨φ2, δ, S2, rs3, (re.ext e1).ext (e2.trans e3), (OutG.ext e3 h2).bind.mono fun z H4 ⟨φ4, d4, S4, e4, rs4, r4, h4⟩ => ?_⟩
      exact ⟨φ4, S4, y, d4, rs4, r2.ext (e3.trans e4), r4, h4.ov⟩
theorem lastMarks2 {op op' : CmpOp} {b c : Expr} (h : behindInMarks op' c = false) : lastMarks [op, op'] [b, c] = false := h
theorem g_chain (hu : X.A.units + 65 < cLine) (o1 o2 : Cop) (ha : GE X ec F W a ca) (hb : GE X ec F W b cb) (hc : GE X ec F W c cc) (hm : behindInMarks (copOp o2) c = false) : GE X ec F W (.Compare a [copOp o1, copOp o2] [b, c] pos) (.chain o1 o2 ca cb cc) :=
  PE.imp (pe_chain (z_cmp hu o1) (z_cmp hu o2) ha hb hc (lastMarks2 hm)) fun σ H Q ⟨φ, δ, S, rs, re, h⟩ => chain_of rs re h
theorem t_chain (hu : X.A.units + 65 < cLine) (o1 o2 : Cop) (ha : GE X ec F W a ca) (hb : GE X ec F W b cb) (hc : GE X ec F W c cc) (hm : behindInMarks (copOp o2) c = false) : GT X ec F W (.Compare a [copOp o1, copOp o2] [b, c] pos) (.chain o1 o2 ca cb cc) :=
  PT.imp (pt_chain (z_cmp hu o1) (z_cmp hu o2) ha hb hc (lastMarks2 hm)) fun σ H Q h => by
    obtain ⟨φ, δ, S, rs, re, h⟩ := rdT_E h
    exact chain_of rs re h
/-! ### slices -/
def GO (X : Cx) (ec : Nat → Value) (F : Fn) (W : WX) (o : Option Expr) (c : CE) : Prop := PO X o fun σ H Q => ∃ φ δ S, Rs X.K φ S H ∧ RE X.K φ H δ σ ∧ OutG (fun _ _ o d => o = d) X.K ec W σ φ H (evo F c δ S) Q
theorem PO.imp {o : Option Expr} {t t' : TO} (h : PO X o t) (k : ∀ σ H Q, t' σ H Q → t σ H Q) : PO X o t' := ⟨fun pins s σ H Q I q => h.run pins s σ H Q I (k σ H Q q)⟩
theorem o_none : GO X ec F W none .nil := PO.imp po_none fun σ H Q ⟨φ, δ, S, rs, re, h⟩ => by
  unfold evo at h
  exact h φ none H (Ext.refl _ _) rs rfl
theorem o_some (h : GE X ec F W e ce) : GO X ec F W (some e) (.one ce) := PO.imp (po_some h) fun σ H Q ⟨φ, δ, S, rs, re, h⟩ => by
  unfold evo at h
  refine ⟨φ, δ, S, rs, re, h.bind.mono fun v H1 ⟨φ1, x, S1, e1, rs1, r1, h1⟩ => ?_⟩
  cases r1 with
  | int i => exact ⟨i, rfl, h1 φ1 _ H1 (Ext.refl _ _) rs1 rfl⟩
  | _ => exact h1.elim
theorem g_sl {lo hi : Option Expr} {cl ch : CE} {p2 : Pos} (ha : GE X ec F W a ca) (hl : GO X ec F W lo cl) (hh : GO X ec F W hi ch) : GE X ec F W (.Subscript a (.Slice lo hi none p2) pos) (.sl ca cl ch) := by
  refine PE.imp (pe_slice z_sl ha hl hh) fun σ H Q ⟨φ, δ, S, rs, re, h⟩ => ?_
  unfold ev at h
  refine ⟨φ, δ, S, rs, re, h.bind.mono fun v H1 ⟨φ1, x, S1, e1, rs1, r1, h1⟩ => ?_⟩
  refine ⟨φ1, δ, S1, rs1, re.ext e1, (OutG.bind (rel := fun _ _ o d => o = d) h1).mono fun l H2 ⟨φ2, l', S2, e2, rs2, r2, h2⟩ => ?_⟩
  subst r2
  refine ⟨φ2, δ, S2, rs2, (re.ext e1).ext e2, (OutG.bind (rel := fun _ _ o d => o = d) h2).mono fun u H3 ⟨φ3, u', S3, e3, rs3, r3, h3⟩ => ?_⟩
  subst r3
  exact ⟨φ3, S3, x, rs3, r1.ext (e2.trans e3), h3.ov⟩
theorem g_rev {k : Nat} {p1 p2 p3 : Pos} (ha : GE X ec F W a ca) : GE X ec F W (.Subscript a (.Slice none none (some (.UnaryOp .USub (.Constant (.int 1) k p1) p2)) p3) pos) (.rev ca) := by
  refine PE.imp (pe_revZ ha) fun σ H Q ⟨φ, δ, S, rs, re, h⟩ => ?_
  unfold ev at h
  refine ⟨φ, δ, S, rs, re, h.bind.mono fun x H1 ⟨φ1, d, S1, e1, rs1, r1, h1⟩ => ?_⟩
  have q := OutG.ov h1
  have lst : ∀ {b : D}, Rv X.K φ1 H1 x b → OV X.K φ1 S1 H1 ((seqL S1 b).map fun ds => .lst ds.reverse) Q → ∃ a xs, x = .ref a ∧ ((SqL X.K H1 a xs ∧ ∀ p, H1 p = none → Q (.ref p) (upd H1 p (.lst xs.reverse))) ∨ (SqT X.K H1 a xs ∧ ∀ p, H1 p = none → Q (.ref p) (upd H1 p (.tup xs.reverse)))) := fun {b} rb q => by
    cases e : seqL S1 b with
    | none => simp only [e] at q; exact q.elim
    | some ds =>
      simp only [e] at q
      obtain ⟨p, xs, rfl, hq, rr⟩ := seqL_at rs1 rb e
      exact ⟨p, xs, rfl, .inl ⟨SqL.of hq, fun l hl => OV.newL q rs1 rr.rev hl⟩⟩
  cases r1 with
  | tup t r => exact ⟨_, _, rfl, .inr ⟨t.sq, fun l hl => OV.new q rs1 r.rev hl⟩⟩
  | lst g1 g2 g3 => exact lst (.lst g1 g2 g3) q
  | ref g1 g2 => exact lst (.ref g1 g2) q
  | _ => exact q.elim
/-- {} that nobody changes -/
theorem g_edic : GE X ec F W (.Dict [] [] pos) .edic := PE.imp pe_dnewK fun σ H Q ⟨φ, δ, S, rs, re, h⟩ => by
  unfold ev at h
  exact fun p hp => h φ _ _ (Ext.fresh hp) (rs.fresh hp) (.edic upd_same (rs.free hp))
/-- {} that will change -/
theorem g_mdk : GE X ec F W (.Dict [] [] pos) .mdk := PE.imp pe_dnewK fun σ H Q ⟨φ, δ, S, rs, re, h⟩ => by
  unfold ev at h
  refine fun p hp => h (φ.add p) _ _ (Ext.alloc hp) (rs.alloc hp ⟨p, [], rfl, upd_same, rfl, .nil⟩) (.ref (o := some p) ?_ (.inr rfl))
  show (φ.c ++ [some p])[S.length]? = some (some p)
  rw [← rs.len, List.getElem?_append_right (Nat.le_refl _), Nat.sub_self]
  rfl
end
end Z

/-! Z, part F: calls, loops' walks, comprehensions. -/
namespace Z
open PySem PySem.Spec PyProof.Rows L2
def noStar : Expr → Bool
  | .Starred _ _ => false
  | _ => true
def noStars (es : List Expr) : Bool := es.all noStar
theorem noStar_of {e : Expr} (h : noStar e = true) : ∀ x p, e ≠ .Starred x p := fun x p z => by
  subst z
  cases h
theorem starEach_plain (env : PySem.Env) : ∀ {es : List Expr}, noStars es = true → starEach es env = es.map fun e => (false, eval e env)
  | [], _ => rfl
  | e :: es, h => by
    have h' : (noStar e && noStars es) = true := h
    rw [Bool.and_eq_true] at h'
    rw [starEach_of e es env (noStar_of h'.1), starEach_plain env h'.2]
    rfl
theorem plain_any (env : PySem.Env) (pos : Pos) {es : List Expr} (h : noStars es = true) : (backTo pos (starEach es env)).any (·.1) = false := by
  rw [starEach_plain env h]
  unfold backTo
  induction es with
  | nil => rfl
  | cons e es ih =>
    have h' : (noStar e && noStars es) = true := h
    rw [Bool.and_eq_true] at h'
    rw [List.map_cons, List.map_cons, List.any_cons, ih h'.2]
    rfl
theorem plain_all (env : PySem.Env) (pos : Pos) {es : List Expr} (h : noStars es = true) : (backTo pos (starEach es env)).all (fun x => !x.1) = true := by
  rw [starEach_plain env h]
  unfold backTo
  induction es with
  | nil => rfl
  | cons e es ih =>
    have h' : (noStar e && noStars es) = true := h
    rw [Bool.and_eq_true] at h'
    rw [List.map_cons, List.map_cons, List.all_cons, ih h'.2]
    rfl
section
variable {X : Cx} {ec : Nat → Value} {F : Fn} {W : WX} {a b c e o : Expr} {es rest : List Expr} {ca cb cc ce co : CE} {pos p apos : Pos}
/-! ### built-in functions -/
def bltName : Blt → Str
  | .len => "len" | .abs => "abs" | .int => "int" | .str => "str" | .tuple => "tuple" | .list => "list" | .all => "all" | .any => "any" | .sum => "sum" | .min => "min" | .max => "max" | .sorted => "sorted" | .repr => "repr"
def bltOk : Blt → Bool
  | .repr => false
  | _ => true
theorem rBl_of {K : PySem.W.Frag} {σ : St} {φ : Phi} {H : Hp} {δ : Env} {S : Store} {Q : VK} {t : Blt} (rs : Rs K φ S H) (re : RE K φ H δ σ) (h : OutG (Rv K) K ec W σ φ H (ev F (.blt t ca) δ S) Q) :
    tCB (rBl K t) (rdA K ec F W ca) σ H Q := by
  unfold ev at h
  refine ⟨φ, δ, S, rs, re, h.bind.mono fun v H1 ⟨φ1, x, S1, e1, rs1, r1, h1⟩ => ?_⟩
  exact ⟨φ1, S1, x, rs1, r1, h1.ov⟩
theorem g_blt (t : Blt) (ok : bltOk t = true) (hc : X.calm = true) (hg : Gl X (bltName t)) (hm : X.mg (bltName t) = none) (hs : noStars (e :: es) = true) (ha : GA X ec F W (e :: es) ca) : GE X ec F W (.Call (.Name (bltName t) p) (e :: es) [] pos) (.blt t ca) := by
  have h' : (noStar e && noStars es) = true := hs
  rw [Bool.and_eq_true] at h'
  have he := starEach_of e es X.env (noStar_of h'.1)
  have hp := plain_any X.env pos h'.2
  cases t with
  | len => exact PE.imp (pe_callB z_len hg hm PySem.boot_len ha (by decide) (by decide) he hp) fun σ H Q ⟨φ, δ, S, rs, re, h⟩ => rBl_of rs re h
  | abs => exact PE.imp (pe_callB z_abs hg hm (by decide +kernel) ha (by decide) (by decide) he hp) fun σ H Q ⟨φ, δ, S, rs, re, h⟩ => rBl_of rs re h
  | all => exact PE.imp (pe_callB (z_all hc) hg hm (by decide +kernel) ha (by decide) (by decide) he hp) fun σ H Q ⟨φ, δ, S, rs, re, h⟩ => rBl_of rs re h
  | any => exact PE.imp (pe_callB (z_any hc) hg hm (by decide +kernel) ha (by decide) (by decide) he hp) fun σ H Q ⟨φ, δ, S, rs, re, h⟩ => rBl_of rs re h
  | sum => exact PE.imp (pe_callB (z_sum hc) hg hm (by decide +kernel) ha (by decide) (by decide) he hp) fun σ H Q ⟨φ, δ, S, rs, re, h⟩ => rBl_of rs re h
  | min => exact PE.imp (pe_callB (z_min hc) hg hm (by decide +kernel) ha (by decide) (by decide) he hp) fun σ H Q ⟨φ, δ, S, rs, re, h⟩ => rBl_of rs re h
  | max => exact PE.imp (pe_callB (z_max hc) hg hm (by decide +kernel) ha (by decide) (by decide) he hp) fun σ H Q ⟨φ, δ, S, rs, re, h⟩ => rBl_of rs re h
  | int => exact PE.imp (pe_callTy z_int hg hm (by decide +kernel) ha (by decide) (by decide) he hp) fun σ H Q ⟨φ, δ, S, rs, re, h⟩ => rBl_of rs re h
  | str => exact PE.imp (pe_callTy z_str hg hm (by decide +kernel) ha (by decide) (by decide) he hp) fun σ H Q ⟨φ, δ, S, rs, re, h⟩ => rBl_of rs re h
  | tuple => exact PE.imp (pe_callTy z_tuple hg hm (by decide +kernel) ha (by decide) (by decide) he hp) fun σ H Q ⟨φ, δ, S, rs, re, h⟩ => rBl_of rs re h
  | list => exact PE.imp (pe_callTy z_list hg hm (by decide +kernel) ha (by decide) (by decide) he hp) fun σ H Q ⟨φ, δ, S, rs, re, h⟩ => rBl_of rs re h
  | sorted => exact PE.imp (pe_callB (z_sorted hc) hg hm (by decide +kernel) ha (by decide) (by decide) he hp) fun σ H Q ⟨φ, δ, S, rs, re, h⟩ => rBl_of rs re h
  | repr => cases ok
/-! ### isinstance(e, T) -/
def tyStr : Ty → Str
  | .int => "int" | .bool => "bool" | .str => "str" | .tup => "tuple" | .lst => "list" | .dict => "dict" | .own _ => ""
theorem g_isi {t : Ty} {p2 : Pos} (ht : ∀ c, t ≠ .own c) (hg : Gl X "isinstance") (hm : X.mg "isinstance" = none) (hg2 : Gl X (tyStr t)) (hm2 : X.mg (tyStr t) = none) (hs : noStar e = true) (he : GE X ec F W e ce) :
    GE X ec F W (.Call (.Name "isinstance" p) [e, .Name (tyStr t) p2] [] pos) (.isi ce t) := by
  have hb : bootBuiltins (tyStr t) = some (.type (tyName t)) := by
    cases t with
    | own c => exact absurd rfl (ht c)
    | _ => decide +kernel
  have hty : PE X (.Name (tyStr t) p2) (tC (.ty (tyName t))) := by
    cases t with
    | own c => exact absurd rfl (ht c)
    | _ => exact pe_bltn hg2 hm2 hb rfl (by decide) (by decide)
  have ha : PA X [e, .Name (tyStr t) p2] (tCons (rdE X.K ec F W ce) (tCons (tC (.ty (tyName t))) tNil)) := pa_cons he (pa_cons hty pa_nil) (starEach_of e _ X.env (noStar_of hs))
  refine PE.imp (pe_callB (z_isi t) hg hm (by decide +kernel) ha (by decide) (by decide) (starEach_of e _ X.env (noStar_of hs)) rfl) fun σ H Q ⟨φ, δ, S, rs, re, h⟩ => ?_
  unfold ev at h
  refine ⟨φ, δ, S, rs, re, h.bind.mono fun v H1 ⟨φ1, x, S1, e1, rs1, r1, h1⟩ => ?_⟩
  cases e2 : isiEv x t S1 with
  | none => rw [e2] at h1; exact h1.elim
  | some r =>
    rw [e2] at h1
    exact ⟨φ1, S1, x, v, r, rs1, rfl, r1, e2, out_ok h1 rs1 (.bl _)⟩
/-! ### calls of defs -/
/-- a def's promise by its run -/
def spF (K : PySem.W.Frag) (ec : Nat → Value) (F : Fn) (i : Nat) : Sp := fun vs H Q E => ∃ φ S ds, Rs K φ S H ∧ Rvs K φ H vs ds ∧ OutG (Rv K) K ec (fun cls d _ H' => E cls d H') [] φ H (F i ds S) Q
structure Callee (X : Cx) (ec : Nat → Value) (F : Fn) (n : Nat) (x : Str) (i : Nat) : Prop where
  ok : ∃ f fd ps, X.mg x = some (.ref f) ∧ PySem.W.keepIn X.K (.ref f) = true ∧ Binds X.K fd ps [] ∧ FnOk X.prog X.w X.K X.mg X.base (L2N.CX X.prog X.w) n f fd ps (spF X.K ec F i)
theorem out_W {K : PySem.W.Frag} {σ : St} {φ : Phi} {H : Hp} {r : R D} {Q : VK} (h : OutG (Rv K) K ec W σ φ H r Q) : OutG (Rv K) K ec (fun cls d _ H' => WE W σ cls d H') [] φ H r Q := by
  cases r with
  | ok d S => exact h
  | exc c a S => exact h
  | stuck => exact h
theorem g_call {n : Nat} {x : Str} {i : Nat} (C : Callee X ec F n x i) (hr : Room n X.A) (tk : L2N.Takes X W) (hg : Gl X x) (hd : (x == ("__debug__" : Str)) = false) (hs : noStars (e :: es) = true) (ha : GA X ec F W (e :: es) ca) :
    GE X ec F W (.Call (.Name x p) (e :: es) [] pos) (.call i ca) := by
  obtain ⟨f, fd, ps, hm, hk, hb, G⟩ := C.ok
  have h' : (noStar e && noStars es) = true := hs
  rw [Bool.and_eq_true] at h'
  refine PE.imp (pe_callS (E := WE W) G hr hg hm hk hb (L2N.passAt tk) ha hd (starEach_of e es X.env (noStar_of h'.1)) (plain_any X.env pos h'.2)) fun σ H Q ⟨φ, δ, S, rs, re, h⟩ => ?_
  unfold ev at h
  refine ⟨φ, δ, S, rs, re, h.bind.mono fun v H1 ⟨φ1, x, S1, e1, rs1, r1, h1⟩ => ?_⟩
  exact ⟨φ1, S1, x, rs1, r1, out_W h1⟩
theorem run_fnS0 {CX : CXT} {k : Nat} {f : Addr} {fd : FuncData} {ps : List Str} {sp : Sp} {E : L2.St → XK} {x : Str} (G : FnOk X.prog X.w X.K X.mg X.base CX k f fd ps sp) (hr : Room k X.A) (hg : Gl X x) (hm : X.mg x = some (.ref f)) (hk : PySem.W.keepIn X.K (.ref f) = true) (hb : Binds X.K fd ps []) (hx : ∀ σ, PassesAt CX X σ (E σ))
    (hdb : (x == ("__debug__" : Str)) = false) : PE X (.Call (.Name x p) [] [] pos) (tCallS sp E tNil) := by
  refine ⟨fun pins s σ H Q I h => ?_⟩
  refine wpAny_Call_Name_kw (ld_glob I hg hm ?_ hdb)
  exact PySem.W.callWith_K0 I.kIn hk (run_fnS (us := []) G hr hb (hx σ) I .nil h)
theorem g_call0 {n : Nat} {x : Str} {i : Nat} (C : Callee X ec F n x i) (hr : Room n X.A) (tk : L2N.Takes X W) (hg : Gl X x) (hd : (x == ("__debug__" : Str)) = false) : GE X ec F W (.Call (.Name x p) [] [] pos) (.call i .nil) := by
  obtain ⟨f, fd, ps, hm, hk, hb, G⟩ := C.ok
  refine PE.imp (run_fnS0 (E := WE W) G hr hg hm hk hb (L2N.passAt tk) hd) fun σ H Q ⟨φ, δ, S, rs, re, h⟩ => ?_
  unfold ev evs at h
  rw [R.bind_ok] at h
  exact ⟨φ, S, [], rs, .nil, out_W h⟩
/-! ### methods of lists -/
def mthName : Mth → Str
  | .append => "append" | .reverse => "reverse" | .pop => "pop" | .count => "count" | .index => "index" | .insert => "insert" | .extend => "extend"
def plainBase : Expr → Bool
  | .Call _ _ _ _ => false
  | _ => true
theorem base_plain (f : Str) (env : PySem.Env) (w : Sem Value) {o : Expr} (h : plainBase o = true) : attributeBase o f env w = w := by
  cases o <;> first | rfl | cases h
theorem few_one (env : PySem.Env) (hs : noStar e = true) : ((backTo pos (starEach [e] env)).all (fun x => !x.1) && (backToKw pos (keywordEach [] env)).all (fun x => x.1.isSome) && decide ([e].length + ([] : List Keyword).length + (if ([] : List Keyword).isEmpty then 0 else 1) < 30)) = true := by
  rw [plain_all env pos (show noStars [e] = true by unfold noStars; simp [hs])]
  rfl
theorem rMt_of {K : PySem.W.Frag} {σ : St} {φ : Phi} {H : Hp} {δ : Env} {S : Store} {Q : VK} {m : Mth} (rs : Rs K φ S H) (re : RE K φ H δ σ) (h : OutG (Rv K) K ec W σ φ H (ev F (.mth m co ca) δ S) Q) :
    tBM K "list" (rMt K m) (rdE K ec F W co) (rdA K ec F W ca) σ H Q := by
  unfold ev at h
  refine ⟨φ, δ, S, rs, re, h.bind.mono fun v H1 ⟨φ1, x, S1, e1, rs1, r1, h1⟩ => ?_⟩
  cases e2 : seqL S1 x with
  | none => simp only [e2] at h1; exact h1.elim
  | some ls =>
    simp only [e2] at h1
    obtain ⟨q, ys, rfl, hq, _⟩ := seqL_at rs1 r1 e2
    refine ⟨.inl ⟨rfl, ys, SqL.of hq⟩, φ1, δ, S1, rs1, re.ext e1, h1.bind.mono fun us H2 ⟨φ2, ds, S2, e3, rs2, r2, h2⟩ => ?_⟩
    refine ⟨φ2, S2, x, ds, rs2, r1.ext e3, r2, ?_⟩
    cases e4 : mthEv m x ds S2 with
    | none => rw [e4] at h2; exact h2.elim
    | some o =>
      obtain ⟨d, S'⟩ := o
      rw [e4] at h2
      exact fun v H' ex rs' r' => h2 φ2 v H' ex rs' r'
theorem g_append (hb : plainBase o = true) (hl : (apos.endLine == pos.line) = true) (hs : noStar e = true) (ho : GE X ec F W o co) (ha : GA X ec F W [e] ca) : GE X ec F W (.Call (.Attribute o "append" apos) [e] [] pos) (.mth .append co ca) :=
  PE.imp (pe_bm PySem.F.plainAttrs_list PySem.F.slot_list_append PySem.F.type_list_append z_append ho ha (base_plain _ _ _ hb) (few_one X.env hs) hl (starEach_of e [] X.env (noStar_of hs)) rfl) fun σ H Q ⟨φ, δ, S, rs, re, h⟩ => rMt_of rs re h
theorem rMt0_of {K : PySem.W.Frag} {σ : St} {φ : Phi} {H : Hp} {δ : Env} {S : Store} {Q : VK} {m : Mth} (rs : Rs K φ S H) (re : RE K φ H δ σ) (h : OutG (Rv K) K ec W σ φ H (ev F (.mth m co .nil) δ S) Q) :
    tBM0 K "list" (rMt K m) (rdE K ec F W co) σ H Q := by
  unfold ev at h
  refine ⟨φ, δ, S, rs, re, h.bind.mono fun v H1 ⟨φ1, x, S1, e1, rs1, r1, h1⟩ => ?_⟩
  cases e2 : seqL S1 x with
  | none => simp only [e2] at h1; exact h1.elim
  | some ls =>
    simp only [e2] at h1
    unfold evs at h1
    rw [R.bind_ok] at h1
    obtain ⟨q, ys, rfl, hq, _⟩ := seqL_at rs1 r1 e2
    refine ⟨.inl ⟨rfl, ys, SqL.of hq⟩, φ1, S1, x, [], rs1, r1, .nil, ?_⟩
    cases e4 : mthEv m x [] S1 with
    | none => rw [e4] at h1; exact h1.elim
    | some o =>
      obtain ⟨d, S'⟩ := o
      rw [e4] at h1
      exact fun v H' ex rs' r' => h1 φ1 v H' ex rs' r'
theorem g_reverse (hb : plainBase o = true) (hl : (apos.endLine == pos.line) = true) (ho : GE X ec F W o co) : GE X ec F W (.Call (.Attribute o "reverse" apos) [] [] pos) (.mth .reverse co .nil) :=
  PE.imp (pe_bm0 PySem.F.plainAttrs_list PySem.F.slot_list_reverse PySem.F.type_list_reverse z_reverse ho (base_plain _ _ _ hb) hl) fun σ H Q ⟨φ, δ, S, rs, re, h⟩ => rMt0_of rs re h
theorem g_pop (hb : plainBase o = true) (hl : (apos.endLine == pos.line) = true) (ho : GE X ec F W o co) : GE X ec F W (.Call (.Attribute o "pop" apos) [] [] pos) (.mth .pop co .nil) :=
  PE.imp (pe_bm0 PySem.F.plainAttrs_list PySem.F.slot_list_pop PySem.F.type_list_pop z_pop ho (base_plain _ _ _ hb) hl) fun σ H Q ⟨φ, δ, S, rs, re, h⟩ => rMt0_of rs re h
/-! ### targets -/
def ctSlots : CT → List Nat
  | .nm i => [i]
  | .nil => []
  | .cons t ts => ctSlots t ++ ctSlots ts
  | .tp ts => ctSlots ts
/-- the slots but some are as they were -/
def Off (l : List Nat) (σ σ' : St) : Prop := σ'.length = σ.length ∧ ∀ j, j ∉ l → σ'[j]? = σ[j]?
theorem Off.set {l : List Nat} {σ σ' : St} {i : Nat} {v : Option V} (h : Off l σ σ') (hi : i ∈ l) : Off l σ (σ'.set i v) := ⟨by rw [List.length_set]; exact h.1, fun j hj => by
  rw [List.getElem?_set_ne (fun z => by subst z; exact hj hi)]
  exact h.2 j hj⟩
theorem Off.wipe {σ σ' : St} : ∀ {l own : List Nat}, Off l σ σ' → (∀ i ∈ l, i ∈ own) → L2.wipe σ' own = L2.wipe σ own := fun {l own} h k => by
  apply List.ext_getElem?
  intro j
  have go : ∀ (own : List Nat) (σ : St), (L2.wipe σ own)[j]? = if j ∈ own ∧ j < σ.length then some none else σ[j]? := fun own => by
    induction own with
    | nil => intro σ; simp [L2.wipe]
    | cons v vs ih =>
      intro σ
      unfold L2.wipe
      by_cases e : v = j
      · subst e
        by_cases hl : v < σ.length
        · rw [List.getElem?_set_self (by rw [L2.wipe_length]; exact hl), if_pos ⟨List.mem_cons_self, hl⟩]
        · rw [List.getElem?_eq_none (by rw [List.length_set, L2.wipe_length]; omega), if_neg (fun z => hl z.2), List.getElem?_eq_none (by omega)]
      · rw [List.getElem?_set_ne e, ih σ]
        simp [List.mem_cons, Ne.symm e]
  rw [go, go, h.1]
  by_cases hj : j ∈ own
  · by_cases hl : j < σ.length
    · rw [if_pos ⟨hj, hl⟩, if_pos ⟨hj, hl⟩]
    · rw [if_neg (fun z => hl z.2), if_neg (fun z => hl z.2), List.getElem?_eq_none (by rw [h.1]; omega), List.getElem?_eq_none (by omega)]
  · rw [if_neg (fun z => hj z.1), if_neg (fun z => hj z.1)]
    exact h.2 j (fun z => hj (k j z))
def rdG (K : PySem.W.Frag) (t : CT) : TG := fun v σ H Q => ∃ φ S d δ δ1, Rs K φ S H ∧ Rv K φ H v d ∧ RE K φ H δ σ ∧ stepT t d δ = some δ1 ∧ ∀ σ', RE K φ H δ1 σ' → Off (ctSlots t) σ σ' → Q σ' H
def GG (X : Cx) (tg : Expr) (t : CT) : Prop := PG X tg (rdG X.K t)
theorem PG.imp {tg : Expr} {t t' : TG} (h : PG X tg t) (k : ∀ v σ H Q, t' v σ H Q → t v σ H Q) : PG X tg t' := ⟨fun pins s σ H v u Q I r q => h.run pins s σ H v u Q I r (k v σ H Q q)⟩
theorem t_nm {i : Nat} {x : Str} (hN : X.N.Nodup) (hi : X.N[i]? = some x) (hx : Loc X.env.scope x) (hf : X.fn x = true ∨ X.env.scope.names.lookup x = some .local) : GG X (.Name x pos) (.nm i) := by
  refine PG.imp (pg_name hN hi hx hf) fun v σ H Q ⟨φ, S, d, δ, δ1, rs, r, re, h, k⟩ => ?_
  by_cases hl : i < δ.length
  · simp only [stepT, if_pos hl, Option.some.injEq] at h
    subst h
    exact k _ (re.set r) (Off.set ⟨rfl, fun _ _ => rfl⟩ (by simp [ctSlots]))
  · simp only [stepT, if_neg hl] at h
    cases h
/-- the parts of a tuple target -/
def rdGs (K : PySem.W.Frag) (t : CT) : TGs := fun vs σ H Q => ∃ φ S ds δ δ1, Rs K φ S H ∧ Rvs K φ H vs ds ∧ RE K φ H δ σ ∧ stepT.go t ds δ = some δ1 ∧ ∀ σ', RE K φ H δ1 σ' → Off (ctSlots t) σ σ' → Q σ' H
def GGs (X : Cx) (ts : List Expr) (t : CT) : Prop := PGs X ts (rdGs X.K t)
theorem PGs.imp {tg : List Expr} {t t' : TGs} (h : PGs X tg t) (k : ∀ v σ H Q, t' v σ H Q → t v σ H Q) : PGs X tg t' := ⟨fun pins s σ H v u Q I r q => h.run pins s σ H v u Q I r (k v σ H Q q)⟩
theorem ts_nil : GGs X [] .nil := PGs.imp pgs_nil fun vs σ H Q ⟨φ, S, ds, δ, δ1, rs, r, re, h, k⟩ => by
  cases r with
  | nil =>
    have h' : some δ = some δ1 := by simpa [stepT.go] using h
    cases h'
    exact ⟨rfl, k σ re ⟨rfl, fun _ _ => rfl⟩⟩
  | cons r rs => simp [stepT.go] at h
theorem assignEach_of (e : Expr) (es : List Expr) (env : PySem.Env) (h : ∀ x p, e ≠ .Starred x p) : assignEach (e :: es) env = (false, assign e env) :: assignEach es env := by
  cases e <;> first | rfl | exact absurd rfl (h _ _)
theorem ts_cons {i : Nat} {x : Str} {px : Pos} {ts : List Expr} {cts : CT} (h1 : GG X (.Name x px) (.nm i)) (h2 : GGs X ts cts) : GGs X (.Name x px :: ts) (.cons (.nm i) cts) := by
  refine PGs.imp (pgs_cons h1 h2 rfl) fun vs σ H Q ⟨φ, S, ds, δ, δ1, rs, r, re, h, k⟩ => ?_
  cases r with
  | nil => simp [stepT.go] at h
  | @cons v vs d ds r rr =>
    by_cases hl : i < δ.length
    · have h' : stepT.go cts ds (δ.set i (some d)) = some δ1 := by simpa [stepT.go, hl] using h
      refine ⟨v, vs, rfl, φ, S, d, δ, δ.set i (some d), rs, r, re, by simp [stepT, hl], fun σ' re' off => ?_⟩
      refine ⟨φ, S, ds, _, δ1, rs, rr, re', h', fun σ2 re2 off2 => k σ2 re2 ⟨off2.1.trans off.1, fun j hj => ?_⟩⟩
      have hj' : j ∉ ctSlots (.nm i) ∧ j ∉ ctSlots cts := by simpa [ctSlots] using hj
      rw [off2.2 j hj'.2, off.2 j hj'.1]
    · simp [stepT.go, hl] at h
def ctLen : CT → Nat
  | .cons _ ts => ctLen ts + 1
  | _ => 0
theorem go_len : ∀ {t : CT} {ds : List D} {δ δ1 : Env}, stepT.go t ds δ = some δ1 → ds.length = ctLen t
  | .nil, [], _, _, _ => rfl
  | .nil, _ :: _, _, _, h => by simp [stepT.go] at h
  | .nm _, [], _, _, h => by simp [stepT.go] at h
  | .nm _, _ :: _, _, _, h => by simp [stepT.go] at h
  | .tp _, [], _, _, h => by simp [stepT.go] at h
  | .tp _, _ :: _, _, _, h => by simp [stepT.go] at h
  | .cons _ _, [], _, _, h => by simp [stepT.go] at h
  | .cons (.nm i) ts, d :: ds, δ, δ1, h => by
    by_cases hl : i < δ.length
    · have h' : stepT.go ts ds (δ.set i (some d)) = some δ1 := by simpa [stepT.go, hl] using h
      rw [List.length_cons, go_len h']
      rfl
    · simp [stepT.go, hl] at h
  | .cons .nil _, _ :: _, _, _, h => by simp [stepT.go] at h
  | .cons (.cons _ _) _, _ :: _, _, _, h => by simp [stepT.go] at h
  | .cons (.tp _) _, _ :: _, _, _, h => by simp [stepT.go] at h
theorem t_tp {ts : List Expr} {cts : CT} {k : Nat} (hc : X.calm = true) (h : GGs X ts cts) (hn : (assignEach ts X.env).length = ctLen cts) (hst : (assignEach ts X.env).findIdx? (·.1) = none) : GG X (.Tuple ts k pos) (.tp cts) := by
  refine PG.imp (pg_tup hc h hn hst) fun v σ H Q ⟨φ, S, d, δ, δ1, rs, r, re, h, k⟩ => ?_
  cases r with
  | @tup a xs ds t r =>
    have h' : stepT.go cts ds δ = some δ1 := by simpa [stepT] using h
    exact ⟨a, xs, rfl, t.sq, by rw [r.len, go_len h'], φ, S, ds, δ, δ1, rs, r, re, h', fun σ' re' off => k σ' re' off⟩
  | _ => simp [stepT] at h
end
end Z

/-! Z, part G: what is walked; comprehensions; statements. -/
namespace Z
open PySem PySem.Spec PyProof.Rows L2 Classical
/-- the iterator J walks w as long as it stands -/
def WalkJ (K : PySem.W.Frag) (φ : Phi) (H : Hp) (J : It) (w : Wk) : Prop :=
  ∀ φ' S' H', Ext φ H φ' H' → Rs K φ' S' H' → w.At S' →
    (∀ (i : Nat) (d : D), w.items[i]? = some d → J.go i H' ∧ ∀ x H'', J.yld i H' x H'' → H'' = H' ∧ Rv K φ' H' x d) ∧ J.stop w.items.length H'
section
variable {X : Cx} {ec : Nat → Value} {F : Fn} {W : WX} {a b c e o tg it elt : Expr} {es rest : List Expr} {ca cb cc ce co : CE} {pos p apos : Pos}
def rdI (K : PySem.W.Frag) (ec : Nat → Value) (F : Fn) (W : WX) (c : CE) : TI := fun σ H R => ∃ φ δ S, Rs K φ S H ∧ RE K φ H δ σ ∧ OutG (fun φ H J w => WalkJ K φ H J w) K ec W σ φ H (evI F c δ S) R
def GI (X : Cx) (ec : Nat → Value) (F : Fn) (W : WX) (tg it : Expr) (c : CE) : Prop := PI X tg it (rdI X.K ec F W c)
theorem PI.imp {t t' : TI} (h : PI X tg it t) (k : ∀ σ H R, t' σ H R → t σ H R) : PI X tg it t' := ⟨fun pins s σ H R I q => h.run pins s σ H R I (k σ H R q)⟩
theorem PI.or {t t' : TI} (h : PI X tg it t) (h' : PI X tg it t') : PI X tg it (fun σ H R => t σ H R ∨ t' σ H R) := ⟨fun pins s σ H R I q => by
  rcases q with q | q
  · exact h.run pins s σ H R I q
  · exact h'.run pins s σ H R I q⟩
theorem walk_lst {K : PySem.W.Frag} {φ : Phi} {H : Hp} {a : Addr} {xs : List V} {ds : List D} {w : Wk} (hi : w.items = ds) (h : ∀ φ' S' H', Ext φ H φ' H' → Rs K φ' S' H' → w.At S' → H' a = some (.lst xs) ∧ Rvs K φ' H' xs ds) : WalkJ K φ H (Itl K a) w := fun φ' S' H' e rs at' => by
  obtain ⟨h1, h2⟩ := h φ' S' H' e rs at'
  rw [hi]
  refine ⟨fun i d hd => ?_, xs, SqL.of h1, by rw [h2.len]; exact Nat.le_refl _⟩
  obtain ⟨v, hv, rv⟩ := h2.get hd
  refine ⟨⟨xs, v, SqL.of h1, hv⟩, fun x H'' ⟨e1, k⟩ => ⟨e1, ?_⟩⟩
  have := k xs (SqL.of h1)
  rw [hv] at this
  cases this
  exact rv
theorem walk_tup {K : PySem.W.Frag} {φ : Phi} {H : Hp} {a : Addr} {xs : List V} {ds : List D} (t : TupAt K φ H a xs) (r : Rvs K φ H xs ds) : WalkJ K φ H (Itt K a) (.fix ds) := fun φ' S' H' e rs at' => by
  have t' : TupAt K φ' H' a xs := by
    rcases t with ⟨h, f⟩ | h
    · exact .inl (e.keep _ _ f h)
    · exact .inr h
  have r' := r.ext e
  refine ⟨fun i d hd => ?_, xs, t'.sq, by show xs.length ≤ ds.length; rw [r'.len]; exact Nat.le_refl _⟩
  obtain ⟨v, hv, rv⟩ := r'.get (show ds[i]? = some d from hd)
  refine ⟨⟨xs, v, t'.sq, hv⟩, fun x H'' ⟨e1, k⟩ => ⟨e1, ?_⟩⟩
  have := k xs t'.sq
  rw [hv] at this
  cases this
  exact rv
theorem walk_cel {K : PySem.W.Frag} {φ : Phi} {H : Hp} {a : Addr} {p : Nat} {ds : List D} (hp : φ.c[p]? = some (some a)) : WalkJ K φ H (Itl K a) (.cel p ds) := fun φ' S' H' e rs at' => by
  have at2 : S'[p]? = some (.lst ds) := at'
  obtain ⟨b, ys, f1, f2, f3⟩ := rs.cell p _ at2
  have eb : b = a := by
    rcases e.pre p _ hp with q | q
    · rw [q] at f1
      cases f1
      rfl
    · rw [q] at f1
      cases f1
  subst eb
  refine ⟨fun i d hd => ?_, ys, SqL.of f2, by show ys.length ≤ ds.length; rw [f3.len]; exact Nat.le_refl _⟩
  obtain ⟨v, hv, rv⟩ := f3.get (show ds[i]? = some d from hd)
  refine ⟨⟨ys, v, SqL.of f2, hv⟩, fun x H'' ⟨e1, k⟩ => ⟨e1, ?_⟩⟩
  have := k ys (SqL.of f2)
  rw [hv] at this
  cases this
  exact rv
theorem i_one (he : GE X ec F W it ce) : GI X ec F W tg it (.one ce) := by
  refine PI.imp (PI.or (pi_list he) (PI.or (pi_tup he) (pi_str he))) fun σ H R ⟨φ, δ, S, rs, re, h⟩ => ?_
  unfold evI at h
  cases e1 : ev F ce δ S with
  | stuck => rw [e1] at h; exact h.elim
  | exc c a S' =>
    rw [e1] at h
    refine .inl ⟨φ, δ, S, rs, re, ?_⟩
    rw [e1]
    exact h
  | ok d S' =>
    rw [e1, Z.R.bind_ok] at h
    have tupcase : ∀ ds, d = .tup ds → iTup X.K (rdE X.K ec F W ce) σ H R := fun ds ed => by
      subst ed
      refine ⟨φ, δ, S, rs, re, ?_⟩
      rw [e1]
      intro φ' v H' ex rs' r'
      cases r' with
      | @tup a xs ds t r =>
        exact ⟨a, rfl, ⟨xs, t.sq⟩, (show ∀ φ' J H', Ext φ H φ' H' → Rs X.K φ' S' H' → WalkJ X.K φ' H' J (.fix ds) → R J H' from h) φ' _ H' ex rs' (walk_tup t r)⟩
    cases d with
    | tup ds => exact .inr (.inl (tupcase ds rfl))
    | lst ds =>
      refine .inl ⟨φ, δ, S, rs, re, ?_⟩
      rw [e1]
      intro φ' v H' ex rs' r'
      cases r' with
      | @lst a xs ds h1 h2 r =>
        exact ⟨a, rfl, ⟨xs, SqL.of h1⟩, (show ∀ φ' J H', Ext φ H φ' H' → Rs X.K φ' S' H' → WalkJ X.K φ' H' J (.fix ds) → R J H' from h) φ' _ H' ex rs' (walk_lst rfl fun φ2 S2 H2 e2 rs2 _ => ⟨(e2.keep _ _ h2 h1).1, r.ext e2⟩)⟩
    | ref i =>
      have h0 := h
      unfold walkSeq at h0
      cases e2 : S'[i]? with
      | none => simp only [e2] at h0; exact h0.elim
      | some cl =>
        cases cl with
        | lst ds =>
          simp only [e2] at h0
          refine .inl ⟨φ, δ, S, rs, re, ?_⟩
          rw [e1]
          intro φ' v H' ex rs' r'
          obtain ⟨a, xs, rfl, h1, h2, h3⟩ := cell_at rs' r' e2
          exact ⟨a, rfl, ⟨xs, SqL.of h2⟩, (show ∀ φ' J H', Ext φ H φ' H' → Rs X.K φ' S' H' → WalkJ X.K φ' H' J (.cel i ds) → R J H' from h0) φ' _ H' ex rs' (walk_cel h1)⟩
        | dk _ => simp only [e2] at h0; exact (show False from h0).elim
        | dt _ => simp only [e2] at h0; exact (show False from h0).elim
        | gone => simp only [e2] at h0; exact (show False from h0).elim
    | str x =>
      right; right
      refine ⟨φ, δ, S, rs, re, ?_⟩
      rw [e1]
      intro φ' v H' ex rs' r'
      cases r'
      refine ⟨x, rfl, (show ∀ φ' J H', Ext φ H φ' H' → Rs X.K φ' S' H' → WalkJ X.K φ' H' J (.fix (x.cps.toList.map fun c => .str ⟨#[c]⟩)) → R J H' from h) φ' _ H' ex rs' ?_⟩
      intro φ2 S2 H2 _ _ _
      refine ⟨fun i d hd => ?_, by show x.cps.size ≤ _; simp [Wk.items]⟩
      have hd' : (x.cps.toList.map fun c => D.str ⟨#[c]⟩)[i]? = some d := hd
      rw [List.getElem?_map] at hd'
      obtain ⟨cc, hcc, rfl⟩ := Option.map_eq_some_iff.mp hd'
      have hlt : i < x.cps.size := by
        have := (List.getElem?_eq_some_iff.mp hcc).1
        simpa using this
      refine ⟨hlt, fun y H'' ⟨e4, cd, hcd, ey⟩ => ⟨e4, ?_⟩⟩
      subst ey
      have : x.cps.toList[i]? = some cd := by simpa using hcd
      rw [this] at hcc
      cases hcc
      exact .str _
    | _ => exact h.elim

theorem walk_rng {K : PySem.W.Frag} {φ : Phi} {H : Hp} (lo hi : Int) : WalkJ K φ H (Itr lo (hi - lo).toNat) (.fix (rngD lo hi)) := fun φ' S' H' e rs at' => by
  refine ⟨fun i d hd => ?_, by show (hi - lo).toNat ≤ _; simp [Wk.items, rngD]⟩
  have hd' : (rngD lo hi)[i]? = some d := hd
  unfold rngD at hd'
  rw [List.getElem?_map] at hd'
  obtain ⟨k, hk, rfl⟩ := Option.map_eq_some_iff.mp hd'
  obtain ⟨h1, h2⟩ := List.getElem?_eq_some_iff.mp hk
  rw [List.length_range] at h1
  rw [List.getElem_range] at h2
  subst h2
  exact ⟨h1, fun x H'' ⟨e1, e2⟩ => ⟨e1, by subst e2; exact .int _⟩⟩
theorem i_rng2 (hs : noStars [a, b] = true) (hg : Gl X "range") (hm : X.mg "range" = none) (ha : GE X ec F W a ca) (hb : GE X ec F W b cb) : GI X ec F W tg (.Call (.Name "range" p) [a, b] [] pos) (.rng ca cb) := by
  have h' : (noStar a && (noStar b && true)) = true := hs
  simp only [Bool.and_true, Bool.and_eq_true] at h'
  have s1 := starEach_of a [b] X.env (noStar_of h'.1)
  have s2 := starEach_of b [] X.env (noStar_of h'.2)
  refine PI.imp (pi_range2 hg hm (pa_cons ha (pa_cons hb pa_nil s2) s1) (by rw [s1, s2]; rfl) (by rw [s2]; rfl)) fun σ H R ⟨φ, δ, S, rs, re, h⟩ => ?_
  unfold evI at h
  refine ⟨φ, δ, S, rs, re, (OutG.bind (rel := Rv X.K) h).mono fun v H1 ⟨φ1, x, S1, e1, rs1, r1, h1⟩ => ?_⟩
  refine ⟨φ1, δ, S1, rs1, re.ext e1, (OutG.bind (rel := Rv X.K) h1).mono fun u H2 ⟨φ2, y, S2, e2, rs2, r2, h2⟩ => ?_⟩
  cases r1 with
  | int i =>
    cases r2 with
    | int j =>
      by_cases hz : small62 i ∧ small62 j
      · simp only [if_pos hz] at h2
        exact ⟨i, j, rfl, ⟨hz.1.1, hz.1.2, hz.2.1, hz.2.2⟩, h2 φ2 _ H2 (Ext.refl _ _) rs2 (walk_rng i j)⟩
      · simp only [if_neg hz] at h2
        exact (show False from h2).elim
    | _ => exact (show False from h2).elim
  | _ => exact (show False from h2).elim
theorem i_rng1 (hs : noStar b = true) (hg : Gl X "range") (hm : X.mg "range" = none) (hb : GE X ec F W b cb) : GI X ec F W tg (.Call (.Name "range" p) [b] [] pos) (.rng (.con (.int 0)) cb) := by
  have s2 := starEach_of b [] X.env (noStar_of hs)
  refine PI.imp (pi_range1 hg hm (pa_cons hb pa_nil s2) (by rw [s2]; rfl)) fun σ H R ⟨φ, δ, S, rs, re, h⟩ => ?_
  unfold evI at h
  rw [ev_con, Z.R.bind_ok] at h
  refine ⟨φ, δ, S, rs, re, (OutG.bind (rel := Rv X.K) h).mono fun u H2 ⟨φ2, y, S2, e2, rs2, r2, h2⟩ => ?_⟩
  cases r2 with
  | int j =>
    by_cases hz : small62 0 ∧ small62 j
    · simp only [if_pos hz] at h2
      have e0 : j.toNat = (j - 0).toNat := by rw [Int.sub_zero]
      refine ⟨j, rfl, hz.2.1, hz.2.2, ?_⟩
      rw [e0]
      exact h2 φ2 _ H2 (Ext.refl _ _) rs2 (walk_rng 0 j)
    · simp only [if_neg hz] at h2
      exact (show False from h2).elim
  | _ => exact (show False from h2).elim
/-! ### list comprehensions -/
theorem compEv_ok {elt cond : Env → Store → R D} {t : CT} {w : Wk} {δ : Env} {own : List Nat} : ∀ {ds acc : List D} {S : Store}, compEv elt cond t w δ own ds acc S ≠ .stuck → ∃ es S', compEv elt cond t w δ own ds acc S = .ok es S'
  | [], acc, S, h => by
    unfold compEv at h ⊢
    by_cases hw : w.At S
    · rw [if_pos hw]; exact ⟨_, _, rfl⟩
    · rw [if_neg hw] at h; exact absurd rfl h
  | d :: ds, acc, S, h => by
    unfold compEv at h ⊢
    by_cases hw : w.At S
    · simp only [if_pos hw] at h ⊢
      cases e1 : stepT t d (wipeD δ own) with
      | none => simp only [e1] at h; exact absurd rfl h
      | some δ1 =>
        simp only [e1] at h ⊢
        by_cases hz : acc.length < sizeLine
        · simp only [if_pos hz] at h ⊢
          cases e2 : cond δ1 S with
          | stuck => simp only [e2] at h; exact absurd rfl h
          | exc c a S1 => simp only [e2] at h; exact absurd rfl h
          | ok x S1 =>
            cases x with
            | bl b =>
              cases b with
              | true =>
                simp only [e2] at h ⊢
                cases e3 : elt δ1 S1 with
                | stuck => simp only [e3] at h; exact absurd rfl h
                | exc c a S1 => simp only [e3] at h; exact absurd rfl h
                | ok y S2 =>
                  simp only [e3] at h ⊢
                  exact compEv_ok h
              | false =>
                simp only [e2] at h ⊢
                exact compEv_ok h
            | _ => simp only [e2] at h; exact absurd rfl h
        · simp only [if_neg hz] at h
          exact absurd rfl h
    · simp only [if_neg hw] at h
      exact absurd rfl h
/-- no exception leaves a comprehension -/
abbrev W0 : WX := fun _ _ _ _ => False
/-- what a tests' list is -/
def GTs (X : Cx) (ec : Nat → Value) (F : Fn) (W : WX) (ifs : List Expr) (c : CE) : Prop := PTs X ifs (rdT X.K ec F W c)
theorem PTs.imp {ifs : List Expr} {t t' : TT} (h : PTs X ifs t) (k : ∀ σ H Q, t' σ H Q → t σ H Q) : PTs X ifs t' := ⟨fun pins s σ H Q I q => h.run pins s σ H Q I (k σ H Q q)⟩
theorem ifs_nil : GTs X ec F W [] (.con (.bl true)) := PTs.imp pts_nil fun σ H Q ⟨φ, δ, S, rs, re, _, h⟩ => by
  rw [ev_con] at h
  exact h φ true H (Ext.refl _ _) rs rfl
theorem ifs_one (h : GT X ec F W c cc) : GTs X ec F W [c] cc := pts_one h
theorem tLc_of {K : PySem.W.Frag} {ec : Nat → Value} {F : Fn} {W : WX} {ce cc ci : CE} {t : CT} {own : List Nat} {isM : Bool} {σ : St} {H : Hp} {Q : VK} (hsl : ∀ i ∈ ctSlots t, i ∈ own) (h : rdE K ec F W (.comp ce t ci cc own isM) σ H Q) :
    tLc (rdI K ec F W ci) (rdG K t) (rdT K ec F W0 cc) (rdE K ec F W0 ce) own σ H Q := by
  obtain ⟨φ, δ, S, rs, re, h⟩ := h
  unfold ev at h
  refine ⟨φ, δ, S, rs, re, (OutG.bind (rel := fun φ H J w => WalkJ K φ H J w) h).mono fun J H1 ⟨φ1, w, S1, e1, rs1, wj, h1⟩ => ?_⟩
  intro L hL
  have re1 := re.ext e1
  generalize hk : (fun (ds : List D) (S2 : Store) => if isM = true then Z.R.ok (D.ref S2.length) (S2 ++ [Cell.lst ds]) else Z.R.ok (D.lst ds) S2) = k at h1
  -- the list at L is being made
  let Ph : Nat → Hp → Prop := fun i H => ∃ φ' S' acc xs, Ext φ1 H1 φ' H ∧ Rs K φ' S' H ∧ L ∈ φ'.h ∧ H L = some (.lst xs) ∧ Rvs K φ' H xs acc ∧
    OutG (Rv K) K ec W σ φ1 H1 ((compEv (ev F ce) (ev F cc) t w δ own (w.items.drop i) acc S').bind k) Q
  refine ⟨fun i m H => m + i = w.items.length ∧ Ph i H, ⟨w.items.length, by omega, φ1.hide L, S1, [], [], Ext.hide hL, rs1.hide hL, List.mem_cons_self, upd_same, .nil, h1⟩, ?_⟩
  rintro i m H2 ⟨hm, φ2, S2, acc, xs, e2, rs2, lh, lx, racc, h2⟩
  have ns : compEv (ev F ce) (ev F cc) t w δ own (w.items.drop i) acc S2 ≠ .stuck := fun z => by
    rw [z] at h2
    exact h2
  by_cases hi : i < w.items.length
  · right
    have hd : w.items[i]? = some w.items[i] := by simp [hi]
    have hdr : w.items.drop i = w.items[i] :: w.items.drop (i + 1) := List.drop_eq_getElem_cons hi
    rw [hdr] at h2 ns
    generalize w.items[i] = d at hd h2 ns
    unfold compEv at h2 ns
    by_cases hw : w.At S2
    · simp only [if_pos hw] at h2 ns
      obtain ⟨hgo, hyd⟩ := (wj φ2 S2 H2 e2 rs2 hw).1 i d hd
      refine ⟨hgo, Ph (i + 1), fun H' q => ⟨m - 1, by omega, by omega, q⟩, fun x H3 y => ?_⟩
      obtain ⟨rfl, rx⟩ := hyd x H3 y
      cases e3 : stepT t d (wipeD δ own) with
      | none => simp only [e3] at ns; exact absurd rfl ns
      | some δ1 =>
        simp only [e3] at h2 ns
        by_cases hz : acc.length < sizeLine
        · simp only [if_pos hz] at h2 ns
          refine ⟨φ2, S2, d, wipeD δ own, δ1, rs2, rx, (re1.ext e2).wipe, e3, fun σ2 re2 off => ?_⟩
          refine ⟨?_, φ2, δ1, S2, rs2, re2, fun dd S' e => ?_, ?_⟩
          · have q := Off.wipe off hsl
            have ww : ∀ (own own' : List Nat) (σ : St), (∀ i ∈ own', i ∈ own) → L2.wipe (L2.wipe σ own) own' = L2.wipe σ own := fun own own' => by
              induction own' with
              | nil => intro σ _; rfl
              | cons v vs ih =>
                intro σ hs
                show (L2.wipe (L2.wipe σ own) vs).set v none = _
                rw [ih σ fun i hi => hs i (List.mem_cons_of_mem _ hi)]
                have hv := hs v List.mem_cons_self
                have gw : ∀ (own : List Nat), v ∈ own → (L2.wipe σ own).set v none = L2.wipe σ own := fun own => by
                  induction own with
                  | nil => intro z; cases z
                  | cons u us ih =>
                    intro z
                    show ((L2.wipe σ us).set u none).set v none = (L2.wipe σ us).set u none
                    rcases List.mem_cons.mp z with z | z
                    · subst z
                      exact List.set_set ..
                    · by_cases huv : u = v
                      · subst huv
                        exact List.set_set ..
                      · rw [List.set_comm _ _ huv, ih z]
                exact gw own hv
            rw [ww own own σ fun i hi => hi] at q
            exact q
          · rw [e] at ns
            cases dd with
            | bl b => exact ⟨b, rfl⟩
            | _ => exact absurd rfl ns
          · cases e4 : ev F cc δ1 S2 with
            | stuck => simp only [e4] at ns; exact absurd rfl ns
            | exc c a S3 => simp only [e4] at ns; exact absurd rfl ns
            | ok x1 S3 =>
              cases x1 with
              | bl bb =>
                intro φ4 b4 H4 e5 rs4 r4
                cases r4
                obtain ⟨lx4, lh4⟩ := e5.hid L _ lh lx
                cases bb with
                | false =>
                  rw [if_neg Bool.false_ne_true]
                  simp only [e4] at h2
                  exact ⟨φ4, S3, acc, xs, e2.trans e5, rs4, lh4, lx4, racc.ext e5, h2⟩
                | true =>
                  rw [if_pos rfl]
                  simp only [e4] at h2 ns
                  refine ⟨φ4, δ1, S3, rs4, re2.ext e5, ?_⟩
                  cases e6 : ev F ce δ1 S3 with
                  | stuck => simp only [e6] at ns; exact absurd rfl ns
                  | exc c a S3 => simp only [e6] at ns; exact absurd rfl ns
                  | ok y S5 =>
                    simp only [e6] at h2
                    intro φ5 v5 H5 e7 rs5 r5
                    obtain ⟨lx5, lh5⟩ := e7.hid L _ lh4 lx4
                    refine ⟨xs, lx5, by rw [racc.len]; exact hz, ?_⟩
                    refine ⟨φ5, S5, acc ++ [y], xs ++ [v5], ((e2.trans e5).trans e7).hwrite hL, rs5.hwrite lh5, lh5, upd_same, ?_, h2⟩
                    exact (((racc.ext e5).ext e7).app (.cons r5 .nil)).ext0 (Ext0.hwrite lh5)
              | _ => simp only [e4] at ns; exact absurd rfl ns
        · simp only [if_neg hz] at ns
          exact absurd rfl ns
    · simp only [if_neg hw] at ns
      exact absurd rfl ns
  · left
    have ei : i = w.items.length := by omega
    subst ei
    rw [List.drop_length] at h2 ns
    unfold compEv at h2 ns
    by_cases hw : w.At S2
    · simp only [if_pos hw] at h2 ns
      refine ⟨(wj φ2 S2 H2 e2 rs2 hw).2, ?_⟩
      rw [Z.R.bind_ok, ← hk] at h2
      dsimp only at h2
      cases isM with
      | true =>
        rw [if_pos rfl] at h2
        refine h2 (φ2.bareA L) (.ref L) H2 (e2.bareA hL lh) (rs2.bareA lh lx racc) (.ref (o := some L) ?_ (.inr rfl))
        show (φ2.c ++ [some L])[S2.length]? = _
        rw [← rs2.len, List.getElem?_append_right (Nat.le_refl _), Nat.sub_self]
        rfl
      | false =>
        rw [if_neg Bool.false_ne_true] at h2
        exact h2 (φ2.bare L) (.ref L) H2 (e2.bare hL) rs2.bare (.lst lx (free_bare rs2 lh) (racc.ext0 Ext0.bare))
    · simp only [if_neg hw] at ns
      exact absurd rfl ns

theorem g_comp {own : List (Str × Nat)} {ifs : List Expr} {scope : Scope} {t : CT} {isM : Bool} (hc : X.calm = true) (hN : X.N.Nodup) (hi : GI X ec F W tg it ca) (ok : BlkOk X.N X.env.scope scope own)
    (hg : ∀ (s : Shared) (H : Hp) (C : Addr) (cl : List (Str × Addr)) (fp : List Addr), GG (X.blk s H scope (compEnvC scope cl C X.env) fp) tg t)
    (ht : ∀ (s : Shared) (H : Hp) (C : Addr) (cl : List (Str × Addr)) (fp : List Addr), GTs (X.blk s H scope (compEnvC scope cl C X.env) fp) ec F W0 ifs cc)
    (he : ∀ (s : Shared) (H : Hp) (C : Addr) (cl : List (Str × Addr)) (fp : List Addr), GE (X.blk s H scope (compEnvC scope cl C X.env) fp) ec F W0 elt ce) (hs : ∀ x, foldedSetIterable it X.env x = pure x)
    (hsl : ∀ i ∈ ctSlots t, i ∈ own.map (·.2)) : GE X ec F W (.ListComp elt [⟨tg, it, ifs, 0⟩] scope pos) (.comp ce t ca cc (own.map (·.2)) isM) :=
  PE.imp (pe_lc (g := rdG X.K t) (tt := rdT X.K ec F W0 cc) (te := rdE X.K ec F W0 ce) hc hN hi ok hg ht he hs) fun _ _ _ h => tLc_of hsl h
/-! ### statements -/
def OutS (K : PySem.W.Frag) (ec : Nat → Value) (W : WX) (D : Ends) (φ : Phi) (H : Hp) (r : SR) : Prop := match r with
  | .nx δ' S' => ∀ φ' σ' H', Ext φ H φ' H' → Rs K φ' S' H' → RE K φ' H' δ' σ' → D.nx σ' H'
  | .rt d S' => ∀ φ' v H', Ext φ H φ' H' → Rs K φ' S' H' → Rv K φ' H' v d → D.rt v H'
  | .bk δ' S' => ∀ φ' σ' H', Ext φ H φ' H' → Rs K φ' S' H' → RE K φ' H' δ' σ' → D.bk σ' H'
  | .xc c a δ' S' => ∀ φ' σ' H' dd, Ext φ H φ' H' → Rs K φ' S' H' → RE K φ' H' δ' σ' → Xd K φ' H' a dd → W (ec c) dd σ' H'
  | .stuck => False
def rdS (K : PySem.W.Frag) (ec : Nat → Value) (F : Fn) (W : WX) (c : CS) : TS := fun D σ H => ∃ φ δ S, Rs K φ S H ∧ RE K φ H δ σ ∧ OutS K ec W D φ H (run F c δ S)
def GS (X : Cx) (ec : Nat → Value) (F : Fn) (W : WX) (s : Stmt) (c : CS) : Prop := PS X s (rdS X.K ec F W c)
def GSs (X : Cx) (ec : Nat → Value) (F : Fn) (W : WX) (s : List Stmt) (c : CS) : Prop := PSs X s (rdS X.K ec F W c)
section
variable {K : PySem.W.Frag} {D D' : Ends} {φ φ1 : Phi} {H H1 : Hp} {r : SR} {δ : Env} {σ : St}
theorem OutS.ext (e : Ext φ H φ1 H1) (h : OutS K ec W D φ H r) : OutS K ec W D φ1 H1 r := by
  cases r with
  | nx δ' S' => exact fun φ' v H' e' => h φ' v H' (e.trans e')
  | rt δ' S' => exact fun φ' v H' e' => h φ' v H' (e.trans e')
  | bk δ' S' => exact fun φ' v H' e' => h φ' v H' (e.trans e')
  | xc c a δ' S' => exact fun φ' v H' dd e' => h φ' v H' dd (e.trans e')
  | stuck => exact h
theorem OutS.st {α β : Type} {rel : Phi → Hp → β → α → Prop} {r : R α} {k : α → Store → SR} (re : RE K φ H δ σ) (h : OutS K ec W D φ H (r.st δ k)) :
    OutG rel K ec W σ φ H r fun v H1 => ∃ φ1 x S1, Ext φ H φ1 H1 ∧ Rs K φ1 S1 H1 ∧ rel φ1 H1 v x ∧ OutS K ec W D φ1 H1 (k x S1) := by
  cases r with
  | ok d S' => exact fun φ' v H' e' rs rv => ⟨φ', d, S', e', rs, rv, OutS.ext e' h⟩
  | exc c a S' => exact fun φ' H' dd e' rs x => h φ' σ H' dd e' rs (re.ext e') x
  | stuck => exact h
theorem nx_ok {S : Store} (h : OutS K ec W D φ H (.nx δ S)) (rs : Rs K φ S H) (re : RE K φ H δ σ) : D.nx σ H := h φ σ H (Ext.refl _ _) rs re
end
theorem PS.imp {s : Stmt} {t t' : TS} (h : PS X s t) (k : ∀ D σ H, t' D σ H → t D σ H) : PS X s t' := ⟨fun pins s σ H D I q => h.run pins s σ H D I (k D σ H q)⟩
theorem PSs.imp {s : List Stmt} {t t' : TS} (h : PSs X s t) (k : ∀ D σ H, t' D σ H → t D σ H) : PSs X s t' := ⟨fun pins s σ H D I q => h.run pins s σ H D I (k D σ H q)⟩
variable {st : Stmt} {sts body : List Stmt} {cs cr cb' : CS}
theorem s_pass : GS X ec F W (.Pass pos) .skip := PS.imp ps_pass fun D σ H ⟨φ, δ, S, rs, re, h⟩ => nx_ok h rs re
theorem s_doc {x j p'} : GS X ec F W (.Expr (.Constant (.str x) j p') pos) .skip := PS.imp ps_doc fun D σ H ⟨φ, δ, S, rs, re, h⟩ => nx_ok h rs re
theorem s_brk : GS X ec F W (.Break pos) .brk := PS.imp ps_break fun D σ H ⟨φ, δ, S, rs, re, h⟩ => h φ σ H (Ext.refl _ _) rs re
theorem ss_nil : GSs X ec F W [] .skip := PSs.imp pss_nil fun D σ H ⟨φ, δ, S, rs, re, h⟩ => nx_ok h rs re
theorem OutS.bind {K : PySem.W.Frag} {D : Ends} {φ : Phi} {H : Hp} {r : SR} {k : Env → Store → SR} {N : St → Hp → Prop} (h : OutS K ec W D φ H (r.bind k))
    (hN : ∀ φ' σ' H' δ' S', Ext φ H φ' H' → Rs K φ' S' H' → RE K φ' H' δ' σ' → OutS K ec W D φ' H' (k δ' S') → N σ' H') : OutS K ec W { D with nx := N } φ H r := by
  cases r with
  | nx δ' S' => exact fun φ' σ' H' e rs re => hN φ' σ' H' δ' S' e rs re (OutS.ext e h)
  | rt d S' => exact h
  | bk δ' S' => exact h
  | xc c a δ' S' => exact h
  | stuck => exact h
theorem ss_cons (h1 : GS X ec F W st cs) (h2 : GSs X ec F W sts cr) : GSs X ec F W (st :: sts) (.seq cs cr) := PSs.imp (pss_cons h1 h2) fun D σ H ⟨φ, δ, S, rs, re, h⟩ => by
  unfold run at h
  exact ⟨φ, δ, S, rs, re, OutS.bind h fun φ' σ' H' δ' S' e rs re h => ⟨φ', δ', S', rs, re, h⟩⟩
theorem ss_one (h1 : GS X ec F W st cs) : GSs X ec F W [st] cs := pss_one h1
theorem s_expr (he : GE X ec F W e ce) (hs : swapsWith e none pos.line X.env = pure false) : GS X ec F W (.Expr e pos) (.expr ce) := PS.imp (ps_expr he hs) fun D σ H ⟨φ, δ, S, rs, re, h⟩ => by
  unfold run at h
  refine ⟨φ, δ, S, rs, re, (OutS.st (rel := Rv X.K) re h).mono fun v H1 ⟨φ1, x, S1, e1, rs1, r1, h1⟩ => ?_⟩
  exact nx_ok h1 rs1 (re.ext e1)
theorem s_ret (he : GE X ec F W e ce) : GS X ec F W (.Return (some e) pos) (.ret ce) := PS.imp (ps_ret he) fun D σ H ⟨φ, δ, S, rs, re, h⟩ => by
  unfold run at h
  refine ⟨φ, δ, S, rs, re, (OutS.st (rel := Rv X.K) re h).mono fun v H1 ⟨φ1, x, S1, e1, rs1, r1, h1⟩ => ?_⟩
  exact h1 φ1 v H1 (Ext.refl _ _) rs1 r1
theorem s_retN : GS X ec F W (.Return none pos) (.ret (.con .non)) := PS.imp ps_retN fun D σ H ⟨φ, δ, S, rs, re, h⟩ => by
  unfold run at h
  rw [ev_con] at h
  exact h φ .non H (Ext.refl _ _) rs .non
theorem s_retF {i : Nat} {x : Str} {p' : Pos} (hN : X.N[i]? = some x) (hv : Vis X.env.scope x) (hd : (x == ("__debug__" : Str)) = false) (hcd : (x == ("__classdict__" : Str)) = false) : GS X ec F W (.Return (some (.Name x p')) pos) (.retF i) :=
  PS.imp (ps_ret (pe_var hN hv hd hcd)) fun D σ H ⟨φ, δ, S, rs, re, h⟩ => by
    unfold run at h
    cases e : δ[i]? with
    | none => simp only [e] at h; exact h.elim
    | some o =>
      cases o with
      | none => simp only [e] at h; exact h.elim
      | some d =>
        cases d with
        | ref q =>
          simp only [e] at h
          cases e2 : S[q]? with
          | none => simp only [e2] at h; exact h.elim
          | some cl =>
            cases cl with
            | lst ds =>
              simp only [e2] at h
              obtain ⟨v, h1, h2⟩ := re.2 i _ e
              obtain ⟨a, xs, rfl, h3, h4, h5⟩ := cell_at rs h2 e2
              exact ⟨_, h1, h (φ.cut q) (.ref a) H Ext.frz rs.frz (.lst h4 (free_frz rs h3) (h5.ext Ext.frz))⟩
            | dk _ => simp only [e2] at h; exact h.elim
            | dt _ => simp only [e2] at h; exact h.elim
            | gone => simp only [e2] at h; exact h.elim
        | _ => simp only [e] at h; exact h.elim
theorem s_asg {t : CT} (he : GE X ec F W e ce) (hg : GG X tg t) (hs : swapsWithSole [tg] e pos.line X.env = pure false) (hw : swappedStores [tg] e X.env = pure none) (h1 : (assignEach [tg] X.env).map (·.2) = [assign tg X.env]) :
    GS X ec F W (.Assign [tg] e pos) (.asg t ce) := PS.imp (ps_asg he hg hs hw h1) fun D σ H ⟨φ, δ, S, rs, re, h⟩ => by
  unfold run at h
  refine ⟨φ, δ, S, rs, re, (OutS.st (rel := Rv X.K) re h).mono fun v H1 ⟨φ1, x, S1, e1, rs1, r1, h1⟩ => ?_⟩
  cases e2 : stepT t x δ with
  | none => simp only [e2] at h1; exact h1.elim
  | some δ1 =>
    simp only [e2] at h1
    exact ⟨φ1, S1, x, δ, δ1, rs1, r1, re.ext e1, e2, fun σ' re' _ => nx_ok h1 rs1 re'⟩
/-- name = [.. for ..], on one line -/
theorem s_setLc {own : List (Str × Nat)} {ifs : List Expr} {scope : Scope} {t : CT} {isM : Bool} {i : Nat} {y : Str} {py : Pos} (hc : X.calm = true) (hN : X.N.Nodup) (hy : X.N[i]? = some y) (hyl : X.env.scope.names.lookup y = some .local)
    (hsw : swapsWith (.ListComp elt [⟨tg, it, ifs, 0⟩] scope p) (some (.Name y py)) pos.line X.env = pure true) (hi : GI X ec F W tg it ca) (ok : BlkOk X.N X.env.scope scope own)
    (hg : ∀ (s : Shared) (H : Hp) (C : Addr) (cl : List (Str × Addr)) (fp : List Addr), GG (X.blk s H scope (compEnvC scope cl C X.env) fp) tg t)
    (ht : ∀ (s : Shared) (H : Hp) (C : Addr) (cl : List (Str × Addr)) (fp : List Addr), GTs (X.blk s H scope (compEnvC scope cl C X.env) fp) ec F W0 ifs cc)
    (he : ∀ (s : Shared) (H : Hp) (C : Addr) (cl : List (Str × Addr)) (fp : List Addr), GE (X.blk s H scope (compEnvC scope cl C X.env) fp) ec F W0 elt ce) (hs : ∀ x, foldedSetIterable it X.env x = pure x)
    (hsl : ∀ i ∈ ctSlots t, i ∈ own.map (·.2)) : GS X ec F W (.Assign [.Name y py] (.ListComp elt [⟨tg, it, ifs, 0⟩] scope p) pos) (.asg (.nm i) (.comp ce t ca cc (own.map (·.2)) isM)) :=
  PS.imp (ps_setLc (g := rdG X.K t) (tt := rdT X.K ec F W0 cc) (te := rdE X.K ec F W0 ce) hc hN hy hyl hsw hi ok hg ht he hs) fun D σ H ⟨φ, δ, S, rs, re, h⟩ => by
    unfold run at h
    refine tLc_of (F := F) (ec := ec) (W := W) (isM := isM) hsl ⟨φ, δ, S, rs, re, (OutS.st (rel := Rv X.K) re h).mono fun v H1 ⟨φ1, x, S1, e1, rs1, r1, h1⟩ => ?_⟩
    by_cases hl : i < δ.length
    · simp only [stepT, if_pos hl] at h1
      exact nx_ok h1 rs1 ((re.ext e1).set r1)
    · simp only [stepT, if_neg hl] at h1
      exact h1.elim
/-- a, b = x, y with plain local names -/
theorem s_par {i j : Nat} {x y : Str} {px py pt : Pos} {kt k2 pt2} (hc : X.calm = true) (hN : X.N.Nodup) (hi : X.N[i]? = some x) (hj : X.N[j]? = some y) (hij : i ≠ j)
    (hx : X.env.scope.names.lookup x = some .local) (hy : X.env.scope.names.lookup y = some .local) (ha : GA X ec F W [a, b] ca)
    (hw : swappedStores [.Tuple [.Name x px, .Name y py] kt pt] (.Tuple [a, b] k2 pt2) X.env = pure (some [x, y])) (hs : swapsWithSole [.Tuple [.Name x px, .Name y py] kt pt] (.Tuple [a, b] k2 pt2) pos.line X.env = pure false) :
    GS X ec F W (.Assign [.Tuple [.Name x px, .Name y py] kt pt] (.Tuple [a, b] k2 pt2) pos) (.asg (.tp (.cons (.nm i) (.cons (.nm j) .nil))) (.tup ca)) :=
  PS.imp (ps_par hc hN hi hj hij hx hy ha hw hs) fun D σ H ⟨φ, δ, S, rs, re, h⟩ => by
    unfold run ev at h
    refine ⟨φ, δ, S, rs, re, ?_⟩
    cases e1 : evs F ca δ S with
    | stuck => rw [e1] at h; exact h
    | exc c a S1 => rw [e1] at h; exact fun φ' H' dd e' rs x => h φ' σ H' dd e' rs (re.ext e') x
    | ok ds S1 =>
      rw [e1, R.bind_ok, R.st_ok] at h
      intro φ1 vs H1 ex rs1 r1
      cases e2 : stepT (.tp (.cons (.nm i) (.cons (.nm j) .nil))) (.tup ds) δ with
      | none => rw [e2] at h; exact h.elim
      | some δ1 =>
        rw [e2] at h
        match ds, r1, e2 with
        | [d1, d2], r0, e2 =>
          obtain ⟨v, w, rfl, q1, q2⟩ := Rvs.two r0
          by_cases hl : i < δ.length
          · by_cases hl2 : j < δ.length
            · simp [stepT, stepT.go, hl, hl2] at e2
              subst e2
              exact ⟨v, w, rfl, h φ1 _ H1 ex rs1 (((re.ext ex).set q1).set q2)⟩
            · simp [stepT, stepT.go, hl, hl2] at e2
          · simp [stepT, stepT.go, hl] at e2
        | [], r0, e2 => simp [stepT, stepT.go] at e2
        | [d1], r0, e2 =>
          by_cases hl : i < δ.length <;> simp [stepT, stepT.go, hl] at e2
        | d1 :: d2 :: d3 :: dr, r0, e2 =>
          by_cases hl : i < δ.length <;> by_cases hl2 : j < δ.length <;> simp [stepT, stepT.go, hl, hl2] at e2
/-- o[i] = e -/
theorem s_sub (hu : X.A.units + 65 < cLine) {i : Expr} {ci : CE} {p' : Pos} (he : GE X ec F W e ce) (ho : GE X ec F W o co) (hi : GE X ec F W i ci)
    (ha : ∀ v, assign (.Subscript o i p') X.env v = (do
      let ov ← holding [v] (eval o X.env)
      let iv ← holding [v, ov] (eval i X.env)
      standAt p'
      holding [v, ov, iv] (setItem ov iv v)
      release [v, ov, iv] [])) (hs : swapsWithSole [.Subscript o i p'] e pos.line X.env = pure false) (hw : swappedStores [.Subscript o i p'] e X.env = pure none) (h1 : (assignEach [.Subscript o i p'] X.env).map (·.2) = [assign (.Subscript o i p') X.env]) :
    GS X ec F W (.Assign [.Subscript o i p'] e pos) (.set co ci ce) := PS.imp (ps_asg he (pg_sub ho hi (z_set (by omega)) ha) hs hw h1) fun D σ H ⟨φ, δ, S, rs, re, h⟩ => by
  unfold run at h
  refine ⟨φ, δ, S, rs, re, (OutS.st (rel := Rv X.K) re h).mono fun v H1 ⟨φ1, x, S1, e1, rs1, r1, h1⟩ => ?_⟩
  refine ⟨φ1, δ, S1, rs1, re.ext e1, (OutS.st (rel := Rv X.K) (re.ext e1) h1).mono fun ov H2 ⟨φ2, y, S2, e2, rs2, r2, h2⟩ => ?_⟩
  refine ⟨φ2, δ, S2, rs2, (re.ext e1).ext e2, (OutS.st (rel := Rv X.K) ((re.ext e1).ext e2) h2).mono fun iv H3 ⟨φ3, z, S3, e3, rs3, r3, h3⟩ => ?_⟩
  refine ⟨φ3, S3, y, z, x, rs3, r2.ext e3, r3, r1.ext (e2.trans e3), ?_⟩
  cases e4 : setEv y z x S3 with
  | none => simp only [e4] at h3; exact h3.elim
  | some S4 =>
    simp only [e4] at h3
    exact fun H' ex rs' => h3 φ3 σ H' ex rs' ((((re.ext e1).ext e2).ext e3).ext ex)
theorem rdT_of {K : PySem.W.Frag} {φ : Phi} {H : Hp} {δ : Env} {S : Store} {σ : St} {D : Ends} {c : CE} {k1 k2 : Store → SR} (rs : Rs K φ S H) (re : RE K φ H δ σ) (h : OutS K ec W D φ H ((ev F c δ S).st δ fun x S1 => match x with
    | .bl true => k1 S1
    | .bl false => k2 S1
    | _ => .stuck)) : rdT K ec F W c σ H fun b H1 => ∃ φ1 S1, Rs K φ1 S1 H1 ∧ RE K φ1 H1 δ σ ∧ OutS K ec W D φ1 H1 (if b = true then k1 S1 else k2 S1) := by
  refine ⟨φ, δ, S, rs, re, fun d S' e => ?_, ?_⟩
  · rw [e, R.st_ok] at h
    cases d with
    | bl b => exact ⟨b, rfl⟩
    | _ => exact h.elim
  · refine (OutS.st (rel := relB) re h).mono fun v H1 ⟨φ1, x, S1, e1, rs1, r1, h1⟩ => ?_
    cases r1
    refine ⟨φ1, S1, rs1, re.ext e1, ?_⟩
    cases v with
    | true => rw [if_pos rfl]; exact h1
    | false => rw [if_neg Bool.false_ne_true]; exact h1
theorem s_if (hc : GT X ec F W c cc) (ha : GSs X ec F W sts cs) (hb : GSs X ec F W body cr) : GS X ec F W (.If c sts body pos) (.ife cc cs cr) := PS.imp (ps_if hc ha hb) fun D σ H ⟨φ, δ, S, rs, re, h⟩ => by
  unfold run at h
  obtain ⟨φ0, δ0, S0, q1, q2, q3, q4⟩ := rdT_of (k1 := fun S1 => run F cs δ S1) (k2 := fun S1 => run F cr δ S1) rs re h
  refine ⟨φ0, δ0, S0, q1, q2, q3, q4.mono fun b H1 ⟨φ1, S1, rs1, re1, h1⟩ => ?_⟩
  cases b with
  | true => rw [if_pos rfl] at h1 ⊢; exact ⟨φ1, δ, S1, rs1, re1, h1⟩
  | false => rw [if_neg Bool.false_ne_true] at h1 ⊢; exact ⟨φ1, δ, S1, rs1, re1, h1⟩
theorem s_while (hp : PassesOwn (model X.prog X.w) X.A X.env X.xe) (hc : GT X ec F W c cc) (hb : GSs X ec F W body cs) : GS X ec F W (.While c body [] pos) (.whl cc cs) := PS.imp (ps_while hp hc hb) fun D σ H ⟨φ, δ, S, rs, re, h⟩ => by
  unfold run at h
  have ns : loopW (wstep (ev F cc) (run F cs)) (δ, S) ≠ .stuck := fun z => by
    rw [z] at h
    exact h
  obtain ⟨n, hn⟩ := loopW_ended ns
  refine ⟨fun m σ' H' => ∃ φ' δ' S' r, Rs X.K φ' S' H' ∧ RE X.K φ' H' δ' σ' ∧ iterW (wstep (ev F cc) (run F cs)) m (δ', S') = some r ∧ OutS X.K ec W D φ' H' r, ⟨n, φ, δ, S, _, rs, re, hn, h⟩, ?_⟩
  rintro m σ1 H1 ⟨φ1, δ1, S1, r, rs1, re1, hm, h1⟩
  cases m with
  | zero => cases hm
  | succ m =>
    unfold iterW wstep at hm
    have bad : r ≠ .stuck := fun z => by
      subst z
      exact h1
    dsimp only at hm
    refine ⟨φ1, δ1, S1, rs1, re1, fun d S' e => ?_, ?_⟩
    · rw [e] at hm
      cases d with
      | bl b => exact ⟨b, rfl⟩
      | _ => cases hm; exact absurd rfl bad
    · cases e2 : ev F cc δ1 S1 with
      | stuck => rw [e2] at hm; cases hm; exact absurd rfl bad
      | exc c a S2 =>
        rw [e2] at hm
        cases hm
        exact fun φ' H' dd e' rs x => h1 φ' σ1 H' dd e' rs (re1.ext e') x
      | ok d S2 =>
        rw [e2] at hm
        intro φ2 b H2 ex2 rs2 r2
        cases r2
        have re2 := re1.ext ex2
        have h2 := OutS.ext ex2 h1
        cases b with
        | false =>
          rw [if_neg Bool.false_ne_true]
          cases hm
          exact nx_ok h2 rs2 re2
        | true =>
          rw [if_pos rfl]
          dsimp only at hm
          refine ⟨fun σ' H' => ∃ φ' δ' S', Rs X.K φ' S' H' ∧ RE X.K φ' H' δ' σ' ∧ iterW (wstep (ev F cc) (run F cs)) m (δ', S') = some r ∧ OutS X.K ec W D φ' H' r, fun σ' H' ⟨φ', δ', S', a1, a2, a3, a4⟩ => ⟨m, Nat.lt_succ_self m, φ', δ', S', r, a1, a2, a3, a4⟩, φ2, δ1, S2, rs2, re2, ?_⟩
          cases e3 : run F cs δ1 S2 with
          | nx δ3 S3 =>
            rw [e3] at hm
            exact fun φ' σ' H' e' rs' re' => ⟨φ', δ3, S3, rs', re', hm, OutS.ext e' h2⟩
          | bk δ3 S3 => rw [e3] at hm; cases hm; exact h2
          | rt d S3 => rw [e3] at hm; cases hm; exact h2
          | xc c a δ3 S3 => rw [e3] at hm; cases hm; exact h2
          | stuck => rw [e3] at hm; cases hm; exact absurd rfl bad
theorem s_for {t : CT} (hp : PassesOwn (model X.prog X.w) X.A X.env X.xe) (hc : X.calm = true) (hi : GI X ec F W tg it ca) (hg : GG X tg t) (hb : GSs X ec F W body cs) (hs : ∀ x, foldedSetIterable it X.env x = pure x) :
    GS X ec F W (.For tg it body [] pos) (.fr t ca cs) := PS.imp (ps_for hp hc hi hg hb hs) fun D σ H ⟨φ, δ, S, rs, re, h⟩ => by
  unfold run at h
  refine ⟨φ, δ, S, rs, re, (OutS.st (rel := fun φ H J w => WalkJ X.K φ H J w) re h).mono fun J H1 ⟨φ1, w, S1, e1, rs1, wj, h1⟩ => ?_⟩
  let Ph : Nat → St → Hp → Prop := fun i σ' H' => ∃ φ' δ' S', Ext φ1 H1 φ' H' ∧ Rs X.K φ' S' H' ∧ RE X.K φ' H' δ' σ' ∧ OutS X.K ec W D φ' H' (forEv (run F cs) t w (w.items.drop i) δ' S')
  refine ⟨fun i m σ' H' => m + i = w.items.length ∧ Ph i σ' H', ⟨w.items.length, by omega, φ1, δ, S1, Ext.refl _ _, rs1, re.ext e1, h1⟩, ?_⟩
  rintro i m σ2 H2 ⟨hm, φ2, δ2, S2, e2, rs2, re2, h2⟩
  have ns : forEv (run F cs) t w (w.items.drop i) δ2 S2 ≠ .stuck := fun z => by
    rw [z] at h2
    exact h2
  by_cases hi : i < w.items.length
  · right
    have hd : w.items[i]? = some w.items[i] := by simp [hi]
    have hdr : w.items.drop i = w.items[i] :: w.items.drop (i + 1) := List.drop_eq_getElem_cons hi
    rw [hdr] at h2 ns
    generalize w.items[i] = d at hd h2 ns
    unfold forEv at h2 ns
    by_cases hw : w.At S2
    · simp only [if_pos hw] at h2 ns
      obtain ⟨hgo, hyd⟩ := (wj φ2 S2 H2 e2 rs2 hw).1 i d hd
      refine ⟨hgo, Ph (i + 1), fun σ' H' q => ⟨m - 1, by omega, by omega, q⟩, fun x H3 y => ?_⟩
      obtain ⟨rfl, rx⟩ := hyd x H3 y
      cases e3 : stepT t d δ2 with
      | none => simp only [e3] at ns; exact absurd rfl ns
      | some δ3 =>
        simp only [e3] at h2 ns
        refine ⟨φ2, S2, d, δ2, δ3, rs2, rx, re2, e3, fun σ3 re3 off => ?_⟩
        refine ⟨φ2, δ3, S2, rs2, re3, ?_⟩
        cases e4 : run F cs δ3 S2 with
        | nx δ4 S4 =>
          simp only [e4] at h2
          exact fun φ' σ' H' e' rs' re' => ⟨φ', δ4, S4, e2.trans e', rs', re', OutS.ext e' h2⟩
        | bk δ4 S4 => simp only [e4] at h2; exact h2
        | rt d S4 => simp only [e4] at h2; exact h2
        | xc c a δ4 S4 => simp only [e4] at h2; exact h2
        | stuck => simp only [e4] at ns; exact absurd rfl ns
    · simp only [if_neg hw] at ns
      exact absurd rfl ns
  · left
    have ei : i = w.items.length := by omega
    subst ei
    rw [List.drop_length] at h2 ns
    unfold forEv at h2 ns
    by_cases hw : w.At S2
    · simp only [if_pos hw] at h2 ns
      exact ⟨(wj φ2 S2 H2 e2 rs2 hw).2, nx_ok h2 rs2 re2⟩
    · simp only [if_neg hw] at ns
      exact absurd rfl ns
end
end Z

/-! Z, part H: from the program's text to the small language. -/
namespace Z
open PySem PySem.Spec PyProof.Rows L2
/-! ### what is known of the names -/
structure Sc where
  N : List Str
  sc : Scope
  fn : Str → Bool
  mv : List Nat
  rm : Bool
structure Tab where
  fns : List (Str × Nat)
  cons : List (Str × D)
  bl : List Str
  ex : List (Str × Nat)
def visB (sc : Scope) (x : Str) : Bool := match sc.names.lookup x with
  | some .local => true
  | some .cell => true
  | some .free => true
  | _ => false
def locB (s : Sc) (x : Str) : Bool := match s.sc.names.lookup x with
  | some .local => true
  | some .cell => s.fn x
  | _ => false
def glB (sc : Scope) (x : Str) : Bool := match sc.names.lookup x with
  | some .globalImplicit => true
  | _ => false
def okName (x : Str) : Bool := !(x == ("__debug__" : Str)) && !(x == ("__classdict__" : Str))
def ixOf (N : List Str) (x : Str) : Option Nat := N.findIdx? (· == x)
theorem ixOf_at {N : List Str} {x : Str} {i : Nat} (h : ixOf N x = some i) : N[i]? = some x := by
  unfold ixOf at h
  rw [List.findIdx?_eq_some_iff_getElem] at h
  obtain ⟨hi, h1, _⟩ := h
  rw [List.getElem?_eq_getElem hi]
  exact congrArg some (beq_iff_eq.mp h1)
def unBop : Operator → Option Bop
  | .Add => some .add
  | .Sub => some .sub
  | .Mult => some .mul
  | .FloorDiv => some .fdiv
  | .Mod => some .mod
  | .Pow => some .pow
  | _ => none
theorem unBop_of {op : Operator} {b : Bop} (h : unBop op = some b) : op = bopOp b := by
  cases op <;> cases h <;> rfl
def unCop : CmpOp → Cop
  | .Eq => .eq | .NotEq => .ne | .Lt => .lt | .LtE => .le | .Gt => .gt | .GtE => .ge | .Is => .is | .IsNot => .isnot | .In => .isin | .NotIn => .notin
theorem unCop_of (op : CmpOp) : op = copOp (unCop op) := by cases op <;> rfl
def notSet : Expr → Bool
  | .Set _ _ _ => false
  | _ => true
theorem marks_of {op : CmpOp} {b : Expr} (h : notSet b = true) : behindInMarks op b = false := by
  cases b <;> first | rfl | cases h
theorem folded_of {e : Expr} (env : PySem.Env) (h : notSet e = true) : ∀ x, foldedSetIterable e env x = pure x := by
  intro x
  cases e <;> first | rfl | cases h
def plainIx : Expr → Bool
  | .Slice _ _ _ _ => false
  | _ => true
theorem plainIx_of {e : Expr} (h : plainIx e = true) : PlainIx e := fun o i => by
  cases e <;> first | rfl | cases h
def bltTab : List (Str × Blt) := [("len", .len), ("abs", .abs), ("int", .int), ("str", .str), ("tuple", .tuple), ("list", .list), ("all", .all), ("any", .any), ("sum", .sum), ("min", .min), ("max", .max), ("sorted", .sorted)]
def bltOf (x : Str) : Option Blt := bltTab.lookup x
theorem bltTab_ok : ∀ q ∈ bltTab, q.1 = bltName q.2 ∧ bltOk q.2 = true := by
  unfold bltTab
  repeat (refine List.forall_mem_cons.mpr ⟨⟨rfl, rfl⟩, ?_⟩)
  exact fun q h => by cases h
theorem bltOf_ok {x : Str} {b : Blt} (h : bltOf x = some b) : x = bltName b ∧ bltOk b = true := bltTab_ok (x, b) (PySem.mem_of_lookup h)
def tyOf (x : Str) : Option Ty :=
  if x == ("int" : Str) then some .int else if x == ("bool" : Str) then some .bool else if x == ("str" : Str) then some .str else if x == ("tuple" : Str) then some .tup else if x == ("list" : Str) then some .lst else if x == ("dict" : Str) then some .dict else none
theorem tyOf_ok {x : Str} {t : Ty} (h : tyOf x = some t) : x = tyStr t ∧ ∀ c, t ≠ .own c := by
  unfold tyOf at h
  repeat' (split at h <;> first | (cases h; rename_i e; exact ⟨beq_iff_eq.mp e, fun c z => by cases z⟩) | skip)
  cases h
/-- an expression that may stand as a test -/
def tstB : Expr → Bool
  | .IfExp _ _ _ _ => false
  | _ => true
/-- .. as a test it is its value's truth -/
def plainT : Expr → Bool
  | .IfExp _ _ _ _ => false
  | .UnaryOp .Not _ _ => false
  | .BoolOp _ _ _ => false
  | .Compare _ _ _ _ => false
  | _ => true
theorem plainT_of {e : Expr} (env : PySem.Env) (h : plainT e = true) : ∀ whole, isTrue e env whole = (do let v ← whole; standAt e.pos; holding [v] (truthy v)) := fun whole => by
  cases e <;> first | rfl | (cases h; done) | skip
  rename_i op _ _
  cases op <;> first | rfl | cases h
def starNo : Expr → Bool := noStar
def ownOf (N : List Str) (scope : Scope) : List (Str × Nat) := scope.names.filterMap fun (x, k) => match k with
  | .local => (ixOf N x).map fun i => (x, i)
  | .cell => (ixOf N x).map fun i => (x, i)
  | _ => none
def subB (a b : List Nat) : Bool := a.all fun i => b.any fun j => i == j
theorem subB_of {a b : List Nat} (h : subB a b = true) : ∀ i ∈ a, i ∈ b := fun i hi => by
  have h1 := List.all_eq_true.mp h i hi
  obtain ⟨j, hj, e⟩ := List.any_eq_true.mp h1
  rw [beq_iff_eq.mp e]
  exact hj
def blkSc (s : Sc) (scope : Scope) : Sc := { s with sc := relS scope s.sc, fn := fun x => scope.names.lookup x == some .cell }
/-- a target -/
def cTs (s : Sc) : List Expr → Option CT
  | [] => some .nil
  | .Name x _ :: ts => if locB s x then (match ixOf s.N x, cTs s ts with
    | some i, some t => some (.cons (.nm i) t)
    | _, _ => none) else none
  | _ :: _ => none
def cT (s : Sc) : Expr → Option CT
  | .Name x _ => if locB s x then (ixOf s.N x).map .nm else none
  | .Tuple ts _ _ => (cTs s ts).map .tp
  | _ => none
def isMut (s : Sc) (t : CT) : Bool := match t with
  | .nm i => s.mv.any fun j => i == j
  | _ => false
/-- displays that will change -/
def mkM : Nat → CE → CE
  | n + 1, .lst es => .mlst (mkMs n es)
  | _, c => c
where mkMs : Nat → CE → CE
  | n + 1, .cons e es => .cons (mkM n e) (mkMs n es)
  | _, c => c
def cList (f : Expr → CE) : List Expr → CE
  | [] => .nil
  | e :: es => .cons (f e) (cList f es)
def cBool (f : Expr → CE) (isAnd : Bool) : List Expr → CE
  | [] => .nil
  | [e] => f e
  | e :: es => if isAnd then .and (f e) (cBool f isAnd es) else .or (f e) (cBool f isAnd es)
def cOpt (f : Expr → CE) : Option Expr → CE
  | none => .nil
  | some e => .one (f e)
def few (c : CE) : Bool := decide (esLen c ≤ 1000)
mutual
def cE (T : Tab) : Nat → Sc → Expr → CE
  | 0, _, _ => .nil
  | n + 1, s, e => match e with
    | .Name x _ => if okName x then (if visB s.sc x then (match ixOf s.N x with
        | some i => .var i
        | none => .nil) else if glB s.sc x then (match T.cons.lookup x with
          | some d => .con d
          | none => .nil) else .nil) else .nil
    | .Constant (.int i) _ _ => .con (.int i)
    | .Constant (.bool b) _ _ => .con (.bl b)
    | .Constant (.str x) _ _ => .con (.str x)
    | .Constant .none _ _ => .con .non
    | .Tuple es _ _ => if noStars es && few (cList (cE T n s) es) then .tup (cList (cE T n s) es) else .nil
    | .List es _ => if noStars es && few (cList (cE T n s) es) then .lst (cList (cE T n s) es) else .nil
    | .BinOp a op b _ => match unBop op with
      | some o => .bin o (cE T n s a) (cE T n s b)
      | none => .nil
    | .UnaryOp .USub a _ => .neg (cE T n s a)
    | .UnaryOp .Not a _ => if tstB a then .not (cE T n s a) else .nil
    | .BoolOp op vs _ => if vs.all tstB then cBool (cE T n s) (match op with | .And => true | .Or => false) vs else .nil
    | .Compare a [op] [b] _ => if notSet b then .cmp (unCop op) (cE T n s a) (cE T n s b) else .nil
    | .Compare a [o1, o2] [b, c] _ => if notSet c then .chain (unCop o1) (unCop o2) (cE T n s a) (cE T n s b) (cE T n s c) else .nil
    | .IfExp t a b _ => if tstB t then .ife (cE T n s t) (cE T n s a) (cE T n s b) else .nil
    | .Dict [] [] _ => .edic
    | .Subscript a (.Slice none none (some (.UnaryOp .USub (.Constant (.int 1) _ _) _)) _) _ => .rev (cE T n s a)
    | .Subscript a (.Slice lo hi none _) _ => .sl (cE T n s a) (cOpt (cE T n s) lo) (cOpt (cE T n s) hi)
    | .Subscript a i _ => if plainIx i then .idx (cE T n s a) (cE T n s i) else .nil
    | .Call (.Name f _) args [] _ => if okName f && glB s.sc f && noStars args then (match T.fns.lookup f with
      | some i => .call i (cList (cE T n s) args)
      | none => if f == ("isinstance" : Str) then (match args with
          | [a, .Name t _] => (match tyOf t with
            | some ty => if T.bl.contains f && T.bl.contains t && glB s.sc t then .isi (cE T n s a) ty else .nil
            | none => .nil)
          | _ => .nil)
        else match bltOf f, args with
          | some b, _ :: _ => if T.bl.contains f then .blt b (cList (cE T n s) args) else .nil
          | _, _ => .nil) else .nil
    | .Call (.Attribute o m apos) args [] pos => if plainBase o && (apos.endLine == pos.line) then (match args with
      | [a] => if m == ("append" : Str) && noStar a then .mth .append (cE T n s o) (.cons (cE T n s a) .nil) else .nil
      | [] => if m == ("reverse" : Str) then .mth .reverse (cE T n s o) .nil else if m == ("pop" : Str) then .mth .pop (cE T n s o) .nil else .nil
      | _ => .nil) else .nil
    | .ListComp elt [⟨tg, it, ifs, 0⟩] scope _ => cLc T n s elt tg it ifs scope false
    | _ => .nil
/-- what is walked -/
def cI (T : Tab) : Nat → Sc → Expr → CE
  | 0, _, _ => .nil
  | n + 1, s, it => match it with
    | .Call (.Name f _) [a] [] _ => if f == ("range" : Str) && okName f && glB s.sc f && T.bl.contains f && noStar a then .rng (.con (.int 0)) (cE T n s a) else .one (cE T n s it)
    | .Call (.Name f _) [a, b] [] _ => if f == ("range" : Str) && okName f && glB s.sc f && T.bl.contains f && noStars [a, b] then .rng (cE T n s a) (cE T n s b) else .one (cE T n s it)
    | e => .one (cE T n s e)
def cLc (T : Tab) : Nat → Sc → Expr → Expr → Expr → List Expr → Scope → Bool → CE
  | 0, _, _, _, _, _, _, _ => .nil
  | n + 1, s, elt, tg, it, ifs, scope, isM =>
    if notSet it && blkC s.N s.sc scope (ownOf s.N scope) then (match cT (blkSc s scope) tg with
      | some t => if subB (ctSlots t) ((ownOf s.N scope).map (·.2)) then (match ifs with
        | [] => .comp (cE T n (blkSc s scope) elt) t (cI T n s it) (.con (.bl true)) ((ownOf s.N scope).map (·.2)) isM
        | [c] => if tstB c then .comp (cE T n (blkSc s scope) elt) t (cI T n s it) (cE T n (blkSc s scope) c) ((ownOf s.N scope).map (·.2)) isM else .nil
        | _ => .nil) else .nil
      | none => .nil) else .nil
end
/-! ### it says what the text says -/
structure Xok (T : Tab) (ec : Nat → Value) (F : Fn) (W : WX) (r : Nat) (s : Sc) (X : Cx) : Prop where
  N : X.N = s.N
  nd : s.N.Nodup
  sc : X.env.scope = s.sc
  kind : s.sc.kind = .function
  fn : X.fn = s.fn
  calm : X.calm = true
  hu : X.A.units + 65 < cLine
  room : Room r X.A
  tk : L2N.Takes X W
  bl : ∀ x, T.bl.contains x = true → X.mg x = none
  fns : ∀ x i, T.fns.lookup x = some i → Callee X ec F r x i
  cons : ∀ x d, T.cons.lookup x = some d → ∃ u v, X.mg x = some u ∧ RelV v u ∧ ∀ φ H, Rv X.K φ H v d
theorem takesN0 {X : Cx} : L2N.Takes X W0 := fun _ _ x => by
  obtain ⟨_, _, _, _, _, _, _, _, _, _, _, _, _, _, _, _, z⟩ := x
  exact z.elim
section
variable {T : Tab} {ec : Nat → Value} {F : Fn} {W : WX} {r : Nat} {s : Sc} {X : Cx}
theorem Xok.vis (k : Xok T ec F W r s X) {x : Str} (h : visB s.sc x = true) : Vis X.env.scope x := by
  rw [k.sc]
  unfold visB at h
  unfold Vis
  cases e : s.sc.names.lookup x with
  | none => rw [e] at h; cases h
  | some q => cases q <;> simp [e] at h ⊢
theorem Xok.loc (k : Xok T ec F W r s X) {x : Str} (h : locB s x = true) : L2.Loc X.env.scope x ∧ (X.fn x = true ∨ X.env.scope.names.lookup x = some .local) := by
  rw [k.sc, k.fn]
  unfold locB at h
  unfold L2.Loc
  cases e : s.sc.names.lookup x with
  | none => rw [e] at h; cases h
  | some q => cases q <;> simp [e] at h ⊢; exact h
theorem Xok.gl (k : Xok T ec F W r s X) {x : Str} (h : glB s.sc x = true) : Gl X x := by
  unfold Gl Env.kindOf
  rw [k.sc]
  unfold glB at h
  cases e : s.sc.names.lookup x with
  | none => rw [e] at h; cases h
  | some q => cases q <;> simp [e] at h ⊢
theorem okName_of {x : Str} (h : okName x = true) : (x == ("__debug__" : Str)) = false ∧ (x == ("__classdict__" : Str)) = false := by
  unfold okName at h
  simpa using h
theorem Xok.blk (k : Xok T ec F W r s X) (scope : Scope) (hk : scope.kind = .function) (st : Shared) (H : Hp) (C : Addr) (cl : List (Str × Addr)) (fp : List Addr) : Xok T ec F W0 r (blkSc s scope) (X.blk st H scope (compEnvC scope cl C X.env) fp) where
  N := k.N
  nd := k.nd
  sc := by
    show relabel scope X.env = relS scope s.sc
    rw [← k.sc]
    rfl
  kind := hk
  fn := rfl
  calm := k.calm
  hu := k.hu
  room := k.room
  tk := takesN0
  bl := k.bl
  fns := fun x i h => ⟨(k.fns x i h).ok⟩
  cons := k.cons
theorem g_stuck {e : Expr} : GE X ec F W e .nil := ⟨fun _ _ _ _ _ _ ⟨φ, δ, S, rs, re, h⟩ => by
  unfold ev at h
  exact h.elim⟩
theorem t_stuck {e : Expr} : GT X ec F W e .nil := ⟨fun _ _ _ _ _ _ ⟨φ, δ, S, rs, re, _, h⟩ => by
  unfold ev at h
  exact h.elim⟩
theorem i_stuck {tg e : Expr} : GI X ec F W tg e .nil := ⟨fun _ _ _ _ _ _ ⟨φ, δ, S, rs, re, h⟩ => by
  unfold evI at h
  exact h.elim⟩
theorem a_list {f : Expr → CE} : ∀ {es : List Expr}, noStars es = true → (∀ e ∈ es, GE X ec F W e (f e)) → GA X ec F W es (cList f es)
  | [], _, _ => g_nil
  | e :: es, hs, h => by
    have h' : (noStar e && noStars es) = true := hs
    rw [Bool.and_eq_true] at h'
    exact g_cons (noStar_of h'.1) (h e List.mem_cons_self) (a_list h'.2 fun x hx => h x (List.mem_cons_of_mem _ hx))
theorem g_bools {f : Expr → CE} {op : BoolOp} {pos : Pos} : ∀ {es : List Expr}, (∀ e ∈ es, GE X ec F W e (f e)) → GE X ec F W (.BoolOp op es pos) (cBool f (match op with | .And => true | .Or => false) es)
  | [], _ => g_stuck
  | [e], h => g_one (h e List.mem_cons_self)
  | e :: e2 :: es, h => by
    have ih := g_bools (op := op) (pos := pos) (es := e2 :: es) fun x hx => h x (List.mem_cons_of_mem _ hx)
    cases op with
    | And => exact g_and (h e List.mem_cons_self) ih
    | Or => exact g_or (h e List.mem_cons_self) ih
theorem w_bools {f : Expr → CE} {op : BoolOp} {pos : Pos} : ∀ {es : List Expr}, es ≠ [] → (∀ e ∈ es, GT X ec F W e (f e)) → GW X ec F W (.BoolOp op es pos) (cBool f (match op with | .And => true | .Or => false) es)
  | [], hn, _ => absurd rfl hn
  | [e], _, h => by
    cases op with
    | And => exact w_and1 (h e List.mem_cons_self)
    | Or => exact w_or1 (h e List.mem_cons_self)
  | e :: e2 :: es, _, h => by
    have ih := w_bools (op := op) (pos := pos) (es := e2 :: es) (by simp) fun x hx => h x (List.mem_cons_of_mem _ hx)
    cases op with
    | And => exact w_and (h e List.mem_cons_self) ih
    | Or => exact w_or (h e List.mem_cons_self) ih
theorem g_opt {f : Expr → CE} {o : Option Expr} (h : ∀ e, o = some e → GE X ec F W e (f e)) : GO X ec F W o (cOpt f o) := by
  cases o with
  | none => exact o_none
  | some e => exact o_some (h e rfl)
theorem cTs_ok (k : Xok T ec F W r s X) : ∀ {ts : List Expr} {t : CT}, cTs s ts = some t → GGs X ts t ∧ (assignEach ts X.env).length = ctLen t ∧ (assignEach ts X.env).findIdx? (·.1) = none
  | [], t, h => by
    unfold cTs at h
    cases h
    exact ⟨ts_nil, rfl, rfl⟩
  | e :: ts, t, h => by
    cases e with
    | Name x p =>
      by_cases hl : locB s x = true
      · simp only [cTs, if_pos hl] at h
        cases e1 : ixOf s.N x with
        | none => rw [e1] at h; cases h
        | some i =>
          cases e2 : cTs s ts with
          | none => rw [e1, e2] at h; cases h
          | some t2 =>
            rw [e1, e2] at h
            cases h
            obtain ⟨g1, g2, g3⟩ := cTs_ok k e2
            obtain ⟨l1, l2⟩ := k.loc hl
            refine ⟨ts_cons (t_nm (by rw [k.N]; exact k.nd) (by rw [k.N]; exact ixOf_at e1) l1 l2) g1, ?_, ?_⟩
            · show (assignEach ts X.env).length + 1 = _
              rw [g2]
              rfl
            · show List.findIdx? (·.1) ((false, _) :: assignEach ts X.env) = none
              rw [List.findIdx?_cons, if_neg Bool.false_ne_true, g3]
              rfl
      · simp only [cTs, if_neg hl] at h
        cases h
    | _ => unfold cTs at h; cases h
theorem cT_ok (k : Xok T ec F W r s X) {tg : Expr} {t : CT} (h : cT s tg = some t) : GG X tg t := by
  cases tg with
  | Name x p =>
    by_cases hl : locB s x = true
    · simp only [cT, if_pos hl] at h
      cases e1 : ixOf s.N x with
      | none => rw [e1] at h; cases h
      | some i =>
        rw [e1] at h
        cases h
        obtain ⟨l1, l2⟩ := k.loc hl
        exact t_nm (by rw [k.N]; exact k.nd) (by rw [k.N]; exact ixOf_at e1) l1 l2
    · simp only [cT, if_neg hl] at h
      cases h
  | Tuple ts k2 p =>
    simp only [cT] at h
    cases e1 : cTs s ts with
    | none => rw [e1] at h; cases h
    | some t2 =>
      rw [e1] at h
      cases h
      obtain ⟨g1, g2, g3⟩ := cTs_ok k e1
      exact t_tp k.calm g1 g2 g3
  | _ => unfold cT at h; cases h

theorem mem_all {α : Type} {p : α → Bool} {l : List α} (h : l.all p = true) : ∀ x ∈ l, p x = true := List.all_eq_true.mp h
theorem few_of {c : CE} (h : few c = true) : esLen c ≤ 1000 := of_decide_eq_true h
/-- all of expressions -/
structure COk (T : Tab) (ec : Nat → Value) (F : Fn) (r : Nat) (n : Nat) : Prop where
  e : ∀ {W : WX} {s : Sc} {X : Cx}, Xok T ec F W r s X → ∀ e, GE X ec F W e (cE T n s e)
  t : ∀ {W : WX} {s : Sc} {X : Cx}, Xok T ec F W r s X → ∀ e, tstB e = true → GT X ec F W e (cE T n s e)
  i : ∀ {W : WX} {s : Sc} {X : Cx}, Xok T ec F W r s X → ∀ tg it, GI X ec F W tg it (cI T n s it)
  lc : ∀ {W : WX} {s : Sc} {X : Cx}, Xok T ec F W r s X → ∀ elt tg it ifs scope isM pos, GE X ec F W (.ListComp elt [⟨tg, it, ifs, 0⟩] scope pos) (cLc T n s elt tg it ifs scope isM)
theorem ands {a b : Bool} (h : (a && b) = true) : a = true ∧ b = true := by rwa [Bool.and_eq_true] at h
theorem blkC_kind {N : List Str} {sc scope : Scope} {own : List (Str × Nat)} (h : blkC N sc scope own = true) : (relS scope sc).kind = .function := (blkOk_by h).kind
theorem c_e (ih : COk T ec F r n) (k : Xok T ec F W r s X) (e : Expr) : GE X ec F W e (cE T (n + 1) s e) := by
  unfold cE
  split
  · rename_i x p
    split
    · rename_i hn
      obtain ⟨hd, hcd⟩ := okName_of hn
      split
      · rename_i hv
        split
        · rename_i i hi
          exact g_var (by rw [k.N]; exact ixOf_at hi) (k.vis hv) hd hcd
        · exact g_stuck
      · split
        · rename_i hg
          split
          · rename_i d hc
            obtain ⟨u, v, hm, rv, hr⟩ := k.cons x d hc
            exact g_glob (k.gl hg) hm rv hd hr
          · exact g_stuck
        · exact g_stuck
    · exact g_stuck
  · exact g_int
  · exact g_bl
  · exact g_str
  · exact g_non
  · split
    · rename_i h
      obtain ⟨h1, h2⟩ := ands h
      exact g_tup (few_of h2) (a_list h1 fun x _ => ih.e k x)
    · exact g_stuck
  · split
    · rename_i h
      obtain ⟨h1, h2⟩ := ands h
      exact g_lst (few_of h2) (a_list h1 fun x _ => ih.e k x)
    · exact g_stuck
  · split
    · rename_i o ho
      rw [unBop_of ho]
      exact g_bin o (ih.e k _) (ih.e k _)
    · exact g_stuck
  · exact g_neg (ih.e k _)
  · split
    · rename_i h
      exact g_not (ih.e k _)
    · exact g_stuck
  · split
    · exact g_bools fun x _ => ih.e k x
    · exact g_stuck
  · split
    · rename_i a op b pos h
      have h3 := g_cmp (pos := pos) (ec := ec) (F := F) (W := W) k.hu (unCop op) (ih.e k a) (ih.e k b) (marks_of h)
      rw [← unCop_of op] at h3
      exact h3
    · exact g_stuck
  · split
    · rename_i a o1 o2 b c pos h
      have h3 := g_chain (pos := pos) (ec := ec) (F := F) (W := W) k.hu (unCop o1) (unCop o2) (ih.e k a) (ih.e k b) (ih.e k c) (marks_of h)
      rw [← unCop_of o1, ← unCop_of o2] at h3
      exact h3
    · exact g_stuck
  · split
    · rename_i h
      exact g_ife (ih.t k _ h) (ih.e k _) (ih.e k _)
    · exact g_stuck
  · exact g_edic
  · exact g_rev (ih.e k _)
  · exact g_sl (ih.e k _) (g_opt fun x _ => ih.e k x) (g_opt fun x _ => ih.e k x)
  · split
    · rename_i h
      exact g_idx k.hu (plainIx_of h) (ih.e k _) (ih.e k _)
    · exact g_stuck
  · rename_i f p args pos
    split
    · rename_i h
      obtain ⟨h12, h3⟩ := ands h
      obtain ⟨h1, h2⟩ := ands h12
      have hd := (okName_of h1).1
      split
      · rename_i i hi
        cases args with
        | nil => exact g_call0 (k.fns f i hi) k.room k.tk (k.gl h2) hd
        | cons a as => exact g_call (k.fns f i hi) k.room k.tk (k.gl h2) hd h3 (a_list h3 fun x _ => ih.e k x)
      · split
        · rename_i hf
          have hf := beq_iff_eq.mp hf
          split
          · rename_i a t p2
            split
            · rename_i ty hty
              split
              · rename_i hc
                obtain ⟨hc12, hc3⟩ := ands hc
                obtain ⟨hc1, hc2⟩ := ands hc12
                obtain ⟨rfl, hown⟩ := tyOf_ok hty
                subst hf
                exact g_isi hown (k.gl h2) (k.bl _ hc1) (k.gl hc3) (k.bl _ hc2) (ands h3).1 (ih.e k a)
              · exact g_stuck
            · exact g_stuck
          · exact g_stuck
        · split
          · rename_i b _ _ hb
            split
            · rename_i hc
              obtain ⟨rfl, ok⟩ := bltOf_ok hb
              exact g_blt b ok k.calm (k.gl h2) (k.bl _ hc) h3 (a_list h3 fun x _ => ih.e k x)
            · exact g_stuck
          · exact g_stuck
    · exact g_stuck
  · rename_i o m apos args pos
    split
    · rename_i h
      obtain ⟨h1, h2⟩ := ands h
      split
      · split
        · rename_i hm
          obtain ⟨hm1, hm2⟩ := ands hm
          rw [beq_iff_eq.mp hm1]
          exact g_append h1 h2 hm2 (ih.e k _) (g_cons (noStar_of hm2) (ih.e k _) g_nil)
        · exact g_stuck
      · split
        · rename_i hm
          rw [beq_iff_eq.mp hm]
          exact g_reverse h1 h2 (ih.e k _)
        · split
          · rename_i hm
            rw [beq_iff_eq.mp hm]
            exact g_pop h1 h2 (ih.e k _)
          · exact g_stuck
      · exact g_stuck
    · exact g_stuck
  · exact ih.lc k _ _ _ _ _ _ _
  · exact g_stuck
theorem c_t (ih : COk T ec F r n) (k : Xok T ec F W r s X) (e : Expr) (ht : tstB e = true) : GT X ec F W e (cE T (n + 1) s e) := by
  by_cases hp : plainT e = true
  · exact t_val (c_e ih k e) (plainT_of X.env hp)
  · cases e with
    | UnaryOp op a p =>
      cases op with
      | Not =>
        simp only [cE]
        split
        · rename_i h
          exact t_not (ih.t k _ h)
        · exact t_stuck
      | _ => exact absurd rfl hp
    | BoolOp op vs p =>
      simp only [cE]
      split
      · rename_i h
        cases vs with
        | nil => exact t_stuck
        | cons v vs => exact GW.t (w_bools (by simp) fun x hx => ih.t k x (mem_all h x hx))
      · exact t_stuck
    | Compare a ops bs p =>
      cases ops with
      | nil => exact t_stuck
      | cons o1 ops =>
        cases ops with
        | nil =>
          cases bs with
          | nil => exact t_stuck
          | cons b bs =>
            cases bs with
            | cons _ _ => exact t_stuck
            | nil =>
              simp only [cE]
              split
              · rename_i h
                have h3 := t_cmp (pos := p) (ec := ec) (F := F) (W := W) k.hu (unCop o1) (ih.e k a) (ih.e k b) (marks_of h)
                rw [← unCop_of o1] at h3
                exact h3
              · exact t_stuck
        | cons o2 ops =>
          cases ops with
          | cons _ _ => 
            cases bs with
            | nil => exact t_stuck
            | cons b bs =>
              cases bs with
              | nil => exact t_stuck
              | cons c bs => exact t_stuck
          | nil =>
            cases bs with
            | nil => exact t_stuck
            | cons b bs =>
              cases bs with
              | nil => exact t_stuck
              | cons c bs =>
                cases bs with
                | cons _ _ => exact t_stuck
                | nil =>
                  simp only [cE]
                  split
                  · rename_i h
                    have h3 := t_chain (pos := p) (ec := ec) (F := F) (W := W) k.hu (unCop o1) (unCop o2) (ih.e k a) (ih.e k b) (ih.e k c) (marks_of h)
                    rw [← unCop_of o1, ← unCop_of o2] at h3
                    exact h3
                  · exact t_stuck
    | IfExp _ _ _ _ => cases ht
    | _ => exact absurd rfl hp

theorem c_i (ih : COk T ec F r n) (k : Xok T ec F W r s X) (tg it : Expr) : GI X ec F W tg it (cI T (n + 1) s it) := by
  unfold cI
  split
  · rename_i f p a pos
    split
    · rename_i h
      obtain ⟨h, h5⟩ := ands h
      obtain ⟨h, h4⟩ := ands h
      obtain ⟨h, h3⟩ := ands h
      obtain ⟨h1, h2⟩ := ands h
      obtain rfl := beq_iff_eq.mp h1
      exact i_rng1 h5 (k.gl h3) (k.bl _ h4) (ih.e k a)
    · exact i_one (ih.e k _)
  · rename_i f p a b pos
    split
    · rename_i h
      obtain ⟨h, h5⟩ := ands h
      obtain ⟨h, h4⟩ := ands h
      obtain ⟨h, h3⟩ := ands h
      obtain ⟨h1, h2⟩ := ands h
      obtain rfl := beq_iff_eq.mp h1
      exact i_rng2 h5 (k.gl h3) (k.bl _ h4) (ih.e k a) (ih.e k b)
    · exact i_one (ih.e k _)
  · exact i_one (ih.e k _)
/-- a comprehension's parts -/
theorem lc_parts (ih : COk T ec F r n) (k : Xok T ec F W r s X) {scope : Scope} (hb : blkC s.N s.sc scope (ownOf s.N scope) = true) (st : Shared) (H : Hp) (C : Addr) (cl : List (Str × Addr)) (fp : List Addr) :
    Xok T ec F W0 r (blkSc s scope) (X.blk st H scope (compEnvC scope cl C X.env) fp) := k.blk scope (blkC_kind hb) st H C cl fp
theorem c_lc (ih : COk T ec F r n) (k : Xok T ec F W r s X) (elt tg it : Expr) (ifs : List Expr) (scope : Scope) (isM : Bool) (pos : Pos) : GE X ec F W (.ListComp elt [⟨tg, it, ifs, 0⟩] scope pos) (cLc T (n + 1) s elt tg it ifs scope isM) := by
  unfold cLc
  split
  · rename_i h
    obtain ⟨hs, hb⟩ := ands h
    split
    · rename_i t ht
      split
      · rename_i hsub
        have ok : BlkOk X.N X.env.scope scope (ownOf s.N scope) := by rw [k.N, k.sc]; exact blkOk_by hb
        split
        · exact g_comp k.calm (by rw [k.N]; exact k.nd) (ih.i k tg it) ok (fun st H C cl fp => cT_ok (lc_parts ih k hb st H C cl fp) ht) (fun st H C cl fp => ifs_nil) (fun st H C cl fp => ih.e (lc_parts ih k hb st H C cl fp) elt) (folded_of X.env hs) (subB_of hsub)
        · split
          · rename_i c hc
            exact g_comp k.calm (by rw [k.N]; exact k.nd) (ih.i k tg it) ok (fun st H C cl fp => cT_ok (lc_parts ih k hb st H C cl fp) ht) (fun st H C cl fp => ifs_one (ih.t (lc_parts ih k hb st H C cl fp) c hc)) (fun st H C cl fp => ih.e (lc_parts ih k hb st H C cl fp) elt) (folded_of X.env hs) (subB_of hsub)
          · exact g_stuck
        · exact g_stuck
      · exact g_stuck
    · exact g_stuck
  · exact g_stuck
theorem c_ok : ∀ n, COk T ec F r n
  | 0 => ⟨fun _ e => by unfold cE; exact g_stuck, fun _ e _ => by unfold cE; exact t_stuck, fun _ tg it => by unfold cI; exact i_stuck, fun _ _ _ _ _ _ _ _ => by unfold cLc; exact g_stuck⟩
  | n + 1 => ⟨fun k e => c_e (c_ok n) k e, fun k e h => c_t (c_ok n) k e h, fun k tg it => c_i (c_ok n) k tg it, fun k elt tg it ifs scope isM pos => c_lc (c_ok n) k elt tg it ifs scope isM pos⟩
end
end Z

/-! Z, part I: statements, from the text. -/
namespace Z
open PySem PySem.Spec PyProof.Rows L2
def compScope : Expr → Option Scope
  | .ListComp _ _ s _ => some s
  | .SetComp _ _ s _ => some s
  | .DictComp _ _ _ s _ => some s
  | _ => none
def swB (sc : Scope) (value : Expr) (target : Option Expr) (line : Nat) : Option Bool := match compScope value with
  | none => some false
  | some scope => match target with
    | none => if value.pos.line != line then none else some true
    | some (.Name t pos) => some (sc.names.lookup t == some .local && pos.line == value.pos.line && !(scope.names.any fun (n, k) => n == t && (k == .local || k == .cell)))
    | some _ => some false
theorem swB_of {sc : Scope} {env : PySem.Env} {value : Expr} {target : Option Expr} {line : Nat} {b : Bool} (hs : env.scope = sc) (hk : sc.kind = .function) (h : swB sc value target line = some b) : swapsWith value target line env = pure b := by
  have hk2 : env.scope.kind = .function := by rw [hs]; exact hk
  have hb : env.blockKind = .function := by
    unfold Env.blockKind
    rw [hk2]
    rfl
  have key : ∀ scope, compScope value = some scope → swapsWith value target line env = (do
      match target with
      | none =>
        if env.scope.kind == .class then unsupported "comprehension:value-dropped-in-a-class-body"
        if value.pos.line != line then unsupported "comprehension:value-dropped:on-another-line"
        return true
      | some (.Name t pos) =>
        return env.blockKind == .function && env.kindOf t == some .local && pos.line == value.pos.line
          && !(scope.names.any fun (n, k) => n == t && (k == .local || k == .cell))
      | some _ => return false) := fun scope hc => by
    unfold swapsWith
    cases value <;> first | (cases hc; rfl) | cases hc
  cases hc : compScope value with
  | none =>
    unfold swB at h
    rw [hc] at h
    cases h
    unfold swapsWith
    cases value <;> first | rfl | cases hc
  | some scope =>
    rw [key scope hc]
    unfold swB at h
    rw [hc] at h
    cases target with
    | none =>
      simp only at h
      rw [hk2]
      by_cases hl : (value.pos.line != line) = true
      · rw [if_pos hl] at h; cases h
      · rw [if_neg hl] at h
        cases h
        simp only [hl]
        rfl
    | some t =>
      cases t with
      | Name t p =>
        simp only [Option.some.injEq] at h
        subst h
        simp only [hb, Env.kindOf, hs]
        rfl
      | _ =>
        simp only [Option.some.injEq] at h
        subst h
        rfl
def pairsOf (targets : List Expr) (value : Expr) : Option (List Expr × List Expr) := match targets, value with
  | [.Tuple ts _ _], .Tuple vs _ _ => some (ts, vs)
  | [.List ts _], .Tuple vs _ _ => some (ts, vs)
  | _, _ => none
def swSt (sc : Scope) (targets : List Expr) (value : Expr) : Option (Option (List Str)) := match pairsOf targets value with
  | none => some none
  | some (ts, vs) =>
    if !(ts.length == 2 || ts.length == 3) || vs.length != ts.length then some none else
    if vs.any (fun e => match e with | .Starred .. => true | _ => false) then some none else
    let line := (ts.head?.map (·.pos.line)).getD 0
    let names := ts.filterMap fun e => match e with
      | .Name id pos => if sc.names.lookup id == some .local && pos.line == line then some id else none
      | _ => none
    if names.length != ts.length || names.eraseDups.length != names.length then some none else
    if vs.all (foldedForSure 8) then some none else
    if vs.all (constantsAlone 8) then none else some (some names)
theorem swSt_of {sc : Scope} {env : PySem.Env} {targets : List Expr} {value : Expr} {o : Option (List Str)} (hs : env.scope = sc) (hk : sc.kind = .function) (h : swSt sc targets value = some o) : swappedStores targets value env = pure o := by
  have hk2 : env.scope.kind = .function := by rw [hs]; exact hk
  have hb : env.blockKind = .function := by
    unfold Env.blockKind
    rw [hk2]
    rfl
  have key : swappedStores targets value env = (match pairsOf targets value with
    | none => (pure none : Sem (Option (List Str)))
    | some (ts, vs) => do
      if !(ts.length == 2 || ts.length == 3) || vs.length != ts.length || env.blockKind != .function then return none
      if vs.any fun | .Starred .. => true | _ => false then return none
      let line := (ts.head?.map (·.pos.line)).getD 0
      let names := ts.filterMap fun
        | .Name id pos => if env.kindOf id == some .local && pos.line == line then some id else none
        | _ => none
      if names.length != ts.length || names.eraseDups.length != names.length then return none
      if vs.all (foldedForSure 8) then return none
      if vs.all (constantsAlone 8) then unsupported "assign.tuple-of-constant-expressions:order-of-the-stores"
      return some names) := by
    unfold swappedStores
    split
    · rename_i heq
      have h2 : pairsOf targets value = some (_, _) := heq
      rw [h2]
      rfl
    · rename_i heq
      cases h2 : pairsOf targets value with
      | none => rfl
      | some q => exact absurd h2 (heq q.1 q.2)
  rw [key]
  unfold swSt at h
  cases hp : pairsOf targets value with
  | none =>
    rw [hp] at h
    cases h
    rfl
  | some q =>
    obtain ⟨ts, vs⟩ := q
    rw [hp] at h
    simp only [] at h
    simp only [Env.kindOf, hs, hb]
    by_cases h1 : (!(ts.length == 2 || ts.length == 3) || vs.length != ts.length) = true
    · rw [if_pos h1] at h
      cases h
      have h1' : (!(ts.length == 2 || ts.length == 3) || vs.length != ts.length || (ScopeKind.function != ScopeKind.function)) = true := by rw [h1]; rfl
      rw [if_pos h1']
    · have h1' : ¬ (!(ts.length == 2 || ts.length == 3) || vs.length != ts.length || (ScopeKind.function != ScopeKind.function)) = true := by
        rw [Bool.not_eq_true] at h1
        rw [h1]
        decide
      rw [if_neg h1] at h
      rw [if_neg h1']
      split at h
      · cases h
        rename_i h2
        rw [if_pos h2]
      · rename_i h2
        rw [if_neg h2]
        split at h
        · cases h
          rename_i h3
          rw [if_pos h3]
        · rename_i h3
          rw [if_neg h3]
          split at h
          · cases h
            rename_i h4
            rw [if_pos h4]
          · rename_i h4
            rw [if_neg h4]
            split at h
            · cases h
            · cases h
              rename_i h5
              rw [if_neg h5]

/-! ### the compiler -/
/-- a value that will change -/
def cM (T : Tab) (n : Nat) (s : Sc) : Expr → CE
  | .List es _ => if noStars es && few (cList (cE T n s) es) then .mlst (cList (cE T n s) es) else .nil
  | .ListComp elt [⟨tg, it, ifs, 0⟩] scope _ => cLc T n s elt tg it ifs scope true
  | .Dict [] [] _ => .mdk
  | e => cE T n s e
def cV (T : Tab) (n : Nat) (s : Sc) (m : Bool) (e : Expr) : CE := if m then cM T n s e else cE T n s e
def cSs (f : Stmt → CS) : List Stmt → CS
  | [] => .skip
  | [s] => f s
  | s :: rest => .seq (f s) (cSs f rest)
def plainTg : Expr → Bool
  | .Name _ _ => true
  | .Tuple _ _ _ => true
  | _ => false
def cS (T : Tab) : Nat → Sc → Stmt → CS
  | 0, _, _ => .never
  | n + 1, s, st => match st with
    | .Pass _ => .skip
    | .Break _ => .brk
    | .Expr (.Constant (.str _) _ _) _ => .skip
    | .Expr e pos => if swB s.sc e none pos.line == some false then .expr (cE T n s e) else .never
    | .Return none _ => .ret (.con .non)
    | .Return (some (.Name x p)) _ => (match ixOf s.N x with
      | some i => if s.mv.contains i && !s.rm && okName x && visB s.sc x then .retF i else .ret (cE T n s (.Name x p))
      | none => .ret (cE T n s (.Name x p)))
    | .Return (some e) _ => .ret (cV T n s s.rm e)
    | .Assign [.Name y p] (.ListComp elt [⟨tg, it, ifs, 0⟩] scope p2) pos =>
      (match ixOf s.N y with
      | some i => (match swB s.sc (.ListComp elt [⟨tg, it, ifs, 0⟩] scope p2) (some (.Name y p)) pos.line with
        | some true => if s.sc.names.lookup y == some .local then .asg (.nm i) (cLc T n s elt tg it ifs scope (s.mv.contains i)) else .never
        | some false => if locB s y then .asg (.nm i) (cLc T n s elt tg it ifs scope (s.mv.contains i)) else .never
        | none => .never)
      | none => .never)
    | .Assign [.Tuple [.Name x px, .Name y py] kt pt] (.Tuple [a, b] k2 pt2) pos =>
      (match swSt s.sc [.Tuple [.Name x px, .Name y py] kt pt] (.Tuple [a, b] k2 pt2) with
      | some (some l) => (match ixOf s.N x, ixOf s.N y with
        | some i, some j => if l == [x, y] && i != j && s.sc.names.lookup x == some .local && s.sc.names.lookup y == some .local && noStars [a, b] then .asg (.tp (.cons (.nm i) (.cons (.nm j) .nil))) (.tup (.cons (cE T n s a) (.cons (cE T n s b) .nil))) else .never
        | _, _ => .never)
      | some none => (match cT s (.Tuple [.Name x px, .Name y py] kt pt) with
        | some t => .asg t (cE T n s (.Tuple [a, b] k2 pt2))
        | none => .never)
      | none => .never)
    | .Assign [.Subscript o i p'] e pos => if plainIx i then .set (cE T n s o) (cE T n s i) (cE T n s e) else .never
    | .Assign [tg] e pos => (match cT s tg with
      | some t => if plainTg tg && swB s.sc e (some tg) pos.line == some false && swSt s.sc [tg] e == some none then .asg t (cV T n s (isMut s t) e) else .never
      | none => .never)
    | .If c a b _ => if tstB c then .ife (cE T n s c) (cSs (cS T n s) a) (cSs (cS T n s) b) else .never
    | .While c b [] _ => if tstB c then .whl (cE T n s c) (cSs (cS T n s) b) else .never
    | .For tg it b [] _ => (match cT s tg with
      | some t => if notSet it then .fr t (cI T n s it) (cSs (cS T n s) b) else .never
      | none => .never)
    | _ => .never
/-! ### it says what the text says -/
section
variable {T : Tab} {ec : Nat → Value} {F : Fn} {W : WX} {r n : Nat} {s : Sc} {X : Cx}
theorem s_stuck {st : Stmt} : GS X ec F W st .never := ⟨fun _ _ _ _ _ _ ⟨φ, δ, S, rs, re, h⟩ => by
  unfold run at h
  exact h.elim⟩
theorem m_e (k : Xok T ec F W r s X) (e : Expr) : GE X ec F W e (cM T n s e) := by
  unfold cM
  split
  · split
    · rename_i h
      obtain ⟨h1, h2⟩ := ands h
      exact g_mlst (few_of h2) (a_list h1 fun x _ => (c_ok n).e k x)
    · exact g_stuck
  · exact (c_ok n).lc k _ _ _ _ _ _ _
  · exact g_mdk
  · exact (c_ok n).e k _
theorem v_e (k : Xok T ec F W r s X) (m : Bool) (e : Expr) : GE X ec F W e (cV T n s m e) := by
  unfold cV
  split
  · exact m_e k e
  · exact (c_ok n).e k e
theorem ss_all {f : Stmt → CS} : ∀ {sts : List Stmt}, (∀ st ∈ sts, GS X ec F W st (f st)) → GSs X ec F W sts (cSs f sts)
  | [], _ => ss_nil
  | [s], h => ss_one (h s List.mem_cons_self)
  | s :: s2 :: rest, h => ss_cons (h s List.mem_cons_self) (ss_all fun x hx => h x (List.mem_cons_of_mem _ hx))
theorem beqOpt {α : Type} [BEq α] [LawfulBEq α] {a b : α} (h : (a == b) = true) : a = b := beq_iff_eq.mp h
theorem each_plain {tg : Expr} (env : PySem.Env) (h : plainTg tg = true) : (assignEach [tg] env).map (·.2) = [assign tg env] := by
  cases tg <;> first | rfl | cases h
theorem optF {o : Option Bool} {b : Bool} (h : (o == some b) = true) : o = some b := beq_iff_eq.mp h
theorem optN {o : Option (Option (List Str))} (h : (o == some none) = true) : o = some none := by
  cases o with
  | none => cases h
  | some p =>
    cases p with
    | none => rfl
    | some l => cases h
theorem optL {o : Option NameKind} {b : NameKind} (h : (o == some b) = true) : o = some b := by
  cases o with
  | none => cases h
  | some a => cases a <;> cases b <;> first | rfl | cases h
theorem setLc_ok (k : Xok T ec F W r s X) {elt tg it : Expr} {ifs : List Expr} {scope : Scope} {isM : Bool} {p py pos : Pos} {i : Nat} {y : Str} (hy : X.N[i]? = some y) (hyl : X.env.scope.names.lookup y = some .local)
    (hsw : swapsWith (.ListComp elt [⟨tg, it, ifs, 0⟩] scope p) (some (.Name y py)) pos.line X.env = pure true) : GS X ec F W (.Assign [.Name y py] (.ListComp elt [⟨tg, it, ifs, 0⟩] scope p) pos) (.asg (.nm i) (cLc T n s elt tg it ifs scope isM)) := by
  have nd : X.N.Nodup := by rw [k.N]; exact k.nd
  have dead : GS X ec F W (.Assign [.Name y py] (.ListComp elt [⟨tg, it, ifs, 0⟩] scope p) pos) (.asg (.nm i) .nil) := ⟨fun _ _ _ _ _ _ ⟨φ, δ, S, rs, re, h⟩ => by
    unfold run ev at h
    exact h.elim⟩
  cases n with
  | zero => unfold cLc; exact dead
  | succ n =>
    have ih := c_ok (T := T) (ec := ec) (F := F) (r := r) n
    unfold cLc
    split
    · rename_i h
      obtain ⟨hs, hb⟩ := ands h
      split
      · rename_i t ht
        split
        · rename_i hsub
          have ok : BlkOk X.N X.env.scope scope (ownOf s.N scope) := by rw [k.N, k.sc]; exact blkOk_by hb
          split
          · exact s_setLc k.calm nd hy hyl hsw (ih.i k tg it) ok (fun st H C cl fp => cT_ok (lc_parts ih k hb st H C cl fp) ht) (fun st H C cl fp => ifs_nil) (fun st H C cl fp => ih.e (lc_parts ih k hb st H C cl fp) elt) (folded_of X.env hs) (subB_of hsub)
          · split
            · rename_i c hc
              exact s_setLc k.calm nd hy hyl hsw (ih.i k tg it) ok (fun st H C cl fp => cT_ok (lc_parts ih k hb st H C cl fp) ht) (fun st H C cl fp => ifs_one (ih.t (lc_parts ih k hb st H C cl fp) c hc)) (fun st H C cl fp => ih.e (lc_parts ih k hb st H C cl fp) elt) (folded_of X.env hs) (subB_of hsub)
            · exact dead
          · exact dead
        · exact dead
      · exact dead
    · exact dead
theorem cS_ok (hp : PassesOwn (model X.prog X.w) X.A X.env X.xe) (k : Xok T ec F W r s X) : ∀ (n : Nat) (st : Stmt), GS X ec F W st (cS T n s st)
  | 0, st => by unfold cS; exact s_stuck
  | n + 1, st => by
    have ih := cS_ok hp k n
    have ce := c_ok (T := T) (ec := ec) (F := F) (r := r) n
    have hks := k.kind
    have nd : X.N.Nodup := by rw [k.N]; exact k.nd
    unfold cS
    split
    · exact s_pass
    · exact s_brk
    · exact s_doc
    · split
      · rename_i h
        exact s_expr (ce.e k _) (swB_of k.sc hks (optF h))
      · exact s_stuck
    · exact s_retN
    · split
      · rename_i i hi
        split
        · rename_i h
          obtain ⟨h, h4⟩ := ands h
          obtain ⟨h, h3⟩ := ands h
          obtain ⟨hd, hcd⟩ := okName_of h3
          exact s_retF (by rw [k.N]; exact ixOf_at hi) (k.vis h4) hd hcd
        · exact s_ret (ce.e k _)
      · exact s_ret (ce.e k _)
    · exact s_ret (v_e k _ _)
    · rename_i y p elt tg it ifs scope p2 pos
      split
      · rename_i i hi
        have hy : X.N[i]? = some y := by rw [k.N]; exact ixOf_at hi
        split
        · rename_i hsw
          split
          · rename_i hl
            have hl := optL hl
            exact setLc_ok k hy (by rw [k.sc]; exact hl) (swB_of k.sc hks hsw)
          · exact s_stuck
        · rename_i hsw
          split
          · rename_i hl
            obtain ⟨l1, l2⟩ := k.loc hl
            exact s_asg (ce.lc k _ _ _ _ _ _ _) (t_nm nd hy l1 l2) (swB_of k.sc hks hsw) rfl rfl
          · exact s_stuck
        · exact s_stuck
      · exact s_stuck
    · rename_i x px y py kt pt a b k2 pt2 pos
      split
      · rename_i l hw
        split
        · rename_i i j hi hj
          split
          · rename_i h
            obtain ⟨h, h5⟩ := ands h
            obtain ⟨h, h4⟩ := ands h
            obtain ⟨h, h3⟩ := ands h
            obtain ⟨h1, h2⟩ := ands h
            have h1 : l = [x, y] := beq_iff_eq.mp h1
            subst h1
            have hij : i ≠ j := by simpa using h2
            exact s_par k.calm nd (by rw [k.N]; exact ixOf_at hi) (by rw [k.N]; exact ixOf_at hj) hij (by rw [k.sc]; exact optL h3) (by rw [k.sc]; exact optL h4)
              (g_cons (noStar_of (ands h5).1) (ce.e k a) (g_cons (noStar_of (ands (ands h5).2).1) (ce.e k b) g_nil)) (swSt_of k.sc hks hw) rfl
          · exact s_stuck
        · exact s_stuck
      · rename_i hw
        split
        · rename_i t ht
          exact s_asg (ce.e k _) (cT_ok k ht) rfl (swSt_of k.sc hks hw) rfl
        · exact s_stuck
      · exact s_stuck
    · rename_i o i p' e pos
      split
      · rename_i h
        exact s_sub k.hu (ce.e k _) (ce.e k _) (ce.e k _) (fun v => by cases i <;> first | rfl | cases h) (by cases e <;> rfl) (by cases e <;> rfl) rfl
      · exact s_stuck
    · rename_i tg e pos
      split
      · rename_i t ht
        split
        · rename_i h
          obtain ⟨h, h3⟩ := ands h
          obtain ⟨h1, h2⟩ := ands h
          exact s_asg (v_e k _ _) (cT_ok k ht) (swB_of k.sc hks (optF h2)) (swSt_of k.sc hks (optN h3)) (each_plain X.env h1)
        · exact s_stuck
      · exact s_stuck
    · split
      · rename_i h
        exact s_if (ce.t k _ h) (ss_all fun x _ => ih x) (ss_all fun x _ => ih x)
      · exact s_stuck
    · split
      · rename_i h
        exact s_while hp (ce.t k _ h) (ss_all fun x _ => ih x)
      · exact s_stuck
    · split
      · rename_i t ht
        split
        · rename_i h
          exact s_for hp k.calm (ce.i k _ _) (cT_ok k ht) (ss_all fun x _ => ih x) (folded_of X.env h)
        · exact s_stuck
      · exact s_stuck
    · exact s_stuck
end
end Z

/-! Z, part J: a call's end; the defs, level by level; a law's end. -/
namespace Z
open PySem PySem.Spec PyProof.Rows L2
/-! ### what a call leaves -/
mutual
def lowB (n : Nat) : D → Bool
  | .tup ds => lowBs n ds
  | .lst ds => lowBs n ds
  | .scr ds => lowBs n ds
  | .ref i => decide (i < n)
  | _ => true
def lowBs (n : Nat) : List D → Bool
  | [] => true
  | d :: ds => lowB n d && lowBs n ds
end
mutual
theorem low_noref {n : Nat} : ∀ {d : D}, noref d = true → lowB n d = true
  | .tup ds, h => by unfold noref at h; unfold lowB; exact lows_noref h
  | .lst ds, h => by unfold noref at h; unfold lowB; exact lows_noref h
  | .scr ds, h => by unfold noref at h; unfold lowB; exact lows_noref h
  | .ref _, h => by unfold noref at h; cases h
  | .non, _ => by unfold lowB; rfl
  | .bl _, _ => by unfold lowB; rfl
  | .int _, _ => by unfold lowB; rfl
  | .str _, _ => by unfold lowB; rfl
  | .edic, _ => by unfold lowB; rfl
  | .exc _ _, _ => by unfold lowB; rfl
theorem lows_noref {n : Nat} : ∀ {ds : List D}, norefs ds = true → lowBs n ds = true
  | [], _ => by unfold lowBs; rfl
  | d :: ds, h => by
    unfold norefs at h
    obtain ⟨h1, h2⟩ := ands h
    unfold lowBs
    rw [low_noref h1, lows_noref h2]
    rfl
end
section
variable {K : PySem.W.Frag} {φ φ1 : Phi} {H H1 : Hp} {S S' : Store} {n : Nat}
mutual
theorem low_Rv : ∀ {v : V} {d : D}, Rv K φ H v d → lowB φ.c.length d = true
  | _, _, .non => by unfold lowB; rfl
  | _, _, .bl b => by unfold lowB; rfl
  | _, _, .int i => by unfold lowB; rfl
  | _, _, .str x => by unfold lowB; rfl
  | _, _, .tup t r => by unfold lowB; exact low_Rvs r
  | _, _, .lst h f r => by unfold lowB; exact low_Rvs r
  | _, _, .scr h r => by unfold lowB; exact low_Rvs r
  | _, _, .edic h f => by unfold lowB; rfl
  | _, _, .ref h q => by unfold lowB; exact decide_eq_true (List.getElem?_eq_some_iff.mp h).1
theorem low_Rvs : ∀ {vs : List V} {ds : List D}, Rvs K φ H vs ds → lowBs φ.c.length ds = true
  | _, _, .nil => by unfold lowBs; rfl
  | _, _, .cons r rs => by unfold lowBs; rw [low_Rv r, low_Rvs rs]; rfl
end
abbrev Phi.cap (φ : Phi) (n : Nat) : Phi := ⟨φ.c.take n, φ.h⟩
theorem cap_at {i : Nat} {x : Option Addr} (h : (φ.c.take n)[i]? = some x) : φ.c[i]? = some x ∧ i < n := by
  rw [List.getElem?_take] at h
  split at h
  · exact ⟨h, by assumption⟩
  · cases h
theorem cap_up {i : Nat} {x : Option Addr} (h : φ.c[i]? = some x) (hi : i < n) : (φ.c.take n)[i]? = some x := by
  rw [List.getElem?_take, if_pos hi]
  exact h
theorem Free.cap {a : Addr} (f : Free φ a) : Free (φ.cap n) a := ⟨fun i h => f.1 i (cap_at h).1, f.2⟩
mutual
theorem Rv.cap : ∀ {v : V} {d : D}, Rv K φ H v d → lowB n d = true → Rv K (φ.cap n) H v d
  | _, _, .non, _ => .non
  | _, _, .bl b, _ => .bl b
  | _, _, .int i, _ => .int i
  | _, _, .str x, _ => .str x
  | _, _, .tup t r, h => .tup (by
      rcases t with ⟨h, f⟩ | h
      · exact .inl ⟨h, f.cap⟩
      · exact .inr h) (Rvs.cap r (by unfold lowB at h; exact h))
  | _, _, .lst q f r, h => .lst q f.cap (Rvs.cap r (by unfold lowB at h; exact h))
  | _, _, .scr t r, h => .scr (by
      rcases t with ⟨h, f⟩ | h
      · exact .inl ⟨h, f.cap⟩
      · exact .inr h) (Rvs.cap r (by unfold lowB at h; exact h))
  | _, _, .edic q f, _ => .edic q f.cap
  | _, _, .ref q p, h => .ref (cap_up q (by unfold lowB at h; exact of_decide_eq_true h)) p
theorem Rvs.cap : ∀ {vs : List V} {ds : List D}, Rvs K φ H vs ds → lowBs n ds = true → Rvs K (φ.cap n) H vs ds
  | _, _, .nil, _ => .nil
  | _, _, .cons r rs, h => by
      unfold lowBs at h
      obtain ⟨h1, h2⟩ := ands h
      exact .cons (Rv.cap r h1) (Rvs.cap rs h2)
end
def Cell.low (n : Nat) : Cell → Bool
  | .lst ds => lowBs n ds
  | .dk kvs => lowBs n (kvs.map (·.2))
  | .dt kvs => lowBs n (kvs.map (·.2))
  | .gone => true
theorem Cell.low_noref {c : Cell} (h : c.noref = true) : c.low n = true := by
  cases c with
  | lst ds => exact lows_noref h
  | dk kvs => exact lows_noref h
  | dt kvs => exact lows_noref h
  | gone => rfl
theorem Cell.low_RC {o : Option (Option Addr)} {c : Cell} (h : RC K φ H o c) : c.low φ.c.length = true := by
  cases c with
  | lst ds => obtain ⟨_, _, _, _, r⟩ := h; exact low_Rvs r
  | dk kvs => obtain ⟨_, _, _, _, _, r⟩ := h; exact low_Rvs r
  | dt kvs => obtain ⟨_, _, _, _, _, r⟩ := h; exact low_Rvs r
  | gone => rfl
theorem RC.cap {o : Option (Option Addr)} {c : Cell} (h : RC K φ H o c) (l : c.low n = true) : RC K (φ.cap n) H o c := by
  cases c with
  | lst ds => obtain ⟨a, xs, e1, e2, r⟩ := h; exact ⟨a, xs, e1, e2, r.cap l⟩
  | dk kvs => obtain ⟨a, xs, e1, e2, e3, r⟩ := h; exact ⟨a, xs, e1, e2, e3, r.cap l⟩
  | dt kvs => obtain ⟨a, xs, e1, e2, e3, r⟩ := h; exact ⟨a, xs, e1, e2, e3, r.cap l⟩
  | gone => exact h
/-- the store, cut to what stood before -/
theorem Rs.cap (r0 : Rs K φ S H) (r1 : Rs K φ1 S' H1) (k : Keep S S') : Rs K (φ1.cap S.length) (S'.take S.length) H1 := by
  refine ⟨by rw [List.length_take, List.length_take, r1.len], fun i j a h1 h2 => r1.nd i j a (cap_at h1).1 (cap_at h2).1, fun i a h => r1.tr i a (cap_at h).1, r1.ht, fun i c h => ?_⟩
  rw [List.getElem?_take] at h
  split at h
  · rename_i hi
    show RC K (φ1.cap S.length) H1 (φ1.c.take S.length)[i]? c
    rw [List.getElem?_take, if_pos hi]
    have rc := r1.cell i c h
    refine rc.cap ?_
    rcases k.2 i hi with e | ⟨c', e, nr⟩
    · rw [e] at h
      have := Cell.low_RC (r0.cell i c h)
      rw [r0.len] at this
      exact this
    · rw [e] at h
      cases h
      exact Cell.low_noref nr
  · cases h
theorem Ext.cap (r0 : Rs K φ S H) (e : Ext φ H φ1 H1) : Ext φ H (φ1.cap S.length) H1 := by
  refine .mk' ?_ (fun i o h => ?_) (fun a o f h => ⟨(e.keep a o f h).1, (e.keep a o f h).2.cap⟩) fun a o f h => e.hid a o f h
  · show φ.c.length ≤ (φ1.c.take S.length).length
    rw [List.length_take]
    have := e.len
    have := r0.len
    omega
  · have hi : i < S.length := by rw [← r0.len]; exact (List.getElem?_eq_some_iff.mp h).1
    rcases e.pre i o h with q | q
    · exact .inl (cap_up q hi)
    · exact .inr (cap_up q hi)
variable {ec : Nat → Value} {W W' : WX} {σ : St} {Q : VK}
theorem gc_ok (r0 : Rs K φ S H) {r : R D} (h : OutG (Rv K) K ec W σ φ H (gc S r) Q) : OutG (Rv K) K ec W σ φ H r Q := by
  cases r with
  | ok d S1 =>
    by_cases k : Keep S S1 ∧ noref d = true
    · simp only [gc, if_pos k] at h
      exact fun φ' v H' e rs rv => h (φ'.cap S.length) v H' (e.cap r0) (r0.cap rs k.1) (rv.cap (low_noref k.2))
    · simp only [gc, if_neg k] at h
      exact h
  | exc c a S1 =>
    by_cases k : Keep S S1 ∧ noref a = true
    · simp only [gc, if_pos k] at h
      refine fun φ' H' dd e rs xd => h (φ'.cap S.length) H' dd (e.cap r0) (r0.cap rs k.1) ?_
      unfold Xd at xd ⊢
      cases a with
      | non => exact xd
      | _ =>
        obtain ⟨p, v, e1, e2, e3⟩ := xd
        exact ⟨p, v, e1, e2, e3.cap (low_noref k.2)⟩
    · simp only [gc, if_neg k] at h
      exact h
  | stuck => exact h
/-- from a call's promise to its body's -/
theorem out_body {E : XK} {r : SR} (h : OutG (Rv K) K ec (fun cls d _ H' => E cls d H') [] φ H r.out Q) : OutS K ec (fun cls d _ H' => E cls d H') { nx := fun _ H' => Q .non H', rt := Q } φ H r := by
  cases r with
  | nx δ S1 => exact fun φ' σ' H' e rs re => h φ' .non H' e rs .non
  | rt d S1 => exact fun φ' v H' e rs rv => h φ' v H' e rs rv
  | bk δ S1 => exact h.elim
  | xc c a δ S1 => exact fun φ' σ' H' dd e rs re xd => h φ' H' dd e rs xd
  | stuck => exact h.elim
end
/-! ### the defs -/
structure DefI where
  name : Str
  st : Stmt
  ps : List Str
  N : List Str
  mv : List Nat
  rm : Bool
def DefI.sc (d : DefI) : Sc := ⟨d.N, defScope d.st, fun _ => true, d.mv, d.rm⟩
def DefI.cf (T : Tab) (fuel : Nat) (d : DefI) : CF := ⟨d.ps.length, d.N.length, cSs (cS T fuel d.sc) (defBody d.st)⟩
def plainArgs (a : Arguments) (ps : List Str) : Bool := a.posonlyargs.isEmpty && a.vararg.isNone && a.kwonlyargs.isEmpty && a.kw_defaults.isEmpty && a.kwarg.isNone && a.defaults.isEmpty && (a.args.map (·.arg) == ps) && decide (ps.length ≤ 8)
def nodupB (l : List Str) : Bool := match l with
  | [] => true
  | x :: xs => !(xs.any fun y => y == x) && nodupB xs
theorem nodupB_of : ∀ {l : List Str}, nodupB l = true → l.Nodup
  | [], _ => List.nodup_nil
  | x :: xs, h => by
    unfold nodupB at h
    obtain ⟨h1, h2⟩ := ands h
    refine List.nodup_cons.mpr ⟨fun hx => ?_, nodupB_of h2⟩
    have : (xs.any fun y => y == x) = true := List.any_eq_true.mpr ⟨x, hx, beq_self_eq_true x⟩
    rw [this] at h1
    cases h1
def kindB (a b : NameKind) : Bool := a == b
def scopeB (N ps : List Str) (sc : Scope) : Bool := (sc.kind == .function) && (!sc.isCoroutine && (!sc.isGenerator && (nodupB N && ((N.take ps.length == ps) && ((ps.all fun x => (sc.names.lookup x == some .local) || (sc.names.lookup x == some .cell)) && sc.names.all fun y => !(y.2 == .free))))))
theorem kind_eq {a b : ScopeKind} (h : (a == b) = true) : a = b := by cases a <;> cases b <;> first | rfl | cases h
theorem nkind_eq {a b : NameKind} (h : (a == b) = true) : a = b := by cases a <;> cases b <;> first | rfl | cases h
theorem scopeB_of {N ps : List Str} {sc : Scope} (h : scopeB N ps sc = true) : FnScope N ps sc := by
  unfold scopeB at h
  obtain ⟨h1, h⟩ := ands h
  obtain ⟨h2, h⟩ := ands h
  obtain ⟨h3, h⟩ := ands h
  obtain ⟨h4, h⟩ := ands h
  obtain ⟨h5, h⟩ := ands h
  obtain ⟨h6, h7⟩ := ands h
  refine ⟨kind_eq h1, by simpa using h2, by simpa using h3, nodupB_of h4, beq_iff_eq.mp h5, fun x hx => ?_, fun y hy e => ?_⟩
  · have := List.all_eq_true.mp h6 x hx
    rcases Bool.or_eq_true_iff.mp this with q | q
    · exact .inl (optL q)
    · exact .inr (optL q)
  · have := List.all_eq_true.mp h7 y hy
    rw [e] at this
    cases this
def DefI.chk (d : DefI) : Bool := scopeB d.N d.ps (defScope d.st) && plainArgs (defArgs d.st) d.ps

theorem fmap_congr {α β : Type} {f g : α → Option β} : ∀ {l : List α}, (∀ x ∈ l, f x = g x) → l.filterMap f = l.filterMap g
  | [], _ => rfl
  | x :: xs, h => by
    rw [List.filterMap_cons, List.filterMap_cons, h x List.mem_cons_self, fmap_congr (l := xs) fun y hy => h y (List.mem_cons_of_mem _ hy)]
theorem zip_look {α β : Type} [BEq α] [LawfulBEq α] : ∀ {ps : List α} {us : List β} {n : α}, us.length = ps.length → n ∈ ps → ((ps.zip us).lookup n).isSome = true
  | [], _, _, _, h => by cases h
  | _ :: _, [], _, hl, _ => by simp at hl
  | p :: ps, u :: us, n, hl, h => by
    rw [List.zip_cons_cons, List.lookup_cons]
    by_cases e : (n == p) = true
    · rw [e]; rfl
    · have e' : (n == p) = false := by simpa using e
      rw [e']
      refine zip_look (by simpa using hl) ?_
      rcases List.mem_cons.mp h with z | z
      · subst z; rw [beq_self_eq_true] at e'; cases e'
      · exact z
theorem zip_none {α β : Type} [BEq α] [LawfulBEq α] {ps : List α} {us : List β} (hl : us.length = ps.length) : (ps.filter fun n => ((ps.zip us).lookup n).isNone) = [] := by
  rw [List.filter_eq_nil_iff]
  intro a ha h
  have := zip_look hl ha
  cases e : (ps.zip us).lookup a with
  | none => rw [e] at this; cases this
  | some _ => rw [e] at h; cases h
theorem zip_some {α β : Type} [BEq α] [LawfulBEq α] : ∀ {ps : List α} {us : List β}, us.length = ps.length → ps.Nodup → ps.filterMap (fun n => ((ps.zip us).lookup n).map fun x => (n, x)) = ps.zip us
  | [], _, _, _ => rfl
  | _ :: _, [], hl, _ => by simp at hl
  | p :: ps, u :: us, hl, nd => by
    obtain ⟨n1, n2⟩ := List.nodup_cons.mp nd
    have ih := zip_some (ps := ps) (us := us) (by simpa using hl) n2
    rw [List.zip_cons_cons, List.filterMap_cons, List.lookup_cons, beq_self_eq_true]
    show (p, u) :: List.filterMap _ ps = _
    rw [List.cons.injEq]
    refine ⟨rfl, Eq.trans ?_ ih⟩
    have : ∀ n ∈ ps, (List.lookup n ((p, u) :: ps.zip us)).map (fun x => (n, x)) = ((ps.zip us).lookup n).map fun x => (n, x) := fun n hn => by
      rw [List.lookup_cons]
      by_cases e : (n == p) = true
      · have := beq_iff_eq.mp e; subst this; exact absurd hn n1
      · have e' : (n == p) = false := by simpa using e
        rw [e']
    exact (fmap_congr this)
theorem args_bind {a : Arguments} {ps : List Str} (h : plainArgs a ps = true) (nd : ps.Nodup) {x qual : Str} {body : List Stmt} {scope : Scope} (kV doc pm : Value) (an : Option Addr) (cdv ct : Value) (us : List Value) (hl : us.length = ps.length) :
    bindArgs (PySem.W.fnOf x qual a body scope .none kV doc pm an cdv ct) ⟨us, []⟩ = pure (ps.zip us) := by
  unfold plainArgs at h
  obtain ⟨h, h8⟩ := ands h
  obtain ⟨h, h7⟩ := ands h
  obtain ⟨h, h6⟩ := ands h
  obtain ⟨h, h5⟩ := ands h
  obtain ⟨h, h4⟩ := ands h
  obtain ⟨h, h3⟩ := ands h
  obtain ⟨h1, h2⟩ := ands h
  have h7 : a.args.map (·.arg) = ps := beq_iff_eq.mp h7
  obtain ⟨po, as, va, ko, kd, ka, df⟩ := a
  clear h h8
  cases po with
  | cons _ _ => cases h1
  | nil =>
  cases va with
  | some _ => cases h2
  | none =>
  cases ko with
  | cons _ _ => cases h3
  | nil =>
  cases kd with
  | cons _ _ => cases h4
  | nil =>
  cases ka with
  | some _ => cases h5
  | none =>
  cases df with
  | cons _ _ => cases h6
  | nil =>
  have h7 : as.map (·.arg) = ps := h7
  unfold bindArgs PySem.W.fnOf
  have sn : seqItems? Value.none = pure none := rfl
  simp only [h7, List.map_nil, List.nil_append, List.forIn_nil, pure_bind, sn, Option.getD_none, List.length_nil, hl, gt_iff_lt, Nat.lt_irrefl, List.drop_nil, Nat.zero_sub, Nat.sub_zero, List.take_length, zip_none hl, List.isEmpty_nil, Bool.not_true, List.zip_nil_right, List.append_nil, zip_some hl nd, decide_false, Bool.false_and, Bool.false_eq_true, if_false, List.drop_length, List.zip_nil_left]
/-! ### level by level -/
structure Bench (T : Tab) (defs : List DefI) (K : PySem.W.Frag) (mg : Str → Option Value) : Prop where
  chk : ∀ (i : Nat) (d : DefI), defs[i]? = some d → d.chk = true
  glo : ∀ (i : Nat) (d : DefI), defs[i]? = some d → mg d.name = some (.ref (He.ga K d.name)) ∧ ∃ fd, FunD K d.name d.name (defArgs d.st) (defBody d.st) (defScope d.st) [] [] (He.ga K d.name) fd
  bl : ∀ x, T.bl.contains x = true → mg x = none
  fns : ∀ x i, T.fns.lookup x = some i → ∃ d, defs[i]? = some d ∧ d.name = x
  cons : ∀ x d, T.cons.lookup x = some d → ∃ u v, mg x = some u ∧ RelV v u ∧ ∀ φ H, Rv K φ H v d
def prog (T : Tab) (fuel : Nat) (defs : List DefI) (i : Nat) : Option CF := (defs[i]?).map (·.cf T fuel)
section
variable {T : Tab} {fuel : Nat} {defs : List DefI} {P : Program} {w : World} {K : PySem.W.Frag} {mg : Str → Option Value} {base : Heap} {ec : Nat → Value}
theorem re_start {φ : Phi} {H : Hp} {vs : List V} {ds : List D} {N : List Str} (r : Rvs K φ H vs ds) (hn : ds.length ≤ N.length) : RE K φ H (ds.map some ++ List.replicate (N.length - ds.length) none) (L2.start N vs) := by
  have hl := r.len
  unfold L2.start
  refine ⟨by simp [hl], fun i d h => ?_⟩
  by_cases hi : i < ds.length
  · rw [List.getElem?_append_left (by simpa using hi)] at h
    rw [List.getElem?_append_left (by rw [List.length_map, hl]; exact hi)]
    rw [List.getElem?_map] at h ⊢
    cases e : ds[i]? with
    | none => rw [e] at h; cases h
    | some d' =>
      rw [e] at h
      cases h
      obtain ⟨v, h1, h2⟩ := r.get e
      exact ⟨v, by rw [h1]; rfl, h2⟩
  · rw [List.getElem?_append_right (by simpa using hi)] at h
    rw [List.getElem?_replicate] at h
    split at h <;> cases h
theorem lvl (B : Bench T defs K mg) : ∀ (n i : Nat) (d : DefI) (fd : FuncData), defs[i]? = some d → FunD K d.name d.name (defArgs d.st) (defBody d.st) (defScope d.st) [] [] (He.ga K d.name) fd →
    FnOk P w K mg base (L2N.CX P w) n (He.ga K d.name) fd d.ps (spF K ec (evF (prog T fuel defs) n) i)
  | 0, i, d, fd, hd, F => ⟨fun vs H Q E ⟨φ, S, ds, rs, r, h⟩ => by unfold evF at h; exact h.elim, fun A outer s H args us vs Q E hr e0 hb rv ⟨φ, S, ds, rs, r, h⟩ => by unfold evF at h; exact h.elim⟩
  | n + 1, i, d, fd, hd, F => by
    have ck := B.chk i d hd
    unfold DefI.chk at ck
    obtain ⟨c1, c2⟩ := ands ck
    have sco := scopeB_of c1
    have hp : prog T fuel defs i = some (d.cf T fuel) := by unfold prog; rw [hd]; rfl
    have key : ∀ {vs : List V} {H : Hp} {Q : VK} {E : XK}, spF K ec (evF (prog T fuel defs) (n + 1)) i vs H Q E → ∃ φ S ds, Rs K φ S H ∧ Rvs K φ H vs ds ∧ ds.length = d.ps.length ∧ ds.length ≤ d.N.length ∧
        OutG (Rv K) K ec (fun cls d _ H' => E cls d H') [] φ H (run (evF (prog T fuel defs) n) (cSs (cS T fuel d.sc) (defBody d.st)) (ds.map some ++ List.replicate (d.N.length - ds.length) none) S).out Q := fun {vs H Q E} ⟨φ, S, ds, rs, r, h⟩ => by
      simp only [evF, hp] at h
      by_cases hc : ds.length = (d.cf T fuel).np ∧ (d.cf T fuel).np ≤ (d.cf T fuel).ns
      · rw [if_pos hc] at h
        refine ⟨φ, S, ds, rs, r, hc.1, by rw [hc.1]; exact hc.2, ?_⟩
        have h2 := gc_ok rs h
        have e : d.N.length - ds.length = (d.cf T fuel).ns - (d.cf T fuel).np := by rw [hc.1]; rfl
        rw [e]
        exact h2
      · rw [if_neg hc] at h
        exact h.elim
    refine F.ok sco (fun vs H Q E h => ?_) (fun cdv A outer s H vs Q E hr h => ?_)
    · obtain ⟨φ, S, ds, rs, r, hl, _⟩ := key h
      rw [r.len, hl]
    · obtain ⟨φ, S, ds, rs, r, hl, hn, h⟩ := key h
      have tk : L2N.Takes (cxOf (L2N.CX P w) P w K mg base d.N d.name (defScope d.st) (He.ga K d.name) cdv A outer s H E) (fun cls d _ H => E cls d H) := L2N.takes_of rfl rfl rfl rfl
      have k : Xok T ec (evF (prog T fuel defs) n) (fun cls d _ H => E cls d H) n d.sc (cxOf (L2N.CX P w) P w K mg base d.N d.name (defScope d.st) (He.ga K d.name) cdv A outer s H E) := {
        N := rfl
        nd := sco.nd
        sc := rfl
        kind := sco.kind
        fn := rfl
        calm := rfl
        hu := by exact Nat.lt_of_le_of_lt (Nat.add_le_add (Nat.le_add_right _ _) (by decide : 65 ≤ 200)) hr.un
        room := hr
        tk := tk
        bl := B.bl
        fns := fun x j hj => by
          obtain ⟨d', hd', rfl⟩ := B.fns x j hj
          obtain ⟨hm, fd', F'⟩ := B.glo j d' hd'
          have ck' := B.chk j d' hd'
          unfold DefI.chk at ck'
          obtain ⟨c1', c2'⟩ := ands ck'
          have sco' := scopeB_of c1'
          have nd' : d'.ps.Nodup := by
            rw [← sco'.pre]
            exact sco'.nd.sublist (List.take_sublist _ _)
          exact ⟨_, fd', d'.ps, hm, F'.kp, F'.bindsN fun kV doc pm an cdv ct us hl => args_bind c2' nd' kV doc pm an cdv ct us hl, lvl B n j d' fd' hd' F'⟩
        cons := B.cons }
      have hp : PassesOwn (model P w) (cxOf (L2N.CX P w) P w K mg base d.N d.name (defScope d.st) (He.ga K d.name) cdv A outer s H E).A (cxOf (L2N.CX P w) P w K mg base d.N d.name (defScope d.st) (He.ga K d.name) cdv A outer s H E).env (cxOf (L2N.CX P w) P w K mg base d.N d.name (defScope d.st) (He.ga K d.name) cdv A outer s H E).xe := L2.passes_of (X := cxOf (L2N.CX P w) P w K mg base d.N d.name (defScope d.st) (He.ga K d.name) cdv A outer s H E) rfl
      exact ⟨_, ss_all fun st _ => cS_ok hp k fuel st, φ, _, S, rs, re_start r hn, out_body h⟩
end
end Z

/-! Z, part K: the module's constants; the head's Hook; a law's end. -/
namespace Z
open PySem PySem.Spec PyProof.Rows L2
mutual
def kD (K : PySem.W.Frag) : D → Value → Bool
  | .non, .none => true
  | .bl a, .bool b => a == b
  | .int i, .int j _ => decide (i = j)
  | .str x, .str y _ => decide (x = y)
  | .tup ds, .ref a => (match K.lookup a with
    | some ⟨.type c, _, .seq its _, _⟩ => decide (c = "tuple") && (decide (its.size ≤ sizeLine) && kDs K ds its.toList)
    | _ => false)
  | .scr ds, .ref a => (match K.lookup a with
    | some ⟨.type c, none, .seq its _, _⟩ => decide (c = "list") && (decide (its.size ≤ sizeLine) && kDs K ds its.toList)
    | _ => false)
  | _, _ => false
def kDs (K : PySem.W.Frag) : List D → List Value → Bool
  | [], [] => true
  | d :: ds, u :: us => kD K d u && kDs K ds us
  | _, _ => false
end
mutual
theorem kD_ok {K : PySem.W.Frag} : ∀ {d : D} {u : Value}, kD K d u = true → ∃ v, RelV v u ∧ ∀ φ H, Rv K φ H v d
  | .non, u, h => by
    cases u with
    | none => exact ⟨.non, rfl, fun _ _ => .non⟩
    | _ => unfold kD at h; cases h
  | .bl a, u, h => by
    cases u with
    | bool b =>
      unfold kD at h
      have e : a = b := eq_of_beq h
      subst e
      exact ⟨.bl a, rfl, fun _ _ => .bl a⟩
    | _ => unfold kD at h; cases h
  | .int i, u, h => by
    cases u with
    | int j t =>
      unfold kD at h
      have e : i = j := of_decide_eq_true h
      subst e
      exact ⟨.int i, ⟨t, rfl⟩, fun _ _ => .int i⟩
    | _ => unfold kD at h; cases h
  | .str i, u, h => by
    cases u with
    | str j t =>
      unfold kD at h
      have e : i = j := of_decide_eq_true h
      subst e
      exact ⟨.str i, ⟨t, rfl⟩, fun _ _ => .str i⟩
    | _ => unfold kD at h; cases h
  | .tup ds, u, h => by
    cases u with
    | ref a =>
      unfold kD at h
      cases q : K.lookup a with
      | none => rw [q] at h; cases h
      | some o =>
        obtain ⟨oc, od, dt, osl⟩ := o
        rw [q] at h
        cases oc with
        | type c =>
          cases dt with
          | seq its n =>
            obtain ⟨h1, h2⟩ := ands (show (decide (c = "tuple") && (decide (its.size ≤ sizeLine) && kDs K ds its.toList)) = true from h)
            obtain ⟨h3, h4⟩ := ands h2
            obtain ⟨vs, r1, r2⟩ := kDs_ok h4
            exact ⟨.ref a, rfl, fun φ H => .tup (.inr ⟨_, its, n, q, congrArg Value.type (of_decide_eq_true h1), rfl, of_decide_eq_true h3, r1⟩) (r2 φ H)⟩
          | _ => cases h
        | _ => cases dt <;> cases h
    | _ => unfold kD at h; cases h
  | .scr ds, u, h => by
    cases u with
    | ref a =>
      unfold kD at h
      cases q : K.lookup a with
      | none => rw [q] at h; cases h
      | some o =>
        obtain ⟨oc, od, dt, osl⟩ := o
        rw [q] at h
        cases oc with
        | type c =>
          cases od with
          | none =>
            cases dt with
            | seq its n =>
              obtain ⟨h1, h2⟩ := ands (show (decide (c = "list") && (decide (its.size ≤ sizeLine) && kDs K ds its.toList)) = true from h)
              obtain ⟨h3, h4⟩ := ands h2
              obtain ⟨vs, r1, r2⟩ := kDs_ok h4
              exact ⟨.ref a, rfl, fun φ H => .scr (.inr ⟨_, its, n, q, congrArg Value.type (of_decide_eq_true h1), rfl, rfl, of_decide_eq_true h3, r1⟩) (r2 φ H)⟩
            | _ => cases h
          | some _ => cases dt <;> cases h
        | _ => cases od <;> cases dt <;> cases h
    | _ => unfold kD at h; cases h
  | .lst _, u, h => by cases u <;> (unfold kD at h; cases h)
  | .edic, u, h => by cases u <;> (unfold kD at h; cases h)
  | .ref _, u, h => by cases u <;> (unfold kD at h; cases h)
  | .exc _ _, u, h => by cases u <;> (unfold kD at h; cases h)
theorem kDs_ok {K : PySem.W.Frag} : ∀ {ds : List D} {us : List Value}, kDs K ds us = true → ∃ vs, Vals vs us ∧ ∀ φ H, Rvs K φ H vs ds
  | [], [], _ => ⟨[], .nil, fun _ _ => .nil⟩
  | d :: ds, u :: us, h => by
    unfold kDs at h
    obtain ⟨h1, h2⟩ := ands h
    obtain ⟨v, r1, r2⟩ := kD_ok h1
    obtain ⟨vs, r3, r4⟩ := kDs_ok h2
    exact ⟨v :: vs, .cons r1 r3, fun φ H => .cons (r2 φ H) (r4 φ H)⟩
  | [], _ :: _, h => by unfold kDs at h; cases h
  | _ :: _, [], h => by unfold kDs at h; cases h
end
def conB (K : PySem.W.Frag) (q : Str × D) : Bool := match PySem.W.nsIn K mainGlobals q.1 with
  | some (some u) => kD K q.2 u
  | _ => false
theorem conB_ok {K : PySem.W.Frag} {h : Heap} {mg : Str → Option Value} (X : K.In h) (G : h.Ns mainGlobals mg) {q : Str × D} (c : conB K q = true) : ∃ u v, mg q.1 = some u ∧ RelV v u ∧ ∀ φ H, Rv K φ H v q.2 := by
  unfold conB at c
  cases e : PySem.W.nsIn K mainGlobals q.1 with
  | none => rw [e] at c; cases c
  | some o =>
    rw [e] at c
    cases o with
    | none => cases c
    | some u =>
      obtain ⟨v, r1, r2⟩ := kD_ok c
      exact ⟨u, v, PySem.W.mg_of X G e, r1, r2⟩

/-! ### the head -/
def mkD (d : DefI) : He.DefD := ⟨(d.name, none), d.name, d.name, defArgs d.st, defBody d.st, defScope d.st, [], []⟩
/-- what a law's text holds -/
structure Lw where
  defs : List DefI
  bl : List Str
  cons : List (Str × D)
  fuel : Nat
def Lw.tab (L : Lw) : Tab := ⟨(L.defs.map (·.name)).zipIdx, L.cons, L.bl, []⟩
def Lw.fa (L : Lw) : List He.Fa := L.defs.map (fun d => .glo d.name) ++ L.bl.map .free
def Lw.fn (L : Lw) : List He.DefD := L.defs.map mkD
def Lw.prog (L : Lw) : Nat → Option CF := Z.prog L.tab L.fuel L.defs
abbrev ObZ : Type := Bool × He.AlD
def obsZ (L : Lw) (K : PySem.W.Frag) : ObZ := (L.cons.all (conB K), He.obsD L.fa L.fn K)
def valZ (L : Lw) : ObZ := (true, He.valD L.fn)
def SaysZ (L : Lw) (K : PySem.W.Frag) : Prop := obsZ L K = valZ L
def obsZG (n : Nat) (L : Lw) (g : Addr → Option Obj) : ObZ := obsZ L (He.frG g (He.asD g n))
def hookZ (n : Nat) (L : Lw) : PySem.W.Hook where
  α := ObZ
  obs := fun s => obsZG n L s.heap.get?
  val := fun _ => valZ L
  says := fun _ h => ∃ K : PySem.W.Frag, K.In h ∧ SaysZ L K
  of := fun _ _ e => ⟨_, He.frG_in, e⟩
  keeps := fun _ _ _ ⟨K, hK, c⟩ k => ⟨K, PySem.W.Frag.In.keeps hK k, c⟩
theorem obsZG_eq {n : Nat} {L : Lw} {g : Addr → Option Obj} {s : Shared} (h : ∀ a, g a = s.heap.get? a) : obsZG n L g = (hookZ n L).obs s := by
  have e : g = s.heap.get? := funext h
  rw [e] <;> rfl
def Lw.chk (L : Lw) : Bool := L.defs.all DefI.chk
theorem fact_mem {fa : List He.Fa} {fn : List He.DefD} {K : PySem.W.Frag} (c : He.SaysD fa fn K) {f : He.Fa} (h : f ∈ fa) : f.ok K = true := by
  obtain ⟨i, hi⟩ := List.mem_iff_getElem?.mp h
  exact c.fact i hi
theorem look_zip {x : Str} {i : Nat} : ∀ {l : List Str} {k : Nat}, (l.zipIdx k).lookup x = some i → k ≤ i ∧ l[i - k]? = some x
  | [], _, h => by cases h
  | y :: l, k, h => by
    rw [List.zipIdx_cons, List.lookup_cons] at h
    by_cases e : (x == y) = true
    · rw [e] at h
      have h : some k = some i := h
      cases h
      rw [beq_iff_eq.mp e]
      exact ⟨Nat.le_refl _, by simp⟩
    · have e' : (x == y) = false := by simpa using e
      rw [e'] at h
      obtain ⟨h1, h2⟩ := look_zip h
      refine ⟨by omega, ?_⟩
      have : i - k = (i - (k + 1)) + 1 := by omega
      rw [this, List.getElem?_cons_succ]
      exact h2
theorem bench_of {L : Lw} {K : PySem.W.Frag} {h : Heap} {mg : Str → Option Value} (X : K.In h) (G : h.Ns mainGlobals mg) (c : SaysZ L K) (ck : L.chk = true) : Bench L.tab L.defs K mg := by
  have c1 : L.cons.all (conB K) = true := congrArg (fun z : ObZ => z.1) c
  have c2 : He.SaysD L.fa L.fn K := congrArg (fun z : ObZ => z.2) c
  refine ⟨fun i d hd => List.all_eq_true.mp ck d (List.mem_of_getElem? hd), fun i d hd => ⟨?_, ?_⟩, fun x hx => ?_, fun x i hi => ?_, fun x d hd => ?_⟩
  · exact He.glo_ok X G (fact_mem c2 (List.mem_append_left _ (List.mem_map.mpr ⟨d, List.mem_of_getElem? hd, rfl⟩)))
  · exact c2.def_ i (d := mkD d) (by unfold Lw.fn; rw [List.getElem?_map, hd]; rfl)
  · have hx : x ∈ L.bl := by
      have : L.bl.contains x = true := hx
      simpa using this
    exact He.free_ok X G (fact_mem c2 (List.mem_append_right _ (List.mem_map.mpr ⟨x, hx, rfl⟩)))
  · obtain ⟨_, h2⟩ := look_zip (show ((L.defs.map (·.name)).zipIdx 0).lookup x = some i from hi)
    rw [Nat.sub_zero, List.getElem?_map] at h2
    cases e : L.defs[i]? with
    | none => rw [e] at h2; cases h2
    | some d => rw [e] at h2; exact ⟨d, rfl, Option.some.inj h2⟩
  · have := List.all_eq_true.mp c1 (x, d) (PySem.mem_of_lookup hd)
    exact conB_ok X G this
/-- the script -/
theorem scr_of {K : PySem.W.Frag} {H : Hp} {a : Addr} {ns : List Int} (hO : Only H) (hS : SqL K H a (ns.map V.int)) : Rv K ⟨[], []⟩ H (.ref a) (.scr (ns.map D.int)) := by
  have hint : ∀ ns : List Int, Rvs K ⟨[], []⟩ H (ns.map V.int) (ns.map D.int) := fun ns => by
    induction ns with
    | nil => exact .nil
    | cons n ns ih => exact .cons (.int n) ih
  have fr : Free ⟨[], []⟩ a := ⟨fun i h => by simp at h, fun h => by cases h⟩
  refine .scr ?_ (hint ns)
  rcases hS with (h | ⟨o, h⟩) | h
  · rcases hO a with q | ⟨o, xs, q⟩
    · rw [q] at h; cases h
    · rw [q] at h; cases h
  · exact .inl ⟨⟨o, h⟩, fr⟩
  · exact .inr h
theorem rs_nil {K : PySem.W.Frag} {H : Hp} : Rs K ⟨[], []⟩ [] H := ⟨rfl, fun i j a h => by simp at h, fun i a h => by simp at h, fun a h => (by cases h), fun i c h => by simp at h⟩
/-- what the law is to answer -/
def Lw.Good (L : Lw) (k n i : Nat) : Prop := ∀ ns : List Int, ns.length ≤ n → ∃ S, evF L.prog k i [.scr (ns.map D.int)] [] = .ok (.bl true) S
theorem law_facts {L : Lw} {P : Program} {w : World} {K : PySem.W.Frag} {h : Heap} {mg : Str → Option Value} {f : Addr} {n k i : Nat} {d : DefI} {x : Str} (X : K.In h) (G : h.Ns mainGlobals mg) (c : SaysZ L K) (ck : L.chk = true) (hd : L.defs[i]? = some d)
    (hps : d.ps = [x]) (hfa : mg d.name = some (.ref f)) (good : L.Good k n i) :
    ∃ (fd : FuncData) (sp : Sp), (∀ (s : Shared) (u : Value), BindsTo s fd ⟨[u], []⟩ [(x, u)]) ∧
        (∀ (H : Hp) (a : Addr) (ns : List Int), ns.length ≤ n → Only H → SqL K H a (ns.map V.int) → sp [.ref a] H (fun v _ => v = .bl true) fun _ _ _ => False) ∧
        ∀ base : Heap, K.In base → base.Ns mainGlobals mg → FnOk P w K mg base (L2N.CX P w) k f fd [x] sp := by
  have B := bench_of X G c ck
  obtain ⟨hm, fd, F⟩ := B.glo i d hd
  have e := hfa.symm.trans hm
  cases e
  have ck' := B.chk i d hd
  unfold DefI.chk at ck'
  obtain ⟨c1, c2⟩ := ands ck'
  have sco := scopeB_of c1
  have nd : d.ps.Nodup := by
    rw [← sco.pre]
    exact sco.nd.sublist (List.take_sublist _ _)
  refine ⟨fd, spF K (fun _ => .none) (evF L.prog k) i, fun s u => ?_, fun H a ns hl hO hS => ?_, fun base _ _ => ?_⟩
  · have b := FunD.bindsA (ps := d.ps) F (fun kV doc pm an cdv ct us hl => args_bind c2 nd kV doc pm an cdv ct us hl) s [u] (by rw [hps]; rfl)
    rw [hps] at b
    exact b
  · obtain ⟨S, hS'⟩ := good ns hl
    refine ⟨⟨[], []⟩, [], [.scr (ns.map D.int)], rs_nil, .cons (scr_of hO hS) .nil, ?_⟩
    rw [hS']
    exact fun φ' v H' e rs rv => by cases rv; rfl
  · have := lvl (fuel := L.fuel) (P := P) (w := w) (base := base) (ec := fun _ => .none) B k i d fd hd F
    rw [hps] at this
    exact this
theorem cx_none {P : Program} {w : World} {H : Hp} {s : Shared} {e : Value} {s' : Shared} : L2N.CX P w [] H s (fun _ _ _ => False) e s' → False := fun h => by
  obtain ⟨_, _, _, _, _, _, _, _, _, _, _, _, z⟩ := h
  exact z
end Z

/-! Z, part M: runs of small things. -/
namespace Z
open PySem
section
variable {P : Nat → Option CF} {n : Nat} {F : Fn} {S S' : Store} {δ : Env} {a b c e es : CE}
@[simp] theorem ev_var {i : Nat} : ev F (.var i) δ S = match δ[i]? with
    | some (some d) => .ok d S
    | _ => .stuck := by rw [ev] <;> rfl
@[simp] theorem ev_con' {d : D} : ev F (.con d) δ S = .ok d S := ev_con d δ S
@[simp] theorem ev_edic : ev F .edic δ S = .ok .edic S := by rw [ev]
@[simp] theorem ev_tup : ev F (.tup es) δ S = (evs F es δ S).bind fun ds S1 => .ok (.tup ds) S1 := by rw [ev]
@[simp] theorem ev_lst : ev F (.lst es) δ S = (evs F es δ S).bind fun ds S1 => .ok (.lst ds) S1 := by rw [ev]
@[simp] theorem ev_mlst : ev F (.mlst es) δ S = (evs F es δ S).bind fun ds S1 => .ok (.ref S1.length) (S1 ++ [.lst ds]) := by rw [ev]
@[simp] theorem ev_mdk : ev F .mdk δ S = .ok (.ref S.length) (S ++ [.dk []]) := by rw [ev]
@[simp] theorem ev_bin {op} : ev F (.bin op a b) δ S = (ev F a δ S).bind fun x S1 => (ev F b δ S1).bind fun y S2 => .opt (binEv op x y S2) S2 := by rw [ev]
@[simp] theorem ev_neg : ev F (.neg a) δ S = (ev F a δ S).bind fun x S1 => match x with
    | .int i => .ok (.int (-i)) S1
    | _ => .stuck := by rw [ev] <;> rfl
@[simp] theorem ev_cmp {op} : ev F (.cmp op a b) δ S = (ev F a δ S).bind fun x S1 => (ev F b δ S1).bind fun y S2 => .opt (cmpEv op x y S2) S2 := by rw [ev]
@[simp] theorem ev_chain {o1 o2} : ev F (.chain o1 o2 a b c) δ S = (ev F a δ S).bind fun x S1 => (ev F b δ S1).bind fun y S2 => match cmpB o1 x y S2 with
    | some true => (ev F c δ S2).bind fun z S4 => .opt (cmpEv o2 y z S4) S4
    | some false => .ok (.bl false) S2
    | none => .stuck := by rw [ev] <;> rfl
@[simp] theorem ev_not : ev F (.not a) δ S = (ev F a δ S).bind fun x S1 => match x with
    | .bl b => .ok (.bl (!b)) S1
    | _ => .stuck := by rw [ev] <;> rfl
@[simp] theorem ev_and : ev F (.and a b) δ S = (ev F a δ S).bind fun x S1 => match x with
    | .bl true => ev F b δ S1
    | .bl false => .ok (.bl false) S1
    | _ => .stuck := by rw [ev] <;> rfl
@[simp] theorem ev_or : ev F (.or a b) δ S = (ev F a δ S).bind fun x S1 => match x with
    | .bl true => .ok (.bl true) S1
    | .bl false => ev F b δ S1
    | _ => .stuck := by rw [ev] <;> rfl
@[simp] theorem ev_ife : ev F (.ife c a b) δ S = (ev F c δ S).bind fun x S1 => match x with
    | .bl true => ev F a δ S1
    | .bl false => ev F b δ S1
    | _ => .stuck := by rw [ev] <;> rfl
@[simp] theorem ev_idx : ev F (.idx a b) δ S = (ev F a δ S).bind fun x S1 => (ev F b δ S1).bind fun y S2 => .opt (idxEv x y S2) S2 := by rw [ev]
@[simp] theorem ev_sl : ev F (.sl a b c) δ S = (ev F a δ S).bind fun x S1 => (evo F b δ S1).bind fun l S2 => (evo F c δ S2).bind fun h S3 => .opt (slEv x l h S3) S3 := by rw [ev]
@[simp] theorem ev_rev : ev F (.rev a) δ S = (ev F a δ S).bind fun x S1 => .opt (revEv x S1) S1 := by rw [ev]
@[simp] theorem ev_call {f} : ev F (.call f es) δ S = (evs F es δ S).bind fun ds S1 => F f ds S1 := by rw [ev]
@[simp] theorem ev_blt {t} : ev F (.blt t es) δ S = (evs F es δ S).bind fun ds S1 => .opt (bltEv t ds S1) S1 := by rw [ev]
@[simp] theorem ev_isi {t} : ev F (.isi a t) δ S = (ev F a δ S).bind fun x S1 => .opt ((isiEv x t S1).map .bl) S1 := by rw [ev]
@[simp] theorem ev_mth {m} : ev F (.mth m a es) δ S = (ev F a δ S).bind fun x S1 => match seqL S1 x with
    | some _ => (evs F es δ S1).bind fun ds S2 => .opt2 (mthEv m x ds S2)
    | none => .stuck := by rw [ev] <;> rfl
@[simp] theorem ev_comp {tg own isM} : ev F (.comp e tg a c own isM) δ S = (evI F a δ S).bind fun w S1 =>
      (compEv (ev F e) (ev F c) tg w δ own w.items [] S1).bind fun ds S2 =>
        if isM then .ok (.ref S2.length) (S2 ++ [.lst ds]) else .ok (.lst ds) S2 := by rw [ev]
@[simp] theorem evs_nil : evs F .nil δ S = .ok [] S := by rw [evs]
@[simp] theorem evs_cons : evs F (.cons e es) δ S = (ev F e δ S).bind fun d S1 => (evs F es δ S1).bind fun ds S2 => .ok (d :: ds) S2 := by rw [evs]
@[simp] theorem evI_rng : evI F (.rng a b) δ S = (ev F a δ S).bind fun x S1 => (ev F b δ S1).bind fun y S2 => match x, y with
    | .int i, .int j => open Classical in if small62 i ∧ small62 j then .ok (.fix (rngD i j)) S2 else .stuck
    | _, _ => .stuck := by rw [evI] <;> rfl
@[simp] theorem evI_one : evI F (.one e) δ S = (ev F e δ S).bind fun x S1 => match walkSeq S1 x with
    | some w => .ok w S1
    | none => .stuck := by rw [evI] <;> rfl
@[simp] theorem evo_nil : evo F .nil δ S = .ok none S := by rw [evo]
@[simp] theorem evo_one : evo F (.one e) δ S = (ev F e δ S).bind fun x S1 => match x with
    | .int i => .ok (some i) S1
    | _ => .stuck := by rw [evo] <;> rfl
variable {s t : CS}
@[simp] theorem run_skip : run F .skip δ S = .nx δ S := by rw [run]
@[simp] theorem run_seq : run F (.seq s t) δ S = (run F s δ S).bind fun δ1 S1 => run F t δ1 S1 := by rw [run]
@[simp] theorem run_expr : run F (.expr e) δ S = (ev F e δ S).st δ fun _ S1 => .nx δ S1 := by rw [run]
@[simp] theorem run_ret : run F (.ret e) δ S = (ev F e δ S).st δ fun d S1 => .rt d S1 := by rw [run]
@[simp] theorem run_retF {i : Nat} : run F (.retF i) δ S = match δ[i]? with
    | some (some (.ref p)) => match S[p]? with
      | some (.lst ds) => .rt (.lst ds) (S.set p .gone)
      | _ => .stuck
    | _ => .stuck := by rw [run] <;> rfl
@[simp] theorem run_asg {tg} : run F (.asg tg e) δ S = (ev F e δ S).st δ fun d S1 => match stepT tg d δ with
    | some δ1 => .nx δ1 S1
    | none => .stuck := by rw [run] <;> rfl
@[simp] theorem run_set : run F (.set a b c) δ S = (ev F c δ S).st δ fun v S1 => (ev F a δ S1).st δ fun x S2 => (ev F b δ S2).st δ fun y S3 => match setEv x y v S3 with
    | some S4 => .nx δ S4
    | none => .stuck := by rw [run] <;> rfl
@[simp] theorem run_ife : run F (.ife c s t) δ S = (ev F c δ S).st δ fun x S1 => match x with
    | .bl true => run F s δ S1
    | .bl false => run F t δ S1
    | _ => .stuck := by rw [run] <;> rfl
@[simp] theorem run_fr {tg} : run F (.fr tg a s) δ S = (evI F a δ S).st δ fun w S1 => forEv (run F s) tg w w.items δ S1 := by rw [run]
@[simp] theorem run_brk : run F .brk δ S = .bk δ S := by rw [run]
theorem run_whl : run F (.whl c s) δ S = match ev F c δ S with
    | .ok (.bl true) S1 => (match run F s δ S1 with
      | .nx δ' S' => run F (.whl c s) δ' S'
      | .bk δ' S' => .nx δ' S'
      | r => r)
    | .ok (.bl false) S1 => .nx δ S1
    | .exc x d S1 => .xc x d δ S1
    | _ => .stuck := by
  have e : ∀ δ S, run F (.whl c s) δ S = loopW (wstep (ev F c) (run F s)) (δ, S) := fun δ S => by rw [run]
  rw [e, loopW_step]
  unfold wstep
  cases ev F c δ S with
  | ok d S1 =>
    cases d with
    | bl q =>
      cases q with
      | false => rfl
      | true => 
        simp only []
        cases run F s δ S1 with
        | nx δ' S' => simp only []; rw [e]; rfl
        | _ => rfl
    | _ => rfl
  | exc x d S1 => rfl
  | stuck => rfl
@[simp] theorem out_nx : (SR.nx δ S).out = .ok .non S := rfl
@[simp] theorem out_rt {d} : (SR.rt d S).out = .ok d S := rfl
@[simp] theorem stepT_nm {i : Nat} {d : D} : stepT (.nm i) d δ = if i < δ.length then some (δ.set i (some d)) else none := rfl
@[simp] theorem stepT_tp {ts : CT} {ds : List D} : stepT (.tp ts) (.tup ds) δ = stepT.go ts ds δ := rfl
@[simp] theorem go_nil : stepT.go .nil [] δ = some δ := rfl
@[simp] theorem go_cons {i : Nat} {ts : CT} {d : D} {ds : List D} : stepT.go (.cons (.nm i) ts) (d :: ds) δ = if i < δ.length then stepT.go ts ds (δ.set i (some d)) else none := rfl
theorem evF_body {f : Nat} {cf : CF} {ds : List D} (h : P f = some cf) (hl : ds.length = cf.np) (hn : cf.np ≤ cf.ns) :
    evF P (n + 1) f ds S = gc S (run (evF P n) cf.body (ds.map some ++ List.replicate (cf.ns - cf.np) none) S).out := by
  simp only [evF, h, hl, hn, and_self, if_true]
theorem gc_same {d : D} (h : S'.length = S.length) : gc S (.ok d S') = .ok d S' := by
  by_cases k : Keep S S' ∧ noref d = true
  · simp only [gc, if_pos k]; rw [← h, List.take_length]
  · simp only [gc, if_neg k]
@[simp] theorem gc_id {d : D} : gc S (.ok d S) = .ok d S := gc_same rfl
/-! values -/
@[simp] theorem bin_add_int {i j : Int} : binEv .add (.int i) (.int j) S = some (.int (i + j)) := rfl
@[simp] theorem bin_sub_int {i j : Int} : binEv .sub (.int i) (.int j) S = some (.int (i - j)) := rfl
theorem bin_mul_int {i j : Int} (h : MulOk i j) : binEv .mul (.int i) (.int j) S = some (.int (i * j)) := by
  simp only [binEv, mulEv, if_pos h]
theorem bin_mod_int {i j : Int} (h : 0 < j) : binEv .mod (.int i) (.int j) S = some (.int (i % j)) := by
  simp [binEv, h]
theorem bin_div_int {i j : Int} (h : DivOk i j) : binEv .fdiv (.int i) (.int j) S = some (.int (i / j)) := by
  simp only [binEv, if_pos h]
@[simp] theorem cmp_lt {i j : Int} : cmpEv .lt (.int i) (.int j) S = some (.bl (decide (i < j))) := rfl
@[simp] theorem cmp_le {i j : Int} : cmpEv .le (.int i) (.int j) S = some (.bl (decide (i ≤ j))) := rfl
@[simp] theorem cmp_gt {i j : Int} : cmpEv .gt (.int i) (.int j) S = some (.bl (decide (j < i))) := rfl
@[simp] theorem cmp_ge {i j : Int} : cmpEv .ge (.int i) (.int j) S = some (.bl (decide (j ≤ i))) := rfl
@[simp] theorem cmpB_lt {i j : Int} : cmpB .lt (.int i) (.int j) S = some (decide (i < j)) := rfl
@[simp] theorem cmpB_le {i j : Int} : cmpB .le (.int i) (.int j) S = some (decide (i ≤ j)) := rfl
@[simp] theorem cmp_eq_int {i j : Int} : cmpEv .eq (.int i) (.int j) S = some (.bl (i == j)) := rfl
@[simp] theorem cmp_ne_int {i j : Int} : cmpEv .ne (.int i) (.int j) S = some (.bl (!(i == j))) := rfl
@[simp] theorem idx_tup {ds : List D} {i : Int} : idxEv (.tup ds) (.int i) S = L2.atI ds i := rfl
@[simp] theorem idx_lst {ds : List D} {i : Int} : idxEv (.lst ds) (.int i) S = L2.atI ds i := rfl
@[simp] theorem idx_scr {ds : List D} {i : Int} : idxEv (.scr ds) (.int i) S = L2.atI ds i := rfl
theorem atI_of {α : Type} {xs : List α} {i : Int} (h : 0 ≤ i) : L2.atI xs i = xs[i.toNat]? := by
  unfold L2.atI L2.ixN
  rw [if_pos h]
  by_cases h2 : i < xs.length
  · rw [if_pos h2]; rfl
  · rw [if_neg h2, List.getElem?_eq_none (by omega)]; rfl
@[simp] theorem at0 {d : D} {ds : List D} : L2.atI (d :: ds) 0 = some d := by rw [atI_of (by decide)]; rfl
@[simp] theorem at1 {c d : D} {ds : List D} : L2.atI (c :: d :: ds) 1 = some d := by rw [atI_of (by decide)]; rfl
@[simp] theorem at2 {b c d : D} {ds : List D} : L2.atI (b :: c :: d :: ds) 2 = some d := by rw [atI_of (by decide)]; rfl
/-! share_of, low -/
theorem gcd_step (a b : Int) : Int.gcd b (a % b) = Int.gcd a b := by
  rw [Int.gcd_comm a b]
  apply Nat.dvd_antisymm
  · apply Int.dvd_gcd
    · exact Int.gcd_dvd_left ..
    · have h1 : (Int.gcd b (a % b) : Int) ∣ b := Int.gcd_dvd_left ..
      have h2 : (Int.gcd b (a % b) : Int) ∣ a % b := Int.gcd_dvd_right ..
      have h3 := Int.dvd_add h2 (Int.dvd_mul_of_dvd_left h1 (c := a / b))
      rwa [Int.emod_add_mul_ediv a b] at h3
  · apply Int.dvd_gcd
    · exact Int.gcd_dvd_left ..
    · have h1 : (Int.gcd b a : Int) ∣ b := Int.gcd_dvd_left ..
      have h2 : (Int.gcd b a : Int) ∣ a := Int.gcd_dvd_right ..
      rw [Int.emod_def]
      exact Int.dvd_sub h2 (Int.dvd_mul_of_dvd_left h1)
def cfShare : CF := ⟨2, 2, .seq (.whl (.cmp .gt (.var 1) (.con (.int 0))) (.asg (.tp (.cons (.nm 0) (.cons (.nm 1) .nil))) (.tup (.cons (.var 1) (.cons (.bin .mod (.var 0) (.var 1)) .nil))))) (.ret (.var 0))⟩
theorem share_loop (F : Fn) : ∀ (k : Nat) (a b : Int), 0 ≤ a → 0 ≤ b → b.toNat ≤ k → run F (.whl (.cmp .gt (.var 1) (.con (.int 0))) (.asg (.tp (.cons (.nm 0) (.cons (.nm 1) .nil))) (.tup (.cons (.var 1) (.cons (.bin .mod (.var 0) (.var 1)) .nil))))) [some (.int a), some (.int b)] S =
    .nx [some (.int (Int.gcd a b)), some (.int 0)] S
  | k, a, b, ha, hb, hk => by
    rw [run_whl]
    by_cases h0 : b = 0
    · subst h0
      simp [Int.natAbs_of_nonneg ha]
    · have hp : 0 < b := by omega
      have hm : 0 ≤ a % b := Int.emod_nonneg _ h0
      have hl : a % b < b := Int.emod_lt_of_pos _ hp
      cases k with
      | zero => omega
      | succ k =>
        have ih := share_loop F k b (a % b) hb hm (by omega)
        simp [hp, bin_mod_int hp]
        rw [ih]
        rw [gcd_step a b]
theorem share_spec {f : Nat} (h : P f = some cfShare) {a b : Int} (ha : 0 ≤ a) (hb : 0 ≤ b) : evF P (n + 1) f [.int a, .int b] S = .ok (.int (Int.gcd a b)) S := by
  rw [evF_body h rfl (by decide)]
  simp [cfShare, share_loop _ b.toNat a b ha hb (Nat.le_refl _)]
def cfLow (sh : Nat) : CF := ⟨2, 3, (.seq (.ife (.cmp .lt (.var 1) (.con (.int 0))) (.asg (.tp (.cons (.nm 0) (.cons (.nm 1) .nil))) (.tup (.cons (.bin .sub (.con (.int 0)) (.var 0)) (.cons (.bin .sub (.con (.int 0)) (.var 1)) .nil)))) .skip) (.seq (.asg (.nm 2) (.call sh (.cons (.blt .abs (.cons (.var 0) .nil)) (.cons (.var 1) .nil)))) (.ret (.tup (.cons (.bin .fdiv (.var 0) (.var 2)) (.cons (.bin .fdiv (.var 1) (.var 2)) .nil))))))⟩
/-- a fraction, in lowest terms -/
def fr (q : Rat) : D := .tup [.int q.num, .int (q.den : Int)]
theorem low_num {a b : Int} (hb : 0 < b) : ((a : Rat) / (b : Rat)).num = a / (Int.gcd a b : Int) ∧ (((a : Rat) / (b : Rat)).den : Int) = b / (Int.gcd a b : Int) := by
  rw [← Rat.divInt_eq_div, Rat.num_divInt, Rat.den_divInt, if_neg (by omega), Int.gcd_comm b a]
  have hs : b.sign = 1 := Int.sign_eq_one_of_pos hb
  refine ⟨by rw [hs, Int.one_mul], ?_⟩
  rw [Int.natCast_ediv, Int.natAbs_of_nonneg (by omega)]
theorem abs_nat (i : Int) : (if i < 0 then -i else i) = (i.natAbs : Int) := by split <;> omega
@[simp] theorem blt_abs {i : Int} : bltEv .abs [.int i] S = some (.int (i.natAbs : Int)) := by rw [← abs_nat]; rfl
theorem log2_mono {m n : Nat} (h : m ≤ n) : m.log2 ≤ n.log2 := by
  by_cases h0 : m = 0
  · subst h0; simp
  · exact (Nat.le_log2 (by omega)).mpr (Nat.le_trans (Nat.log2_self_le h0) h)
theorem div_small {a : Int} {g b : Int} (hg : 0 < g) (hl : g ≤ b) (h : b.natAbs.log2 < 9000) : DivOk a g := by
  refine ⟨hg, ?_⟩
  have : g.natAbs ≤ b.natAbs := by omega
  exact Nat.lt_of_le_of_lt (log2_mono this) h
theorem low_spec {f sh : Nat} (h : P f = some (cfLow sh)) (h2 : P sh = some cfShare) {a b : Int} (hb : b ≠ 0) (hs : b.natAbs.log2 < 9000) : evF P (n + 2) f [.int a, .int b] S = .ok (fr ((a : Rat) / (b : Rat))) S := by
  rw [evF_body h rfl (by simp [cfLow])]
  have key : ∀ a b : Int, 0 < b → b.natAbs.log2 < 9000 → evF P (n + 1) sh [.int (a.natAbs : Int), .int b] S = .ok (.int (Int.gcd a b)) S ∧ DivOk a (Int.gcd a b) ∧ DivOk b (Int.gcd a b) := fun a b hb hs => by
    have hg : 0 < (Int.gcd a b : Int) := by
      have := Int.gcd_pos_iff.mpr (Or.inr (show b ≠ 0 by omega) : a ≠ 0 ∨ b ≠ 0)
      omega
    have hl := Int.gcd_le_right a hb
    refine ⟨?_, div_small hg hl hs, div_small hg hl hs⟩
    rw [share_spec h2 (by omega) (by omega)]
    simp [Int.gcd]
  by_cases hn : b < 0
  · obtain ⟨k1, k2, k3⟩ := key (-a) (-b) (by omega) (by rwa [Int.natAbs_neg])
    obtain ⟨e1, e2⟩ := low_num (a := -a) (b := -b) (by omega)
    have e : ((-a : Int) : Rat) / ((-b : Int) : Rat) = (a : Rat) / (b : Rat) := by
      have : (b : Rat) ≠ 0 := by simpa using hb
      rw [Rat.intCast_neg, Rat.intCast_neg]
      grind
    rw [e] at e1 e2
    simp at k1 k2 k3 e1 e2
    simp [cfLow, hn, k1, bin_div_int k2, bin_div_int k3, fr, e1, e2]
  · obtain ⟨k1, k2, k3⟩ := key a b (by omega) hs
    obtain ⟨e1, e2⟩ := low_num (a := a) (b := b) (by omega)
    simp [cfLow, hn, k1, bin_div_int k2, bin_div_int k3, fr, e1, e2]

def cfLawLow : CF := ⟨2, 4, (.seq (.ife (.cmp .lt (.var 1) (.con (.int 0))) (.asg (.tp (.cons (.nm 0) (.cons (.nm 1) .nil))) (.tup (.cons (.bin .sub (.con (.int 0)) (.var 0)) (.cons (.bin .sub (.con (.int 0)) (.var 1)) .nil)))) .skip) (.seq (.asg (.tp (.cons (.nm 2) (.cons (.nm 3) .nil))) (.tup (.cons (.blt .abs (.cons (.var 0) .nil)) (.cons (.var 1) .nil)))) (.seq (.whl (.cmp .gt (.var 3) (.con (.int 0))) (.asg (.tp (.cons (.nm 2) (.cons (.nm 3) .nil))) (.tup (.cons (.var 3) (.cons (.bin .mod (.var 2) (.var 3)) .nil))))) (.ret (.tup (.cons (.bin .fdiv (.var 0) (.var 2)) (.cons (.bin .fdiv (.var 1) (.var 2)) .nil)))))))⟩
theorem low_loop (F : Fn) (x y : Option D) : ∀ (k : Nat) (a b : Int), 0 ≤ a → 0 ≤ b → b.toNat ≤ k → run F (.whl (.cmp .gt (.var 3) (.con (.int 0))) (.asg (.tp (.cons (.nm 2) (.cons (.nm 3) .nil))) (.tup (.cons (.var 3) (.cons (.bin .mod (.var 2) (.var 3)) .nil))))) [x, y, some (.int a), some (.int b)] S =
    .nx [x, y, some (.int (Int.gcd a b)), some (.int 0)] S
  | k, a, b, ha, hb, hk => by
    rw [run_whl]
    by_cases h0 : b = 0
    · subst h0
      simp [Int.natAbs_of_nonneg ha]
    · have hp : 0 < b := by omega
      have hm : 0 ≤ a % b := Int.emod_nonneg _ h0
      have hl : a % b < b := Int.emod_lt_of_pos _ hp
      cases k with
      | zero => omega
      | succ k =>
        have ih := low_loop F x y k b (a % b) hb hm (by omega)
        simp [hp, bin_mod_int hp]
        rw [ih]
        rw [gcd_step a b]
theorem gcd_abs (a b : Int) : Int.gcd (a.natAbs : Int) b = Int.gcd a b := by simp [Int.gcd]
theorem law_low_spec {f : Nat} (h : P f = some cfLawLow) {a b : Int} (hb : b ≠ 0) (hs : b.natAbs.log2 < 9000) : evF P (n + 1) f [.int a, .int b] S = .ok (fr ((a : Rat) / (b : Rat))) S := by
  rw [evF_body h rfl (by simp [cfLawLow])]
  have key : ∀ a b : Int, 0 < b → b.natAbs.log2 < 9000 → DivOk a (Int.gcd a b) ∧ DivOk b (Int.gcd a b) := fun a b hb hs => by
    have hg : 0 < (Int.gcd a b : Int) := by
      have := Int.gcd_pos_iff.mpr (Or.inr (show b ≠ 0 by omega) : a ≠ 0 ∨ b ≠ 0)
      omega
    have hl := Int.gcd_le_right a hb
    exact ⟨div_small hg hl hs, div_small hg hl hs⟩
  by_cases hn : b < 0
  · obtain ⟨k2, k3⟩ := key (-a) (-b) (by omega) (by rwa [Int.natAbs_neg])
    obtain ⟨e1, e2⟩ := low_num (a := -a) (b := -b) (by omega)
    have e : ((-a : Int) : Rat) / ((-b : Int) : Rat) = (a : Rat) / (b : Rat) := by
      have : (b : Rat) ≠ 0 := by simpa using hb
      rw [Rat.intCast_neg, Rat.intCast_neg]
      grind
    rw [e] at e1 e2
    have l := low_loop (S := S) (evF P n) (some (.int (-a))) (some (.int (-b))) (-b).toNat ((-a).natAbs : Int) (-b) (by omega) (by omega) (Nat.le_refl _)
    rw [gcd_abs] at l
    simp at l
    simp at k2 k3 e1 e2
    simp [cfLawLow, hn, l, bin_div_int k2, bin_div_int k3, fr, e1, e2]
  · obtain ⟨k2, k3⟩ := key a b (by omega) hs
    obtain ⟨e1, e2⟩ := low_num (a := a) (b := b) (by omega)
    have l := low_loop (S := S) (evF P n) (some (.int (a))) (some (.int (b))) (b).toNat (a.natAbs : Int) (b) (by omega) (by omega) (Nat.le_refl _)
    rw [gcd_abs] at l
    simp [cfLawLow, hn, l, bin_div_int k2, bin_div_int k3, fr, e1, e2]
end
end Z

/-! Z, part N: fractions. -/
namespace Z
open PySem
/-- few bits -/
def Sz (m : Nat) (q : Rat) : Prop := q.num.natAbs < 2 ^ m ∧ q.den < 2 ^ m
theorem log2_lt_of {k m : Nat} (h : k < 2 ^ m) : k.log2 ≤ m := by
  by_cases h0 : k = 0
  · subst h0; simp
  · exact Nat.le_of_lt ((Nat.log2_lt h0).mpr h)
theorem mulOk_of {i j : Int} {m l : Nat} (h1 : i.natAbs < 2 ^ m) (h2 : j.natAbs < 2 ^ l) (h : m + l < 1000000) : MulOk i j := by
  have := log2_lt_of h1
  have := log2_lt_of h2
  exact .inl (by omega)
theorem rat_eq (q : Rat) : q = (q.num : Rat) / ((q.den : Int) : Rat) := by
  rw [← Rat.divInt_eq_div]
  exact (Rat.num_divInt_den q).symm
theorem den_pos (q : Rat) : 0 < (q.den : Int) := by have := q.den_pos; omega
theorem den_ne (q : Rat) : ((q.den : Int) : Rat) ≠ 0 := by
  have := den_pos q
  have h : (q.den : Int) ≠ 0 := by omega
  simpa using h
theorem sz_div {a b : Int} {m : Nat} (hb : 0 < b) (h1 : a.natAbs < 2 ^ m) (h2 : b.natAbs < 2 ^ m) : Sz m ((a : Rat) / (b : Rat)) := by
  obtain ⟨e1, e2⟩ := low_num (a := a) hb
  have hg : 0 < (Int.gcd a b : Int) := by
    have := Int.gcd_pos_iff.mpr (Or.inr (show b ≠ 0 by omega) : a ≠ 0 ∨ b ≠ 0)
    omega
  have d1 : (Int.gcd a b : Int) ∣ a := Int.gcd_dvd_left ..
  have d2 : (Int.gcd a b : Int) ∣ b := Int.gcd_dvd_right ..
  refine ⟨?_, ?_⟩
  · rw [e1]
    refine Nat.lt_of_le_of_lt ?_ h1
    exact Int.natAbs_ediv_le_natAbs _ _
  · have : b / (Int.gcd a b : Int) ≤ b := Int.ediv_le_self _ (by omega)
    have h3 : ((2 ^ m : Nat) : Int) = 2 ^ m := by simp
    omega
theorem Sz.mono {m l : Nat} {q : Rat} (h : Sz m q) (hl : m ≤ l) : Sz l q := by
  have : 2 ^ m ≤ 2 ^ l := Nat.pow_le_pow_right (by decide) hl
  exact ⟨Nat.lt_of_lt_of_le h.1 this, Nat.lt_of_lt_of_le h.2 this⟩
theorem mul_lt_pow {x y m l : Nat} (h1 : x < 2 ^ m) (h2 : y < 2 ^ l) : x * y < 2 ^ (m + l) := by
  rw [Nat.pow_add]
  exact Nat.mul_lt_mul'' h1 h2
theorem natAbs_mul_lt {x y : Int} {m l : Nat} (h1 : x.natAbs < 2 ^ m) (h2 : y.natAbs < 2 ^ l) : (x * y).natAbs < 2 ^ (m + l) := by
  rw [Int.natAbs_mul]
  exact mul_lt_pow h1 h2
theorem natAbs_add_lt {x y : Int} {m : Nat} (h1 : x.natAbs < 2 ^ m) (h2 : y.natAbs < 2 ^ m) : (x + y).natAbs < 2 ^ (m + 1) := by
  rw [Nat.pow_succ]
  omega
theorem natAbs_sub_lt {x y : Int} {m : Nat} (h1 : x.natAbs < 2 ^ m) (h2 : y.natAbs < 2 ^ m) : (x - y).natAbs < 2 ^ (m + 1) := by
  rw [Nat.pow_succ]
  omega
def LowAt (P : Nat → Option CF) (lo k : Nat) : Prop := ∀ (n : Nat) (a b : Int) (S : Store), b ≠ 0 → b.natAbs.log2 < 9000 → evF P (n + k) lo [.int a, .int b] S = .ok (fr ((a : Rat) / (b : Rat))) S
section
variable {P : Nat → Option CF} {n lo k f : Nat} {S : Store} {a b : Rat} {m l : Nat}
abbrev top0 : CE := .idx (.var 0) (.con (.int 0))
abbrev bot0 : CE := .idx (.var 0) (.con (.int 1))
abbrev top1 : CE := .idx (.var 1) (.con (.int 0))
abbrev bot1 : CE := .idx (.var 1) (.con (.int 1))
def cfAdd (lo : Nat) : CF := ⟨2, 2, .ret (.call lo (.cons (.bin .add (.bin .mul top0 bot1) (.bin .mul top1 bot0)) (.cons (.bin .mul bot0 bot1) .nil)))⟩
def cfSub (lo : Nat) : CF := ⟨2, 2, .ret (.call lo (.cons (.bin .sub (.bin .mul top0 bot1) (.bin .mul top1 bot0)) (.cons (.bin .mul bot0 bot1) .nil)))⟩
def cfMul (lo : Nat) : CF := ⟨2, 2, .ret (.call lo (.cons (.bin .mul top0 top1) (.cons (.bin .mul bot0 bot1) .nil)))⟩
def cfDiv (lo : Nat) : CF := ⟨2, 2, .ret (.call lo (.cons (.bin .mul top0 bot1) (.cons (.bin .mul bot0 top1) .nil)))⟩
def cfLess : CF := ⟨2, 2, .ret (.cmp .lt (.bin .mul top0 bot1) (.bin .mul top1 bot0))⟩
theorem den_lt (h : Sz m a) : ((a.den : Int)).natAbs < 2 ^ m := by have := h.2; omega
theorem mo_nd (ha : Sz m a) (hb : Sz l b) (h : m + l < 8000) : MulOk a.num b.den := mulOk_of ha.1 (den_lt hb) (by omega)
theorem mo_nn (ha : Sz m a) (hb : Sz l b) (h : m + l < 8000) : MulOk a.num b.num := mulOk_of ha.1 hb.1 (by omega)
theorem mo_dd (ha : Sz m a) (hb : Sz l b) (h : m + l < 8000) : MulOk a.den b.den := mulOk_of (den_lt ha) (den_lt hb) (by omega)
theorem mo_dn (ha : Sz m a) (hb : Sz l b) (h : m + l < 8000) : MulOk a.den b.num := mulOk_of (den_lt ha) hb.1 (by omega)
theorem dd_pos (a b : Rat) : 0 < (a.den : Int) * (b.den : Int) := Int.mul_pos (den_pos a) (den_pos b)
theorem dd_log (ha : Sz m a) (hb : Sz l b) (h : m + l < 8000) : ((a.den : Int) * (b.den : Int)).natAbs.log2 < 9000 := by
  have := log2_lt_of (natAbs_mul_lt (den_lt ha) (den_lt hb))
  omega
theorem add_eq (a b : Rat) : ((a.num * b.den + b.num * a.den : Int) : Rat) / ((a.den * b.den : Int) : Rat) = a + b := by
  have h1 := den_ne a
  have h2 := den_ne b
  have e1 := rat_eq a
  have e2 := rat_eq b
  rw [Rat.intCast_add, Rat.intCast_mul, Rat.intCast_mul, Rat.intCast_mul]
  generalize (a.num : Rat) = x at *
  generalize (b.num : Rat) = y at *
  generalize ((a.den : Int) : Rat) = u at *
  generalize ((b.den : Int) : Rat) = v at *
  subst e1 e2
  grind
theorem sub_eq (a b : Rat) : ((a.num * b.den - b.num * a.den : Int) : Rat) / ((a.den * b.den : Int) : Rat) = a - b := by
  have h1 := den_ne a
  have h2 := den_ne b
  have e1 := rat_eq a
  have e2 := rat_eq b
  rw [Rat.intCast_sub, Rat.intCast_mul, Rat.intCast_mul, Rat.intCast_mul]
  generalize (a.num : Rat) = x at *
  generalize (b.num : Rat) = y at *
  generalize ((a.den : Int) : Rat) = u at *
  generalize ((b.den : Int) : Rat) = v at *
  subst e1 e2
  grind
theorem mul_eq (a b : Rat) : ((a.num * b.num : Int) : Rat) / ((a.den * b.den : Int) : Rat) = a * b := by
  have h1 := den_ne a
  have h2 := den_ne b
  have e1 := rat_eq a
  have e2 := rat_eq b
  rw [Rat.intCast_mul, Rat.intCast_mul]
  generalize (a.num : Rat) = x at *
  generalize (b.num : Rat) = y at *
  generalize ((a.den : Int) : Rat) = u at *
  generalize ((b.den : Int) : Rat) = v at *
  subst e1 e2
  grind
theorem num_ne {b : Rat} (h : b ≠ 0) : b.num ≠ 0 := fun e => h (by rw [rat_eq b, e]; simp [Rat.div_def])
theorem div_eq (a b : Rat) (hb : b ≠ 0) : ((a.num * b.den : Int) : Rat) / ((a.den * b.num : Int) : Rat) = a / b := by
  have h1 := den_ne a
  have h2 := den_ne b
  have h3 : (b.num : Rat) ≠ 0 := by simpa using num_ne hb
  have e1 := rat_eq a
  have e2 := rat_eq b
  rw [Rat.intCast_mul, Rat.intCast_mul]
  generalize (a.num : Rat) = x at *
  generalize (b.num : Rat) = y at *
  generalize ((a.den : Int) : Rat) = u at *
  generalize ((b.den : Int) : Rat) = v at *
  subst e1 e2
  grind
theorem sz_add (ha : Sz m a) (hb : Sz l b) : Sz (m + l + 1) (a + b) := by
  rw [← add_eq]
  refine sz_div (dd_pos a b) ?_ (Nat.lt_trans (natAbs_mul_lt (den_lt ha) (den_lt hb)) (Nat.pow_lt_pow_succ (by decide)))
  refine natAbs_add_lt (natAbs_mul_lt ha.1 (den_lt hb)) ?_
  rw [Nat.add_comm m l]
  exact natAbs_mul_lt hb.1 (den_lt ha)
theorem sz_sub (ha : Sz m a) (hb : Sz l b) : Sz (m + l + 1) (a - b) := by
  rw [← sub_eq]
  refine sz_div (dd_pos a b) ?_ (Nat.lt_trans (natAbs_mul_lt (den_lt ha) (den_lt hb)) (Nat.pow_lt_pow_succ (by decide)))
  refine natAbs_sub_lt (natAbs_mul_lt ha.1 (den_lt hb)) ?_
  rw [Nat.add_comm m l]
  exact natAbs_mul_lt hb.1 (den_lt ha)
theorem sz_mul (ha : Sz m a) (hb : Sz l b) : Sz (m + l) (a * b) := by
  rw [← mul_eq]
  exact sz_div (dd_pos a b) (natAbs_mul_lt ha.1 hb.1) (natAbs_mul_lt (den_lt ha) (den_lt hb))
theorem add_spec (h : P f = some (cfAdd lo)) (L : LowAt P lo k) (ha : Sz m a) (hb : Sz l b) (hs : m + l < 8000) : evF P (n + k + 1) f [fr a, fr b] S = .ok (fr (a + b)) S := by
  rw [evF_body h rfl (by simp [cfAdd])]
  have e := L n (a.num * b.den + b.num * a.den) (a.den * b.den) S (by have := dd_pos a b; omega) (dd_log ha hb hs)
  rw [add_eq] at e
  simp [cfAdd, fr, bin_mul_int (mo_nd ha hb hs), bin_mul_int (mo_nd hb ha (by omega)), bin_mul_int (mo_dd ha hb hs), e]
theorem sub_spec (h : P f = some (cfSub lo)) (L : LowAt P lo k) (ha : Sz m a) (hb : Sz l b) (hs : m + l < 8000) : evF P (n + k + 1) f [fr a, fr b] S = .ok (fr (a - b)) S := by
  rw [evF_body h rfl (by simp [cfSub])]
  have e := L n (a.num * b.den - b.num * a.den) (a.den * b.den) S (by have := dd_pos a b; omega) (dd_log ha hb hs)
  rw [sub_eq] at e
  simp [cfSub, fr, bin_mul_int (mo_nd ha hb hs), bin_mul_int (mo_nd hb ha (by omega)), bin_mul_int (mo_dd ha hb hs), e]
theorem mul_spec (h : P f = some (cfMul lo)) (L : LowAt P lo k) (ha : Sz m a) (hb : Sz l b) (hs : m + l < 8000) : evF P (n + k + 1) f [fr a, fr b] S = .ok (fr (a * b)) S := by
  rw [evF_body h rfl (by simp [cfMul])]
  have e := L n (a.num * b.num) (a.den * b.den) S (by have := dd_pos a b; omega) (dd_log ha hb hs)
  rw [mul_eq] at e
  simp [cfMul, fr, bin_mul_int (mo_nn ha hb hs), bin_mul_int (mo_dd ha hb hs), e]
theorem div_spec (h : P f = some (cfDiv lo)) (L : LowAt P lo k) (ha : Sz m a) (hb : Sz l b) (hz : b ≠ 0) (hs : m + l < 8000) : evF P (n + k + 1) f [fr a, fr b] S = .ok (fr (a / b)) S := by
  rw [evF_body h rfl (by simp [cfDiv])]
  have e := L n (a.num * b.den) (a.den * b.num) S (by have := den_pos a; exact Int.mul_ne_zero (by omega) (num_ne hz)) (by have := log2_lt_of (natAbs_mul_lt (den_lt ha) hb.1); omega)
  rw [div_eq a b hz] at e
  simp [cfDiv, fr, bin_mul_int (mo_nd ha hb hs), bin_mul_int (mo_dn ha hb hs), e]
theorem lt_iff_cross (a b : Rat) : a.num * (b.den : Int) < b.num * (a.den : Int) ↔ a < b := by
  rw [Rat.lt_iff]
theorem less_spec (h : P f = some cfLess) (ha : Sz m a) (hb : Sz l b) (hs : m + l < 8000) : evF P (n + 1) f [fr a, fr b] S = .ok (.bl (decide (a < b))) S := by
  rw [evF_body h rfl (by simp [cfLess])]
  simp [cfLess, fr, bin_mul_int (mo_nd ha hb hs), bin_mul_int (mo_nd hb ha (by omega)), lt_iff_cross]
end
end Z

/-! Z, part O: equality of data; what a fraction is asked. -/
namespace Z
open PySem
section
variable {P : Nat → Option CF} {n k f : Nat} {S : Store} {a b : Rat} {m l : Nat}
@[simp] theorem isi_int_int {i : Int} : isiEv (.int i) .int S = some true := rfl
@[simp] theorem isi_int_bool {i : Int} : isiEv (.int i) .bool S = some false := rfl
@[simp] theorem isi_tup_tup {ds : List D} : isiEv (.tup ds) .tup S = some true := rfl
@[simp] theorem isi_bl_bool {b : Bool} : isiEv (.bl b) .bool S = some true := rfl
@[simp] theorem seqOf_tup {ds : List D} : seqOf S (.tup ds) = some ds := rfl
@[simp] theorem seqOf_lst {ds : List D} : seqOf S (.lst ds) = some ds := rfl
@[simp] theorem seqOf_scr {ds : List D} : seqOf S (.scr ds) = some ds := rfl
@[simp] theorem seqL_lst {ds : List D} : seqL S (.lst ds) = some ds := rfl
@[simp] theorem blt_len {d : D} : bltEv .len [d] S = lenEv S d := rfl
@[simp] theorem len_tup {ds : List D} : lenEv S (.tup ds) = some (.int ds.length) := rfl
@[simp] theorem len_lst {ds : List D} : lenEv S (.lst ds) = some (.int ds.length) := rfl
@[simp] theorem len_scr {ds : List D} : lenEv S (.scr ds) = some (.int ds.length) := rfl
@[simp] theorem blt_tuple {d : D} : bltEv .tuple [d] S = (seqOf S d).map .tup := rfl
@[simp] theorem blt_list {d : D} : bltEv .list [d] S = (seqOf S d).map .lst := rfl
@[simp] theorem blt_all {ds : List D} : bltEv .all [.lst ds] S = (bls? ds).map fun bs => .bl (bs.all id) := rfl
@[simp] theorem blt_sum {ds : List D} : bltEv .sum [.lst ds] S = (ints? ds).map fun ns => .int ns.sum := rfl
@[simp] theorem blt_max {i j : Int} : bltEv .max [.int i, .int j] S = some (.int (if j > i then j else i)) := rfl
@[simp] theorem blt_min {i j : Int} : bltEv .min [.int i, .int j] S = some (.int (if j < i then j else i)) := rfl
theorem ints_map (ns : List Int) : ints? (ns.map D.int) = some ns := by
  induction ns with
  | nil => rfl
  | cons n ns ih => rw [List.map_cons, ints?, ih]; rfl
theorem bls_map (ns : List Bool) : bls? (ns.map D.bl) = some ns := by
  induction ns with
  | nil => rfl
  | cons n ns ih => rw [List.map_cons, bls?, ih]; rfl
def cfWhole : CF := ⟨1, 1, .ret (.and (.isi (.var 0) .int) (.not (.isi (.var 0) .bool)))⟩
theorem whole_int (h : P f = some cfWhole) {i : Int} : evF P (n + 1) f [.int i] S = .ok (.bl true) S := by
  rw [evF_body h rfl (by decide)]
  simp [cfWhole]
def cfIsFr (wh sh : Nat) : CF := ⟨1, 1, (.seq (.ife (.or (.not (.isi (.var 0) .tup)) (.or (.cmp .ne (.blt .len (.cons (.var 0) .nil)) (.con (.int 2))) (.or (.not (.call wh (.cons (.idx (.var 0) (.con (.int 0))) .nil))) (.not (.call wh (.cons (.idx (.var 0) (.con (.int 1))) .nil)))))) (.ret (.con (.bl false))) .skip) (.ret (.and (.cmp .gt (.idx (.var 0) (.con (.int 1))) (.con (.int 0))) (.cmp .eq (.call sh (.cons (.blt .abs (.cons (.idx (.var 0) (.con (.int 0))) .nil)) (.cons (.idx (.var 0) (.con (.int 1))) .nil))) (.con (.int 1))))))⟩
theorem isFr_spec {wh sh : Nat} (h : P f = some (cfIsFr wh sh)) (h1 : P wh = some cfWhole) (h2 : P sh = some cfShare) : evF P (n + 2) f [fr a] S = .ok (.bl true) S := by
  rw [evF_body h rfl (by simp [cfIsFr])]
  have hd := a.den_pos
  have hg : Int.gcd (a.num.natAbs : Int) (a.den : Int) = 1 := by
    have := a.reduced
    simpa [Int.gcd] using this
  simp [cfIsFr, fr, whole_int h1, share_spec h2 (a := (a.num.natAbs : Int)) (b := (a.den : Int)) (by omega) (by omega), hg, hd]
def cfFrom0 (q : Nat) : CF := ⟨1, 1, (.ret (.and (.call q (.cons (.var 0) .nil)) (.cmp .ge (.idx (.var 0) (.con (.int 0))) (.con (.int 0)))))⟩
def cfOver0 (q : Nat) : CF := ⟨1, 1, (.ret (.and (.call q (.cons (.var 0) .nil)) (.cmp .gt (.idx (.var 0) (.con (.int 0))) (.con (.int 0)))))⟩
def IsFrAt (P : Nat → Option CF) (q k : Nat) : Prop := ∀ (n : Nat) (a : Rat) (S : Store), evF P (n + k) q [fr a] S = .ok (.bl true) S
theorem from0_spec {q : Nat} (h : P f = some (cfFrom0 q)) (h1 : IsFrAt P q k) : evF P (n + k + 1) f [fr a] S = .ok (.bl (decide (0 ≤ a))) S := by
  rw [evF_body h rfl (by simp [cfFrom0])]
  have e := h1 n a S
  have : decide (0 ≤ a.num) = decide (0 ≤ a) := by simp [Rat.num_nonneg]
  simp [cfFrom0, e]
  simp [fr, this]
theorem over0_spec {q : Nat} (h : P f = some (cfOver0 q)) (h1 : IsFrAt P q k) : evF P (n + k + 1) f [fr a] S = .ok (.bl (decide (0 < a))) S := by
  rw [evF_body h rfl (by simp [cfOver0])]
  have e := h1 n a S
  have : decide (0 < a.num) = decide (0 < a) := by
    have h1 := Rat.num_nonneg (q := a)
    have h2 := Rat.num_eq_zero (q := a)
    have h3 : (0 < a.num) ↔ 0 < a := by
      constructor
      · intro h
        exact Rat.lt_of_le_of_ne (h1.mp (by omega)) (fun e => by have := h2.mpr e.symm; omega)
      · intro h
        have := h1.mpr (Rat.le_of_lt h)
        have : a.num ≠ 0 := fun e => by rw [h2.mp e] at h; exact absurd h (Rat.lt_irrefl)
        omega
    exact decide_eq_decide.mpr h3
  simp [cfOver0, e]
  simp [fr, this]
/-! equality -/
mutual
/-- data that == can read, of depth at most n -/
def okD : Nat → D → Bool
  | _, .non => true
  | _, .bl _ => true
  | _, .int _ => true
  | _, .str x => PyData.strOk x
  | n + 1, .tup ds => okDs n ds
  | n + 1, .lst ds => okDs n ds
  | _, _ => false
def okDs : Nat → List D → Bool
  | _, [] => true
  | n, d :: ds => okD n d && okDs n ds
end
mutual
theorem okD_py : ∀ (n : Nat) (d : D), okD n d = true → ∃ x, py d = some x ∧ x.canLay0 = true ∧ x.depth ≤ n
  | _, .non, _ => ⟨_, rfl, rfl, by simp [PyData.depth]⟩
  | _, .bl b, _ => ⟨_, rfl, rfl, by simp [PyData.depth]⟩
  | _, .int i, _ => ⟨_, rfl, rfl, by simp [PyData.depth]⟩
  | _, .str x, h => ⟨_, rfl, by unfold okD at h; exact h, by simp [PyData.depth]⟩
  | n + 1, .tup ds, h => by
    unfold okD at h
    obtain ⟨xs, e1, e2, e3⟩ := okDs_py n ds h
    exact ⟨.tuple xs, by unfold py; rw [e1], by simpa [PyData.canLay0] using e2, by simp [PyData.depth]; omega⟩
  | n + 1, .lst ds, h => by
    unfold okD at h
    obtain ⟨xs, e1, e2, e3⟩ := okDs_py n ds h
    exact ⟨.list xs, by unfold py; rw [e1], by simpa [PyData.canLay0] using e2, by simp [PyData.depth]; omega⟩
  | 0, .tup ds, h => by unfold okD at h; cases h
  | 0, .lst ds, h => by unfold okD at h; cases h
  | _, .scr _, h => by unfold okD at h; cases h
  | _, .edic, h => by unfold okD at h; cases h
  | _, .ref _, h => by unfold okD at h; cases h
  | _, .exc _ _, h => by unfold okD at h; cases h
theorem okDs_py : ∀ (n : Nat) (ds : List D), okDs n ds = true → ∃ xs, pys ds = some xs ∧ PyData.canLayAll0 xs = true ∧ PyData.depthAll xs ≤ n
  | _, [], _ => ⟨[], rfl, rfl, by simp [PyData.depthAll]⟩
  | n, d :: ds, h => by
    unfold okDs at h
    obtain ⟨h1, h2⟩ := ands h
    obtain ⟨x, e1, e2, e3⟩ := okD_py n d h1
    obtain ⟨xs, e4, e5, e6⟩ := okDs_py n ds h2
    exact ⟨x :: xs, by unfold pys; rw [e1, e4], by rw [PyData.canLayAll0, e2, e5]; rfl, by simp [PyData.depthAll]; omega⟩
end
def eqD (a b : D) : Bool := match py a, py b with
  | some x, some y => PyData.eqv x y
  | _, _ => false
theorem pyS_of {d : D} {n : Nat} (h : okD n d = true) : pyS S d = py d := by
  cases d <;> first | rfl | (unfold okD at h; cases h)
theorem eqEv_of {x y : D} {n : Nat} (hx : okD n x = true) (hy : okD n y = true) (hn : n ≤ 64) : eqEv S x y = some (eqD x y) := by
  obtain ⟨p, e1, e2, e3⟩ := okD_py n x hx
  obtain ⟨q, e4, e5, e6⟩ := okD_py n y hy
  unfold eqEv eqD
  rw [pyS_of hx, pyS_of hy, e1, e4]
  have s1 : SeqAt.shaped p = true := by unfold SeqAt.shaped; rw [e2]; simp; omega
  have s2 : SeqAt.shaped q = true := by unfold SeqAt.shaped; rw [e5]; simp; omega
  simp only [shapedO, if_pos s1, if_pos s2]
theorem cmp_eq {x y : D} (n : Nat) (hx : okD n x = true) (hy : okD n y = true) (hn : n ≤ 64) : cmpEv .eq x y S = some (.bl (eqD x y)) := by
  show (eqEv S x y).map D.bl = _
  rw [eqEv_of hx hy hn]
  rfl
theorem cmp_ne {x y : D} (n : Nat) (hx : okD n x = true) (hy : okD n y = true) (hn : n ≤ 64) : cmpEv .ne x y S = some (.bl (!eqD x y)) := by
  show ((eqEv S x y).map (!·)).map D.bl = _
  rw [eqEv_of hx hy hn]
  rfl
theorem eqD_refl {x : D} (n : Nat) (hx : okD n x = true) : eqD x x = true := by
  obtain ⟨p, e1, e2, e3⟩ := okD_py n x hx
  unfold eqD
  rw [e1]
  exact SeqAt.eqv_refl p e2
theorem okDs_all {n : Nat} : ∀ {ds : List D}, (∀ d ∈ ds, okD n d = true) → okDs n ds = true
  | [], _ => by unfold okDs; rfl
  | d :: ds, h => by
    unfold okDs
    rw [h d List.mem_cons_self, okDs_all fun x hx => h x (List.mem_cons_of_mem _ hx)]
    rfl
theorem ok_tup {n : Nat} {ds : List D} (h : ∀ d ∈ ds, okD n d = true) : okD (n + 1) (.tup ds) = true := by
  unfold okD
  exact okDs_all h
theorem ok_fr (n : Nat) (q : Rat) : okD (n + 1) (fr q) = true := by simp [fr, okD, okDs]
theorem eqD_fr (p q : Rat) : eqD (fr p) (fr q) = decide (p = q) := by
  simp [eqD, fr, py, pys, PyData.eqv, PyData.eqvAll]
  rw [Bool.eq_iff_iff]
  simp
  constructor
  · intro h; exact Rat.ext h.1 (by omega)
  · intro h; subst h; exact ⟨rfl, rfl⟩
end
end Z

/-! Z, part Q: the purse. -/
namespace Z
open PySem
structure Q3 where
  a : Int
  b : Int
  c : Int
def cellQ (q : Q3) : Cell := .lst [.int q.a, .int q.b, .int q.c]
/-- the store with a purse at p -/
def Sq (S : Store) (p : Nat) (q : Q3) : Store := S.set p (cellQ q)
@[simp] theorem Sq_len {S : Store} {p : Nat} {q : Q3} : (Sq S p q).length = S.length := by simp [Sq]
theorem Sq_at {S : Store} {p : Nat} {q : Q3} (hp : p < S.length) : (Sq S p q)[p]? = some (cellQ q) := by simp [Sq, hp]
@[simp] theorem Sq_Sq {S : Store} {p : Nat} {q q' : Q3} : Sq (Sq S p q) p q' = Sq S p q' := by simp [Sq]
def pkC (q : Q3) : Int := q.c + 1
def pkA (q : Q3) : Int := q.a % 999999893 * (q.a % 999999893 % 40009 + 10007) + 80021 * (q.c + 1)
def pkR (m : Int) (q : Q3) : Int := if 0 < q.b then q.b % m else pkA q % 999999893 / 16 % m
def pkQ (m : Int) (q : Q3) : Q3 := if 0 < q.b then ⟨pkA q, q.b / m, q.c + 1⟩ else ⟨pkA q, q.b, q.c + 1⟩
theorem pkR_nonneg {m : Int} {q : Q3} (h : 0 < m) : 0 ≤ pkR m q := by
  unfold pkR
  split <;> exact Int.emod_nonneg _ (by omega)
theorem pkR_lt {m : Int} {q : Q3} (h : 0 < m) : pkR m q < m := by
  unfold pkR
  split <;> exact Int.emod_lt_of_pos _ h
section
variable {P : Nat → Option CF} {n k f : Nat} {S : Store} {p : Nat} {q : Q3}
theorem idx_Sq (hp : p < S.length) {i : Int} : idxEv (.ref p) (.int i) (Sq S p q) = L2.atI [.int q.a, .int q.b, .int q.c] i := by
  simp [idxEv, dkOf, seqOf, Sq_at hp, cellQ]
theorem set_Sq0 (hp : p < S.length) {v : Int} : setEv (.ref p) (.int 0) (.int v) (Sq S p q) = some (Sq S p ⟨v, q.b, q.c⟩) := by
  simp only [setEv, Sq_at hp, cellQ]
  simp [L2.ixN, Sq, cellQ]
theorem set_Sq1 (hp : p < S.length) {v : Int} : setEv (.ref p) (.int 1) (.int v) (Sq S p q) = some (Sq S p ⟨q.a, v, q.c⟩) := by
  simp only [setEv, Sq_at hp, cellQ]
  simp [L2.ixN, Sq, cellQ]
theorem set_Sq2 (hp : p < S.length) {v : Int} : setEv (.ref p) (.int 2) (.int v) (Sq S p q) = some (Sq S p ⟨q.a, q.b, v⟩) := by
  simp only [setEv, Sq_at hp, cellQ]
  simp [L2.ixN, Sq, cellQ]
def cfPick : CF := ⟨2, 4, (.seq (.set (.var 0) (.con (.int 2)) (.bin .add (.idx (.var 0) (.con (.int 2))) (.con (.int 1)))) (.seq (.asg (.nm 2) (.bin .mod (.idx (.var 0) (.con (.int 0))) (.con (.int 999999893)))) (.seq (.set (.var 0) (.con (.int 0)) (.bin .add (.bin .mul (.var 2) (.bin .add (.bin .mod (.var 2) (.con (.int 40009))) (.con (.int 10007)))) (.bin .mul (.con (.int 80021)) (.idx (.var 0) (.con (.int 2)))))) (.seq (.ife (.cmp .gt (.idx (.var 0) (.con (.int 1))) (.con (.int 0))) (.seq (.asg (.nm 3) (.bin .mod (.idx (.var 0) (.con (.int 1))) (.var 1))) (.seq (.set (.var 0) (.con (.int 1)) (.bin .fdiv (.idx (.var 0) (.con (.int 1))) (.var 1))) (.ret (.var 3)))) .skip) (.ret (.bin .mod (.bin .fdiv (.bin .mod (.idx (.var 0) (.con (.int 0))) (.con (.int 999999893))) (.con (.int 16))) (.var 1)))))))⟩
def Mok (m : Int) : Prop := 0 < m ∧ m.natAbs.log2 < 9000
theorem mulOk_l {i j : Int} (h1 : -(2 ^ 64) < i) (h2 : i < 2 ^ 64) : MulOk i j := .inr (.inl ⟨h1, h2⟩)
theorem mulOk_r {i j : Int} (h1 : -(2 ^ 64) < j) (h2 : j < 2 ^ 64) : MulOk i j := .inr (.inr ⟨h1, h2⟩)
theorem pick_spec (h : P f = some cfPick) (hp : p < S.length) {m : Int} (hm : Mok m) : evF P (n + 1) f [.ref p, .int m] (Sq S p q) = .ok (.int (pkR m q)) (Sq S p (pkQ m q)) := by
  rw [evF_body h rfl (by decide)]
  have h1 : 0 ≤ q.a % 999999893 := Int.emod_nonneg _ (by decide)
  have h2 : q.a % 999999893 < 999999893 := Int.emod_lt_of_pos _ (by decide)
  have m1 : MulOk (q.a % 999999893) (q.a % 999999893 % 40009 + 10007) := mulOk_l (by omega) (by omega)
  have m2 : MulOk 80021 (q.c + 1) := mulOk_l (by decide) (by decide)
  have d1 : DivOk q.b m := hm
  have d2 : DivOk (pkA q % 999999893) 16 := ⟨by decide, by decide⟩
  unfold pkA at d2
  by_cases hb : 0 < q.b
  · simp [cfPick, idx_Sq hp, set_Sq0 hp, set_Sq1 hp, set_Sq2 hp, bin_mod_int (show (0 : Int) < 999999893 by decide), bin_mod_int (show (0 : Int) < 40009 by decide), bin_mul_int m1, bin_mul_int m2, bin_mod_int hm.1, bin_div_int d1, hb]
    rw [gc_same (by simp)]
    simp [pkR, pkQ, hb, pkA]
  · simp [cfPick, idx_Sq hp, set_Sq0 hp, set_Sq1 hp, set_Sq2 hp, bin_mod_int (show (0 : Int) < 999999893 by decide), bin_mod_int (show (0 : Int) < 40009 by decide), bin_mul_int m1, bin_mul_int m2, bin_mod_int hm.1, bin_div_int d2, hb]
    rw [gc_same (by simp)]
    simp [pkR, pkQ, hb, pkA]

theorem Sq_new {q : Q3} : S ++ [cellQ q] = Sq (S ++ [.gone]) S.length q := by simp [Sq]
def cfPurse : CF := ⟨1, 1, (.ret (.mlst (.cons (.bin .add (.bin .mul (.bin .mod (.var 0) (.con (.int 999999893))) (.con (.int 6007))) (.con (.int 2503))) (.cons (.idx (.lst (.cons (.con (.int 0)) (.cons (.var 0) .nil))) (.blt .int (.cons (.cmp .ge (.var 0) (.bin .pow (.con (.int 10)) (.con (.int 18)))) .nil))) (.cons (.con (.int 0)) .nil)))))⟩
theorem bin_pow_int {i j : Int} (h : 0 ≤ j ∧ j ≤ 1000000 ∧ i.natAbs < 2 ^ 64) : binEv .pow (.int i) (.int j) S = some (.int (i ^ j.toNat)) := by
  simp only [binEv, if_pos h]
@[simp] theorem blt_int_bl {b : Bool} : bltEv .int [.bl b] S = some (.int (if b then 1 else 0)) := rfl
theorem gc_ref {p : Nat} {S' : Store} : gc S (.ok (.ref p) S') = .ok (.ref p) S' := by simp [gc, noref]
theorem purse_spec (h : P f = some cfPurse) {c : Int} : ∃ q, evF P (n + 1) f [.int c] S = .ok (.ref S.length) (Sq (S ++ [.gone]) S.length q) := by
  rw [evF_body h rfl (by decide)]
  have m1 : MulOk (c % 999999893) 6007 := mulOk_r (by decide) (by decide)
  by_cases hc : (1000000000000000000 : Int) ≤ c
  · refine ⟨⟨c % 999999893 * 6007 + 2503, c, 0⟩, ?_⟩
    rw [← Sq_new]
    simp [cellQ, cfPurse, bin_mod_int (show (0 : Int) < 999999893 by decide), bin_mul_int m1, bin_pow_int (show 0 ≤ (18 : Int) ∧ (18 : Int) ≤ 1000000 ∧ (10 : Int).natAbs < 2 ^ 64 by decide), hc, gc_ref]
  · refine ⟨⟨c % 999999893 * 6007 + 2503, 0, 0⟩, ?_⟩
    rw [← Sq_new]
    simp [cellQ, cfPurse, bin_mod_int (show (0 : Int) < 999999893 by decide), bin_mul_int m1, bin_pow_int (show 0 ≤ (18 : Int) ∧ (18 : Int) ≤ 1000000 ∧ (10 : Int).natAbs < 2 ^ 64 by decide), hc, gc_ref]
def cfCell : CF := ⟨2, 4, (.seq (.ife (.cmp .lt (.var 1) (.blt .len (.cons (.var 0) .nil))) (.ret (.idx (.var 0) (.var 1))) .skip) (.seq (.asg (.nm 2) (.bin .mod (.bin .mul (.con (.int 70001)) (.bin .add (.bin .add (.bin .mul (.var 1) (.var 1)) (.bin .mul (.con (.int 11)) (.var 1))) (.con (.int 5)))) (.con (.int 1000000021)))) (.seq (.fr (.nm 3) (.one (.sl (.var 0) .nil (.one (.con (.int 4))))) (.asg (.nm 2) (.bin .mod (.bin .add (.bin .mul (.var 2) (.con (.int 20011))) (.var 3)) (.con (.int 1000000021))))) (.ret (.var 2)))))⟩
theorem at_fix {ds : List D} : (Wk.fix ds).At S = True := rfl
theorem cell_loop (F : Fn) (x y : Option D) (w : List D) : ∀ (ns : List Int) (s : Int) (z : Option D), ∃ s' z', forEv (run F (.asg (.nm 2) (.bin .mod (.bin .add (.bin .mul (.var 2) (.con (.int 20011))) (.var 3)) (.con (.int 1000000021))))) (.nm 3) (.fix w) (ns.map .int) [x, y, some (.int s), z] S = .nx [x, y, some (.int s'), z'] S
  | [], s, z => ⟨s, z, by simp [forEv, at_fix]⟩
  | n :: ns, s, z => by
    obtain ⟨s', z', e⟩ := cell_loop F x y w ns ((s * 20011 + n) % 1000000021) (some (.int n))
    refine ⟨s', z', ?_⟩
    have m1 : MulOk s 20011 := mulOk_r (by decide) (by decide)
    simp [forEv, at_fix, bin_mul_int m1, bin_mod_int (show (0 : Int) < 1000000021 by decide)]
    exact e
@[simp] theorem sl_scr {ds : List D} {lo hi : Option Int} : slEv (.scr ds) lo hi S = some (.lst (cutD ds lo hi)) := rfl
@[simp] theorem sl_tup {ds : List D} {lo hi : Option Int} : slEv (.tup ds) lo hi S = some (.tup (cutD ds lo hi)) := rfl
@[simp] theorem sl_lst {ds : List D} {lo hi : Option Int} : slEv (.lst ds) lo hi S = some (.lst (cutD ds lo hi)) := rfl
@[simp] theorem walk_lst' {ds : List D} : walkSeq S (.lst ds) = some (.fix ds) := rfl
@[simp] theorem walk_tup' {ds : List D} : walkSeq S (.tup ds) = some (.fix ds) := rfl
theorem cut_map {ns : List Int} {lo hi : Option Int} : ∃ ms : List Int, cutD (ns.map D.int) lo hi = ms.map D.int := ⟨(ns.drop (HT.sIx (ns.map D.int).length 0 lo)).take (HT.sIx (ns.map D.int).length (ns.map D.int).length hi - HT.sIx (ns.map D.int).length 0 lo), by unfold cutD; rw [List.map_take, List.map_drop]⟩
theorem cell_spec (h : P f = some cfCell) {ns : List Int} {i : Int} (h0 : 0 ≤ i) (h1 : i < 2 ^ 60) : ∃ c, evF P (n + 1) f [.scr (ns.map .int), .int i] S = .ok (.int c) S := by
  rw [evF_body h rfl (by decide)]
  by_cases hl : i < (ns.length : Int)
  · obtain ⟨x, hx⟩ : ∃ x, ns[i.toNat]? = some x := ⟨_, List.getElem?_eq_getElem (by omega)⟩
    refine ⟨x, ?_⟩
    simp [cfCell, hl, atI_of h0, hx]
  · obtain ⟨ms, hm⟩ := cut_map (ns := ns) (lo := none) (hi := some 4)
    have m1 : MulOk i i := mulOk_l (by omega) (by omega)
    have m2 : MulOk 11 i := mulOk_l (by decide) (by decide)
    have m3 : MulOk 70001 (i * i + 11 * i + 5) := mulOk_l (by decide) (by decide)
    obtain ⟨s', z', e⟩ := cell_loop (S := S) (evF P n) (some (.scr (ns.map .int))) (some (.int i)) (ms.map .int) ms (70001 * (i * i + 11 * i + 5) % 1000000021) none
    refine ⟨s', ?_⟩
    simp [cfCell, hl, bin_mul_int m1, bin_mul_int m2, bin_mul_int m3, bin_mod_int (show (0 : Int) < 1000000021 by decide), hm, Wk.items, e]
end
end Z

/-! Z, part S: cables and leaks. -/
namespace Z
open PySem
def At (P : Nat → Option CF) (f k : Nat) (args : List D) (d : D) : Prop := ∀ (n : Nat) (S : Store), evF P (n + k) f args S = .ok d S
section
variable {P : Nat → Option CF} {n k k' f m l : Nat} {S : Store} {args : List D} {d : D} {a b : Rat}
theorem At.ex (h : At P f k args d) {m : Nat} (hm : k ≤ m) : evF P m f args S = .ok d S := by
  have := h (m - k) S
  rwa [Nat.sub_add_cancel hm] at this
theorem At.up (h : At P f k args d) (hk : k ≤ k') : At P f k' args d := fun n S => h.ex (by omega)
theorem At.of {cf : CF} (h : P f = some cf) (hl : args.length = cf.np) (hn : cf.np ≤ cf.ns) (hb : ∀ n S, (run (evF P (n + k)) cf.body (args.map some ++ List.replicate (cf.ns - cf.np) none) S).out = .ok d S) : At P f (k + 1) args d := fun n S => by
  rw [← Nat.add_assoc, evF_body h hl hn, hb, gc_id]
theorem comp_map {α : Type} {F : Fn} {elt : CE} {tg : CT} {w : List D} {δ : Env} {own : List Nat} {en g : α → D} (ψ : α → Env) : ∀ (xs : List α) (acc : List D), (∀ x ∈ xs, stepT tg (en x) (wipeD δ own) = some (ψ x)) → (∀ x ∈ xs, ev F elt (ψ x) S = .ok (g x) S) → acc.length + xs.length ≤ 1000 →
    compEv (ev F elt) (ev F (.con (.bl true))) tg (.fix w) δ own (xs.map en) acc S = .ok (acc ++ xs.map g) S
  | [], acc, _, _, _ => by simp [compEv, at_fix]
  | x :: xs, acc, h1, h2, hl => by
    have hz : acc.length < sizeLine := by rw [sizeLine_eq]; simp at hl; omega
    have ih := comp_map (F := F) (elt := elt) (tg := tg) (w := w) (δ := δ) (own := own) (en := en) (g := g) ψ xs (acc ++ [g x]) (fun y hy => h1 y (List.mem_cons_of_mem _ hy)) (fun y hy => h2 y (List.mem_cons_of_mem _ hy)) (by simp at hl ⊢; omega)
    rw [List.map_cons]
    simp only [compEv, at_fix, if_true, h1 x List.mem_cons_self, hz, ev_con', h2 x List.mem_cons_self]
    rw [ih]
    simp
theorem fr_int (i : Int) : fr (i : Rat) = .tup [.int i, .int 1] := by simp [fr]
theorem sz_int {i : Int} {m : Nat} (h : i.natAbs < 2 ^ m) (hm : 0 < m) : Sz m (i : Rat) := ⟨by simpa using h, by simpa using Nat.one_lt_two_pow (by omega)⟩
/-! the library's fractions, at levels -/
theorem low_at {f sh : Nat} (h : P f = some (cfLow sh)) (h2 : P sh = some cfShare) : LowAt P f 2 := fun n a b S hb hs => low_spec h h2 hb hs
theorem lawLow_at {f : Nat} (h : P f = some cfLawLow) : LowAt P f 2 := fun n a b S hb hs => law_low_spec (n := n + 1) h hb hs
theorem add_at {lo : Nat} (h : P f = some (cfAdd lo)) (L : LowAt P lo 2) (ha : Sz m a) (hb : Sz l b) (hs : m + l < 8000) : At P f 3 [fr a, fr b] (fr (a + b)) := fun n S => add_spec h L ha hb hs
theorem sub_at {lo : Nat} (h : P f = some (cfSub lo)) (L : LowAt P lo 2) (ha : Sz m a) (hb : Sz l b) (hs : m + l < 8000) : At P f 3 [fr a, fr b] (fr (a - b)) := fun n S => sub_spec h L ha hb hs
theorem mul_at {lo : Nat} (h : P f = some (cfMul lo)) (L : LowAt P lo 2) (ha : Sz m a) (hb : Sz l b) (hs : m + l < 8000) : At P f 3 [fr a, fr b] (fr (a * b)) := fun n S => mul_spec h L ha hb hs
theorem div_at {lo : Nat} (h : P f = some (cfDiv lo)) (L : LowAt P lo 2) (ha : Sz m a) (hb : Sz l b) (hz : b ≠ 0) (hs : m + l < 8000) : At P f 3 [fr a, fr b] (fr (a / b)) := fun n S => div_spec h L ha hb hz hs
theorem less_at (h : P f = some cfLess) (ha : Sz m a) (hb : Sz l b) (hs : m + l < 8000) : At P f 1 [fr a, fr b] (.bl (decide (a < b))) := fun n S => less_spec h ha hb hs
theorem isFr_at {wh sh : Nat} (h : P f = some (cfIsFr wh sh)) (h1 : P wh = some cfWhole) (h2 : P sh = some cfShare) : IsFrAt P f 2 := fun n a S => isFr_spec h h1 h2
theorem from0_at {q : Nat} (h : P f = some (cfFrom0 q)) (h1 : IsFrAt P q 2) : At P f 3 [fr a] (.bl (decide (0 ≤ a))) := fun n S => from0_spec h h1
theorem over0_at {q : Nat} (h : P f = some (cfOver0 q)) (h1 : IsFrAt P q 2) : At P f 3 [fr a] (.bl (decide (0 < a))) := fun n S => over0_spec h h1
/-! cables -/
abbrev Len := Int × Rat
abbrev Cable := List Len × Rat
def enL (x : Len) : D := .tup [.int x.1, fr x.2]
def enC (C : Cable) : D := .tup [.tup (C.1.map enL), fr C.2]
def Small (q : Rat) : Prop := q.num ≤ 999 ∧ (q.den : Int) ≤ 999
def LenOk (x : Len) : Prop := 1 ≤ x.1 ∧ x.1 ≤ 999 ∧ 0 < x.2 ∧ Small x.2
structure CbOk (C : Cable) : Prop where
  lo : 1 ≤ C.1.length
  hi : C.1.length ≤ 12
  len : ∀ x ∈ C.1, LenOk x
  back : 0 ≤ C.2
  small : Small C.2
def cfSmall : CF := ⟨1, 1, (.ret (.and (.cmp .le (.idx (.var 0) (.con (.int 0))) (.con (.int 999))) (.cmp .le (.idx (.var 0) (.con (.int 1))) (.con (.int 999)))))⟩
theorem small_at (h : P f = some cfSmall) (hs : Small a) : At P f 1 [fr a] (.bl true) := At.of (k := 0) h rfl (by decide) fun n S => by
  simp [cfSmall, fr, hs.1, hs.2]
def cfLength (wh ov sm : Nat) : CF := ⟨1, 1, (.seq (.ife (.or (.not (.isi (.var 0) .tup)) (.or (.cmp .ne (.blt .len (.cons (.var 0) .nil)) (.con (.int 2))) (.or (.not (.call wh (.cons (.idx (.var 0) (.con (.int 0))) .nil))) (.not (.chain .le .le (.con (.int 1)) (.idx (.var 0) (.con (.int 0))) (.con (.int 999))))))) (.ret (.con (.bl false))) .skip) (.ret (.and (.call ov (.cons (.idx (.var 0) (.con (.int 1))) .nil)) (.call sm (.cons (.idx (.var 0) (.con (.int 1))) .nil)))))⟩
theorem whole_at (h : P f = some cfWhole) {i : Int} : At P f 1 [.int i] (.bl true) := fun n S => whole_int h
theorem length_at {wh ov sm q sh : Nat} (h : P f = some (cfLength wh ov sm)) (h1 : P wh = some cfWhole) (h2 : P ov = some (cfOver0 q)) (h3 : IsFrAt P q 2) (h4 : P sm = some cfSmall) {x : Len} (hx : LenOk x) : At P f 4 [enL x] (.bl true) := At.of (k := 3) h rfl (by simp [cfLength]) fun n S => by
  have e1 := fun S => (whole_at h1 (i := x.1)).ex (S := S) (show 1 ≤ n + 3 by omega)
  have e2 := fun S => (over0_at (a := x.2) h2 h3).ex (S := S) (show 3 ≤ n + 3 by omega)
  have e3 := fun S => (small_at h4 hx.2.2.2).ex (S := S) (show 1 ≤ n + 3 by omega)
  simp [cfLength, enL, e1, e2, e3, hx.1, hx.2.1, hx.2.2.1]
def cfCable (ln f0 sm : Nat) : CF := ⟨1, 2, (.seq (.ife (.or (.not (.isi (.var 0) .tup)) (.or (.cmp .ne (.blt .len (.cons (.var 0) .nil)) (.con (.int 2))) (.not (.isi (.idx (.var 0) (.con (.int 0))) .tup)))) (.ret (.con (.bl false))) .skip) (.seq (.ife (.or (.not (.chain .le .le (.con (.int 1)) (.blt .len (.cons (.idx (.var 0) (.con (.int 0))) .nil)) (.con (.int 12)))) (.not (.blt .all (.cons (.comp (.call ln (.cons (.var 1) .nil)) (.nm 1) (.one (.idx (.var 0) (.con (.int 0)))) (.con (.bl true)) [1] false) .nil)))) (.ret (.con (.bl false))) .skip) (.ret (.and (.call f0 (.cons (.idx (.var 0) (.con (.int 1))) .nil)) (.call sm (.cons (.idx (.var 0) (.con (.int 1))) .nil))))))⟩
theorem all_map {α : Type} (g : α → Bool) (xs : List α) : bltEv .all [.lst (xs.map fun x => D.bl (g x))] S = some (.bl (xs.all g)) := by
  have := bls_map (xs.map g)
  rw [List.map_map] at this
  show (bls? _).map _ = _
  have e : (xs.map fun x => D.bl (g x)) = xs.map (D.bl ∘ g) := rfl
  rw [e, this]
  simp
theorem all_true {α : Type} (xs : List α) : bltEv .all [.lst (xs.map fun _ => D.bl true)] S = some (.bl true) := by
  rw [all_map (fun _ => true)]
  simp
theorem cable_at {ln f0 sm q : Nat} (h : P f = some (cfCable ln f0 sm)) (h1 : ∀ x : Len, LenOk x → At P ln 4 [enL x] (.bl true)) (h2 : P f0 = some (cfFrom0 q)) (h3 : IsFrAt P q 2) (h4 : P sm = some cfSmall) {C : Cable} (hC : CbOk C) : At P f 5 [enC C] (.bl true) := At.of (k := 4) h rfl (by simp [cfCable]) fun n S => by
  have e2 := fun S => (from0_at (a := C.2) h2 h3).ex (S := S) (show 3 ≤ n + 4 by omega)
  have e3 := fun S => (small_at h4 hC.small).ex (S := S) (show 1 ≤ n + 4 by omega)
  have hlo := hC.lo
  have hhi := hC.hi
  have ec := comp_map (F := evF P (n + 4)) (S := S) (elt := .call ln (.cons (.var 1) .nil)) (tg := .nm 1) (w := C.1.map enL) (δ := [some (enC C), none]) (own := [1]) (en := enL) (g := fun _ => D.bl true) (fun x => [some (enC C), some (enL x)]) C.1 []
    (fun x _ => by simp [wipeD]) (fun x hx => by simp [(h1 x (hC.len x hx)).ex (show 4 ≤ n + 4 by omega)]) (by simp; omega)
  rw [List.nil_append] at ec
  have hb := hC.back
  unfold enC at ec ⊢
  simp [cfCable, e2, e3, ec, Wk.items, all_true, -blt_all, hb, show (1 : Int) ≤ C.1.length by omega, show (C.1.length : Int) ≤ 12 by omega]

/-- a check that passes -/
def cfCheck (q : Nat) : CF := ⟨1, 1, .ife (.not (.call q (.cons (.var 0) .nil))) .never .skip⟩
def cfCheck2 (q : Nat) : CF := ⟨2, 2, .ife (.not (.call q (.cons (.var 0) (.cons (.var 1) .nil)))) .never .skip⟩
theorem check_at {q : Nat} (h : P f = some (cfCheck q)) {x : D} (h1 : At P q k [x] (.bl true)) : At P f (k + 1) [x] .non := At.of (k := k) h rfl (by simp [cfCheck]) fun n S => by
  simp [cfCheck, h1.ex (show k ≤ n + k by omega)]
theorem check2_at {q : Nat} (h : P f = some (cfCheck2 q)) {x y : D} (h1 : At P q k [x, y] (.bl true)) : At P f (k + 1) [x, y] .non := At.of (k := k) h rfl (by simp [cfCheck2]) fun n S => by
  simp [cfCheck2, h1.ex (show k ≤ n + k by omega)]
/-- all steps -/
def steps (C : Cable) : Int := (C.1.map (·.1)).sum
def cfSteps : CF := ⟨1, 3, (.ret (.blt .sum (.cons (.comp (.var 1) (.tp (.cons (.nm 1) (.cons (.nm 2) .nil))) (.one (.idx (.var 0) (.con (.int 0)))) (.con (.bl true)) [1, 2] false) .nil)))⟩
theorem sum_map {α : Type} (g : α → Int) (xs : List α) : bltEv .sum [.lst (xs.map fun x => D.int (g x))] S = some (.int (xs.map g).sum) := by
  have := ints_map (xs.map g)
  rw [List.map_map] at this
  show (ints? _).map _ = _
  have e : (xs.map fun x => D.int (g x)) = xs.map (D.int ∘ g) := rfl
  rw [e, this]
  rfl
theorem steps_at (h : P f = some cfSteps) {C : Cable} (hl : C.1.length ≤ 500) : At P f 1 [enC C] (.int (steps C)) := At.of (k := 0) h rfl (by decide) fun n S => by
  have ec := comp_map (F := evF P (n + 0)) (S := S) (elt := .var 1) (tg := .tp (.cons (.nm 1) (.cons (.nm 2) .nil))) (w := C.1.map enL) (δ := [some (enC C), none, none]) (own := [1, 2]) (en := enL) (g := fun x => D.int x.1) (fun x => [some (enC C), some (.int x.1), some (fr x.2)]) C.1 []
    (fun x _ => by simp [wipeD, enL]) (fun x hx => by simp) (by simp; omega)
  rw [List.nil_append] at ec
  unfold enC at ec ⊢
  simp only [Nat.add_zero] at ec
  simp [cfSteps, ec, Wk.items, sum_map, -blt_sum, steps]
theorem steps_pos : ∀ {xs : List Len}, (∀ x ∈ xs, LenOk x) → 0 ≤ (xs.map (·.1)).sum ∧ (xs.map (·.1)).sum ≤ 999 * xs.length
  | [], _ => by simp
  | x :: xs, h => by
    have ih := steps_pos fun y hy => h y (List.mem_cons_of_mem _ hy)
    have hx := h x List.mem_cons_self
    have h1 := hx.1
    have h2 := hx.2.1
    simp only [List.map_cons, List.sum_cons, List.length_cons]
    omega
theorem CbOk.st {C : Cable} (h : CbOk C) : 0 ≤ steps C ∧ steps C ≤ 11988 := by
  have := steps_pos h.len
  have := h.hi
  unfold steps
  omega
def cfPlace (f0 ls st : Nat) : CF := ⟨2, 2, (.ret (.and (.call f0 (.cons (.var 1) .nil)) (.not (.call ls (.cons (.tup (.cons (.call st (.cons (.var 0) .nil)) (.cons (.con (.int 1)) .nil))) (.cons (.var 1) .nil))))))⟩
theorem place_at {f0 ls st q : Nat} (h : P f = some (cfPlace f0 ls st)) (h2 : P f0 = some (cfFrom0 q)) (h3 : IsFrAt P q 2) (h4 : P ls = some cfLess) (h5 : P st = some cfSteps) {C : Cable} (hC : CbOk C) {p : Rat} (hp : 0 ≤ p) (hq : p ≤ (steps C : Int)) (hs : Sz m p) (hm : m < 7000) : At P f 4 [enC C, fr p] (.bl true) := At.of (k := 3) h rfl (by simp [cfPlace]) fun n S => by
  have hst := hC.st
  have e1 := fun S => (from0_at (a := p) h2 h3).ex (S := S) (show 3 ≤ n + 3 by omega)
  have e2 := fun S => (steps_at h5 (C := C) (by have := hC.hi; omega)).ex (S := S) (show 1 ≤ n + 3 by omega)
  have e3 := fun S => (less_at (a := ((steps C : Int) : Rat)) (b := p) h4 (sz_int (m := 14) (by omega) (by decide)) hs (by omega)).ex (S := S) (show 1 ≤ n + 3 by omega)
  rw [fr_int] at e3
  have e4 : decide (((steps C : Int) : Rat) < p) = false := decide_eq_false (Rat.not_lt.mpr hq)
  rw [e4] at e3
  simp [cfPlace, e1, e2, e3, hp]
/-! leaks -/
abbrev Leak := Rat × Rat
def enK (x : Leak) : D := .tup [fr x.1, fr x.2]
def enKs (xs : List Leak) : D := .tup (xs.map enK)
structure LkOk (m : Nat) (C : Cable) (x : Leak) : Prop where
  lo : 0 ≤ x.1
  hi : x.1 ≤ (steps C : Int)
  drag : 0 < x.2
  s1 : Sz m x.1
  s2 : Sz m x.2
def cfLeak (pl ov : Nat) : CF := ⟨2, 2, (.ret (.and (.isi (.var 1) .tup) (.and (.cmp .eq (.blt .len (.cons (.var 1) .nil)) (.con (.int 2))) (.and (.call pl (.cons (.var 0) (.cons (.idx (.var 1) (.con (.int 0))) .nil))) (.call ov (.cons (.idx (.var 1) (.con (.int 1))) .nil))))))⟩
theorem leak_at {pl ov q : Nat} (h : P f = some (cfLeak pl ov)) {C : Cable} {x : Leak} (h1 : At P pl 4 [enC C, fr x.1] (.bl true)) (h2 : P ov = some (cfOver0 q)) (h3 : IsFrAt P q 2) (hd : 0 < x.2) : At P f 5 [enC C, enK x] (.bl true) := At.of (k := 4) h rfl (by simp [cfLeak]) fun n S => by
  have e1 := fun S => h1.ex (S := S) (show 4 ≤ n + 4 by omega)
  have e2 := fun S => (over0_at (a := x.2) h2 h3).ex (S := S) (show 3 ≤ n + 4 by omega)
  simp [cfLeak, enK, e1, e2, hd]
def cfLeaks (lk ls : Nat) : CF := ⟨2, 4, (.seq (.ife (.or (.not (.isi (.var 1) .tup)) (.or (.cmp .gt (.blt .len (.cons (.var 1) .nil)) (.con (.int 6))) (.not (.blt .all (.cons (.comp (.call lk (.cons (.var 0) (.cons (.var 2) .nil))) (.nm 2) (.one (.var 1)) (.con (.bl true)) [2] false) .nil))))) (.ret (.con (.bl false))) .skip) (.ret (.blt .all (.cons (.comp (.call ls (.cons (.idx (.idx (.var 1) (.var 3)) (.con (.int 0))) (.cons (.idx (.idx (.var 1) (.bin .add (.var 3) (.con (.int 1)))) (.con (.int 0))) .nil))) (.nm 3) (.rng (.con (.int 0)) (.bin .sub (.blt .len (.cons (.var 1) .nil)) (.con (.int 1)))) (.con (.bl true)) [3] false) .nil))))⟩
structure KsOk (m : Nat) (C : Cable) (xs : List Leak) : Prop where
  len : xs.length ≤ 6
  each : ∀ x ∈ xs, LkOk m C x
  up : xs.Pairwise fun x y => x.1 < y.1
theorem leaks_at {lk ls : Nat} (h : P f = some (cfLeaks lk ls)) (h4 : P ls = some cfLess) {C : Cable} {xs : List Leak} (hK : KsOk m C xs) (hm : m < 3900) (h1 : ∀ x ∈ xs, At P lk 5 [enC C, enK x] (.bl true)) : At P f 6 [enC C, enKs xs] (.bl true) := At.of (k := 5) h rfl (by simp [cfLeaks]) fun n S => by
  have hlen := hK.len
  have ec := comp_map (F := evF P (n + 5)) (S := S) (elt := .call lk (.cons (.var 0) (.cons (.var 2) .nil))) (tg := .nm 2) (w := xs.map enK) (δ := [some (enC C), some (enKs xs), none, none]) (own := [2]) (en := enK) (g := fun _ => D.bl true) (fun x => [some (enC C), some (enKs xs), some (enK x), none]) xs []
    (fun x _ => by simp [wipeD]) (fun x hx => by simp [(h1 x hx).ex (show 5 ≤ n + 5 by omega)]) (by simp; omega)
  have ed := comp_map (F := evF P (n + 5)) (S := S) (elt := .call ls (.cons (.idx (.idx (.var 1) (.var 3)) (.con (.int 0))) (.cons (.idx (.idx (.var 1) (.bin .add (.var 3) (.con (.int 1)))) (.con (.int 0))) .nil))) (tg := .nm 3) (w := rngD 0 (xs.length - 1)) (δ := [some (enC C), some (enKs xs), none, none]) (own := [3])
    (en := fun k : Nat => D.int (0 + (k : Int))) (g := fun _ => D.bl true) (fun k => [some (enC C), some (enKs xs), none, some (.int (0 + (k : Int)))]) (List.range ((xs.length : Int) - 1 - 0).toNat) []
    (fun x _ => by simp [wipeD]) (fun k hk => by
      have hk := List.mem_range.mp hk
      have k1 : k < xs.length := by omega
      have k2 : k + 1 < xs.length := by omega
      have g1 : L2.atI (xs.map enK) (k : Int) = some (enK xs[k]) := by rw [atI_of (by omega)]; simp [k1]
      have g2 : L2.atI (xs.map enK) ((k : Int) + 1) = some (enK xs[k + 1]) := by
        rw [atI_of (by omega), show ((k : Int) + 1).toNat = k + 1 by omega]; simp [k2]
      have o1 := hK.each xs[k] (List.getElem_mem k1)
      have o2 := hK.each xs[k + 1] (List.getElem_mem k2)
      have lt : xs[k].1 < xs[k + 1].1 := List.pairwise_iff_getElem.mp hK.up k (k + 1) k1 k2 (by omega)
      have e := (less_at (a := xs[k].1) (b := xs[k + 1].1) h4 o1.s1 o2.s1 (by omega)).ex (S := S) (show 1 ≤ n + 5 by omega)
      rw [decide_eq_true lt] at e
      simp [enKs, g1, g2]
      unfold enK
      simp [e]) (by simp; omega)
  rw [List.nil_append] at ec ed
  have s1 : small62 0 := ⟨by decide, by decide⟩
  have s2 : small62 ((xs.length : Int) - 1) := ⟨by omega, by omega⟩
  have hr : rngD 0 ((xs.length : Int) - 1) = (List.range ((xs.length : Int) - 1 - 0).toNat).map fun k : Nat => D.int (0 + (k : Int)) := rfl
  unfold enKs at ec ed ⊢
  simp only [hr] at ed
  have h6 : ¬ (6 < (xs.length : Int)) := by omega
  simp [cfLeaks, ec, Wk.items, all_true, -blt_all, h6, s1, s2, hr]
  simp at ed
  simp [ed, all_true, -blt_all]
end
end Z

/-! Z, part T: what the laws draw. -/
namespace Z
open PySem
section
variable {P : Nat → Option CF} {n k k' f pk m l : Nat} {S : Store} {p : Nat} {q : Q3}
theorem mok_small {m : Int} (h : 0 < m) (h2 : m < 2 ^ 64) : Mok m := ⟨h, by
  have : m.natAbs < 2 ^ 64 := by omega
  have := log2_lt_of this
  omega⟩
theorem pick_ex (h : P pk = some cfPick) (hk : 1 ≤ k) (hp : p < S.length) (q : Q3) {m : Int} (hm : 0 < m) (hm2 : m < 2 ^ 64) : ∃ r q', evF P k pk [.ref p, .int m] (Sq S p q) = .ok (.int r) (Sq S p q') ∧ 0 ≤ r ∧ r < m := by
  obtain ⟨j, rfl⟩ : ∃ j, k = j + 1 := ⟨k - 1, by omega⟩
  exact ⟨_, _, pick_spec h hp (mok_small hm hm2), pkR_nonneg hm, pkR_lt hm⟩
/-- one of a list's -/
theorem at_sel {l : List Int} {r : Int} (h0 : 0 ≤ r) (h1 : r < l.length) : ∃ x ∈ l, L2.atI (l.map D.int) r = some (.int x) := by
  have hl : r.toNat < l.length := by omega
  refine ⟨l[r.toNat], List.getElem_mem hl, ?_⟩
  rw [atI_of h0]
  simp [hl]
theorem sIx_nat {n d : Nat} {v : Int} (h : 0 ≤ v) : HT.sIx n d (some v) = min v.toNat n := by
  show (if v < 0 then _ else _) = _
  rw [if_neg (by omega)]
theorem cut_take {xs : List D} {v : Int} (h : 0 ≤ v) : cutD xs none (some v) = xs.take v.toNat := by
  unfold cutD
  rw [sIx_nat h]
  show (xs.drop 0).take (min v.toNat xs.length - 0) = _
  rw [List.drop_zero, Nat.sub_zero]
  by_cases hl : v.toNat ≤ xs.length
  · rw [Nat.min_eq_left hl]
  · rw [Nat.min_eq_right (by omega), List.take_length, List.take_of_length_le (by omega)]
theorem cut_drop {xs : List D} {v : Int} (h : 0 ≤ v) : cutD xs (some v) none = xs.drop v.toNat := by
  unfold cutD
  rw [sIx_nat h]
  show (xs.drop (min v.toNat xs.length)).take (xs.length - min v.toNat xs.length) = _
  by_cases hl : v.toNat ≤ xs.length
  · rw [Nat.min_eq_left hl, List.take_of_length_le (by simp)]
  · rw [Nat.min_eq_right (by omega), List.drop_length, List.drop_eq_nil_of_le (by omega)]
    simp
theorem bin_add_tup {xs ys : List D} (h : xs.length + ys.length ≤ 1000) : binEv .add (.tup xs) (.tup ys) S = some (.tup (xs ++ ys)) := by
  have : xs.length + ys.length ≤ sizeLine := by rw [sizeLine_eq]; omega
  simp only [binEv, addEv, if_pos this]
def cfSixths (pk : Nat) : CF := ⟨2, 5, (.seq (.asg (.nm 2) (.comp (.idx (.var 4) (.con (.int 0))) (.nm 4) (.one (.idx (.var 1) (.con (.int 0)))) (.con (.bl true)) [4] false)) (.seq (.asg (.nm 3) (.call pk (.cons (.var 0) (.cons (.con (.int 5)) .nil)))) (.seq (.ife (.cmp .eq (.var 3) (.con (.int 0))) (.ret (.bin .mul (.bin .mul (.con (.int 6)) (.blt .sum (.cons (.var 2) .nil))) (.call pk (.cons (.var 0) (.cons (.con (.int 2)) .nil))))) .skip) (.seq (.ife (.cmp .eq (.var 3) (.con (.int 1))) (.ret (.bin .mul (.con (.int 6)) (.blt .sum (.cons (.sl (.var 2) .nil (.one (.call pk (.cons (.var 0) (.cons (.bin .add (.blt .len (.cons (.var 2) .nil)) (.con (.int 1))) .nil))))) .nil)))) .skip) (.ret (.call pk (.cons (.var 0) (.cons (.bin .add (.bin .mul (.con (.int 6)) (.blt .sum (.cons (.var 2) .nil))) (.con (.int 1))) .nil))))))))⟩
theorem sum_take : ∀ {xs : List Len} (j : Nat), (∀ x ∈ xs, LenOk x) → 0 ≤ ((xs.take j).map (·.1)).sum ∧ ((xs.take j).map (·.1)).sum ≤ (xs.map (·.1)).sum
  | [], j, _ => by simp
  | x :: xs, 0, h => by
    have := steps_pos h
    simpa using this.1
  | x :: xs, j + 1, h => by
    have ih := sum_take j fun y hy => h y (List.mem_cons_of_mem _ hy)
    have hx := (h x List.mem_cons_self).1
    simp only [List.take_succ_cons, List.map_cons, List.sum_cons]
    omega
theorem steps_comp {F : Fn} {δ : Env} {own : List Nat} {C : Cable} (hl : C.1.length ≤ 500) {i : Nat} {w : List D} (hi : ∀ x : Len, stepT (.nm i) (enL x) (wipeD δ own) = some ((wipeD δ own).set i (some (enL x)))) (hv : ∀ x : Len, ((wipeD δ own).set i (some (enL x)))[i]? = some (some (enL x))) :
    compEv (ev F (.idx (.var i) (.con (.int 0)))) (ev F (.con (.bl true))) (.nm i) (.fix w) δ own (C.1.map enL) [] S = .ok (C.1.map fun x => .int x.1) S := by
  have ec := comp_map (F := F) (S := S) (elt := .idx (.var i) (.con (.int 0))) (tg := .nm i) (w := w) (δ := δ) (own := own) (en := enL) (g := fun x => D.int x.1) (fun x => (wipeD δ own).set i (some (enL x))) C.1 []
    (fun x _ => hi x) (fun x hx => by simp only [ev_idx, ev_var, hv]; simp [enL]) (by simp; omega)
  simpa using ec
theorem sixths_ex (h : P f = some (cfSixths pk)) (hpk : P pk = some cfPick) (hk : 2 ≤ k) (hp : p < S.length) (q : Q3) {C : Cable} (hC : CbOk C) : ∃ r q', evF P k f [.ref p, enC C] (Sq S p q) = .ok (.int r) (Sq S p q') ∧ 0 ≤ r ∧ r ≤ 6 * steps C := by
  obtain ⟨j, rfl⟩ : ∃ j, k = j + 1 := ⟨k - 1, by omega⟩
  rw [evF_body h rfl (by simp [cfSixths])]
  have hj : 1 ≤ j := by omega
  have hst := hC.st
  have hhi := hC.hi
  obtain ⟨r1, q1, e1, l1, u1⟩ := pick_ex hpk hj hp q (m := 5) (by decide) (by decide)
  have ec := steps_comp (F := evF P j) (S := Sq S p q) (C := C) (δ := [some (.ref p), some (.tup [.tup (C.1.map enL), fr C.2]), none, none, none]) (own := [4]) (i := 4) (w := C.1.map enL) (by omega) (fun x => by simp [wipeD]) (fun x => by simp [wipeD])
  have m6 : MulOk 6 (steps C) := mulOk_l (by decide) (by decide)
  have hsum : bltEv .sum [.lst (C.1.map fun x => D.int x.1)] (Sq S p q1) = some (.int (steps C)) := sum_map _ _
  by_cases h0 : r1 = 0
  · subst h0
    obtain ⟨r2, q2, e2, l2, u2⟩ := pick_ex hpk hj hp q1 (m := 2) (by decide) (by decide)
    have m7 : MulOk (6 * steps C) r2 := mulOk_r (by omega) (by omega)
    refine ⟨6 * steps C * r2, q2, ?_, ?_, ?_⟩
    · unfold enC
      simp [cfSixths, Wk.items, ec, e1, hsum, -blt_sum, bin_mul_int m6, e2, bin_mul_int m7]
      rw [gc_same (by simp)]
    · exact Int.mul_nonneg (by omega) l2
    · have : r2 = 0 ∨ r2 = 1 := by omega
      rcases this with h | h <;> subst h <;> omega
  · have b0 : (r1 == 0) = false := by simpa using h0
    by_cases h1 : r1 = 1
    · subst h1
      obtain ⟨r2, q2, e2, l2, u2⟩ := pick_ex hpk hj hp q1 (m := C.1.length + 1) (by omega) (by omega)
      have hs2 : bltEv .sum [.lst ((C.1.take r2.toNat).map fun x => D.int x.1)] (Sq S p q2) = some (.int (((C.1.take r2.toNat).map (·.1)).sum)) := sum_map _ _
      have st := sum_take r2.toNat hC.len
      have m7 : MulOk 6 (((C.1.take r2.toNat).map (·.1)).sum) := mulOk_l (by decide) (by decide)
      refine ⟨6 * ((C.1.take r2.toNat).map (·.1)).sum, q2, ?_, by omega, by unfold steps; omega⟩
      unfold enC
      simp only [List.map_take] at hs2 m7 ⊢
      simp [cfSixths, Wk.items, ec, e1, e2, cut_take l2, hs2, -blt_sum, bin_mul_int m7]
      rw [gc_same (by simp)]
    · have b1 : (r1 == 1) = false := by simpa using h1
      obtain ⟨r2, q2, e2, l2, u2⟩ := pick_ex hpk hj hp q1 (m := 6 * steps C + 1) (by omega) (by omega)
      refine ⟨r2, q2, ?_, l2, by omega⟩
      unfold enC
      simp [cfSixths, Wk.items, ec, e1, b0, b1, hsum, -blt_sum, bin_mul_int m6, e2]
      rw [gc_same (by simp)]
end
end Z

/-! Z, part U: lengths, backs, leaks that a law draws. -/
namespace Z
open PySem
section
variable {P : Nat → Option CF} {n k k' f pk lo m l : Nat} {S : Store} {p : Nat} {q : Q3}
mutual
theorem noref_ok : ∀ {n : Nat} {d : D}, okD n d = true → noref d = true
  | _, .non, _ => by unfold noref; rfl
  | _, .bl _, _ => by unfold noref; rfl
  | _, .int _, _ => by unfold noref; rfl
  | _, .str _, _ => by unfold noref; rfl
  | n + 1, .tup ds, h => by unfold okD at h; unfold noref; exact norefs_ok h
  | n + 1, .lst ds, h => by unfold okD at h; unfold noref; exact norefs_ok h
  | 0, .tup ds, h => by unfold okD at h; cases h
  | 0, .lst ds, h => by unfold okD at h; cases h
  | _, .scr _, h => by unfold okD at h; cases h
  | _, .edic, h => by unfold okD at h; cases h
  | _, .ref _, h => by unfold okD at h; cases h
  | _, .exc _ _, h => by unfold okD at h; cases h
theorem norefs_ok : ∀ {n : Nat} {ds : List D}, okDs n ds = true → norefs ds = true
  | _, [], _ => by unfold norefs; rfl
  | n, d :: ds, h => by
    unfold okDs at h
    obtain ⟨h1, h2⟩ := ands h
    unfold norefs
    rw [noref_ok h1, norefs_ok h2]
    rfl
end
theorem ok_L (n : Nat) (x : Len) : okD (n + 2) (enL x) = true := ok_tup fun d hd => by
  rcases List.mem_cons.mp hd with e | hd
  · subst e; rfl
  · rw [List.mem_singleton.mp hd]; exact ok_fr n _
theorem ok_Ls (n : Nat) (xs : List Len) : okD (n + 3) (.tup (xs.map enL)) = true := ok_tup fun d hd => by
  obtain ⟨x, _, rfl⟩ := List.mem_map.mp hd
  exact ok_L n x
theorem ok_C (n : Nat) (C : Cable) : okD (n + 4) (enC C) = true := ok_tup fun d hd => by
  rcases List.mem_cons.mp hd with e | hd
  · subst e; exact ok_Ls n _
  · rw [List.mem_singleton.mp hd]; exact ok_fr (n + 2) _
theorem ok_K (n : Nat) (x : Leak) : okD (n + 2) (enK x) = true := ok_tup fun d hd => by
  rcases List.mem_cons.mp hd with e | hd
  · subst e; exact ok_fr n _
  · rw [List.mem_singleton.mp hd]; exact ok_fr n _
theorem ok_Ks (n : Nat) (xs : List Leak) : okD (n + 3) (enKs xs) = true := ok_tup fun d hd => by
  obtain ⟨x, _, rfl⟩ := List.mem_map.mp hd
  exact ok_K n x
/-! a purse and a cell behind -/
theorem Sq_app {c : Cell} (hp : p < S.length) : Sq S p q ++ [c] = Sq (S ++ [c]) p q := by simp [Sq, hp]
theorem Sq_last {c : Cell} (hp : p < S.length) : (Sq (S ++ [c]) p q)[S.length]? = some c := by
  unfold Sq
  rw [List.getElem?_set_ne (by omega)]
  simp
theorem Sq_setLast {c c' : Cell} (hp : p < S.length) : (Sq (S ++ [c]) p q).set S.length c' = Sq (S ++ [c']) p q := by
  unfold Sq
  rw [List.set_comm _ _ (by omega)]
  simp
theorem noref_cellQ (q : Q3) : (cellQ q).noref = true := by simp [cellQ, Cell.noref, norefs, noref]
theorem gc_sq {d : D} {T : Store} {q' : Q3} (hp : p < S.length) (hd : noref d = true) : gc (Sq S p q) (.ok d (Sq (S ++ T) p q')) = .ok d (Sq S p q') := by
  have hk : Keep (Sq S p q) (Sq (S ++ T) p q') := by
    refine ⟨by simp, fun i hi => ?_⟩
    rw [Sq_len] at hi
    unfold Sq
    by_cases e : p = i
    · subst e
      exact .inr ⟨cellQ q', by rw [List.getElem?_set_self (by simp; omega)], noref_cellQ q'⟩
    · refine .inl ?_
      rw [List.getElem?_set_ne e, List.getElem?_set_ne e, List.getElem?_append_left hi]
  simp only [gc, if_pos (And.intro hk hd)]
  congr 1
  unfold Sq
  rw [List.length_set, List.take_set, List.take_left']
  rfl
theorem len_hi (hp : p < S.length) (c : Cell) : p < (S ++ [c]).length := by simp; omega
/-! fractions that are drawn -/
theorem small_div {a b : Int} (h0 : 0 ≤ a) (h1 : a ≤ 999) (hb : 0 < b) (h2 : b ≤ 999) : Small ((a : Rat) / (b : Rat)) := by
  obtain ⟨e1, e2⟩ := low_num (a := a) hb
  unfold Small
  rw [e1, e2]
  exact ⟨Int.le_trans (Int.ediv_le_self _ h0) h1, Int.le_trans (Int.ediv_le_self _ (by omega)) h2⟩
theorem div_pos' {a b : Int} (ha : 0 < a) (hb : 0 < b) : (0 : Rat) < (a : Rat) / (b : Rat) := by
  have h := Rat.num_nonneg (q := (a : Rat) / (b : Rat))
  obtain ⟨e1, e2⟩ := low_num (a := a) hb
  have hg : (Int.gcd a b : Int) ≤ a := Int.gcd_le_left b ha
  have hg0 : 0 < (Int.gcd a b : Int) := by
    have := Int.gcd_pos_iff.mpr (Or.inr (show b ≠ 0 by omega) : a ≠ 0 ∨ b ≠ 0)
    omega
  have h1 : 0 < ((a : Rat) / (b : Rat)).num := by
    rw [e1]
    exact Int.ediv_pos_of_pos_of_dvd ha (by omega) (Int.gcd_dvd_left ..)
  refine Rat.lt_of_le_of_ne (h.mp (by omega)) fun e => ?_
  rw [← e] at h1
  exact absurd h1 (by decide)
theorem div_nonneg' {a b : Int} (ha : 0 ≤ a) (hb : 0 < b) : (0 : Rat) ≤ (a : Rat) / (b : Rat) := by
  refine Rat.num_nonneg.mp ?_
  rw [(low_num (a := a) hb).1]
  exact Int.ediv_nonneg ha (by omega)
theorem LowAt.ex {lo : Nat} (L : LowAt P lo 2) (hk : 2 ≤ k) {a b : Int} (hb : 0 < b) (hs : b < 2 ^ 64) : evF P k lo [.int a, .int b] S = .ok (fr ((a : Rat) / (b : Rat))) S := by
  have := L (k - 2) a b S (by omega) (by
    have : b.natAbs < 2 ^ 64 := by omega
    have := log2_lt_of this
    omega)
  rwa [Nat.sub_add_cancel hk] at this
/-- back -/
def cfBack (pk lo : Nat) : CF := ⟨1, 2, (.seq (.asg (.nm 1) (.call pk (.cons (.var 0) (.cons (.idx (.lst (.cons (.con (.int 30)) (.cons (.con (.int 1000)) .nil))) (.call pk (.cons (.var 0) (.cons (.con (.int 2)) .nil)))) .nil)))) (.ret (.call lo (.cons (.var 1) (.cons (.bin .add (.con (.int 1)) (.call pk (.cons (.var 0) (.cons (.idx (.lst (.cons (.con (.int 3)) (.cons (.con (.int 999)) .nil))) (.call pk (.cons (.var 0) (.cons (.con (.int 2)) .nil)))) .nil)))) .nil)))))⟩
theorem back_ex (h : P f = some (cfBack pk lo)) (hpk : P pk = some cfPick) (L : LowAt P lo 2) (hk : 3 ≤ k) (hp : p < S.length) (q : Q3) : ∃ (b : Rat) (q' : Q3), evF P k f [.ref p] (Sq S p q) = .ok (fr b) (Sq S p q') ∧ 0 ≤ b ∧ Small b := by
  obtain ⟨j, rfl⟩ : ∃ j, k = j + 1 := ⟨k - 1, by omega⟩
  rw [evF_body h rfl (by simp [cfBack])]
  have hj : 1 ≤ j := by omega
  obtain ⟨r1, q1, e1, l1, u1⟩ := pick_ex hpk hj hp q (m := 2) (by decide) (by decide)
  obtain ⟨x, hx, s1⟩ := at_sel (l := [30, 1000]) l1 u1
  have bx : 0 < x ∧ x ≤ 1000 := by simp at hx; omega
  obtain ⟨r2, q2, e2, l2, u2⟩ := pick_ex hpk hj hp q1 (m := x) bx.1 (by omega)
  obtain ⟨r3, q3, e3, l3, u3⟩ := pick_ex hpk hj hp q2 (m := 2) (by decide) (by decide)
  obtain ⟨y, hy, s2⟩ := at_sel (l := [3, 999]) l3 u3
  have by' : 0 < y ∧ y ≤ 999 := by simp at hy; omega
  obtain ⟨r4, q4, e4, l4, u4⟩ := pick_ex hpk hj hp q3 (m := y) by'.1 (by omega)
  have e5 := L.ex (S := Sq S p q4) (k := j) (by omega) (a := r2) (b := 1 + r4) (by omega) (by omega)
  simp only [List.map_cons, List.map_nil] at s1 s2
  refine ⟨_, q4, ?_, div_nonneg' l2 (show 0 < 1 + r4 by omega), small_div l2 (by omega) (show 0 < 1 + r4 by omega) (by omega)⟩
  simp [cfBack, e1, s1, e2, e3, s2, e4, e5]
  rw [gc_same (by simp)]
/-- lengths -/
def cfSomeBody (pk lo : Nat) : CS := (.seq (.asg (.nm 4) (.bin .add (.con (.int 1)) (.call pk (.cons (.var 0) (.cons (.idx (.lst (.cons (.con (.int 9)) (.cons (.con (.int 40)) (.cons (.con (.int 999)) .nil)))) (.call pk (.cons (.var 0) (.cons (.con (.int 3)) .nil)))) .nil))))) (.seq (.asg (.nm 5) (.bin .add (.con (.int 1)) (.call pk (.cons (.var 0) (.cons (.idx (.lst (.cons (.con (.int 9)) (.cons (.con (.int 999)) .nil))) (.call pk (.cons (.var 0) (.cons (.con (.int 2)) .nil)))) .nil))))) (.seq (.asg (.nm 6) (.bin .add (.con (.int 1)) (.call pk (.cons (.var 0) (.cons (.idx (.lst (.cons (.con (.int 3)) (.cons (.con (.int 999)) .nil))) (.call pk (.cons (.var 0) (.cons (.con (.int 2)) .nil)))) .nil))))) (.expr (.mth .append (.var 2) (.cons (.tup (.cons (.var 4) (.cons (.call lo (.cons (.var 5) (.cons (.var 6) .nil))) .nil))) .nil))))))
def cfSome (pk lo : Nat) : CF := ⟨2, 7, (.seq (.asg (.nm 2) (.mlst .nil)) (.seq (.fr (.nm 3) (.rng (.con (.int 0)) (.var 1)) (cfSomeBody pk lo)) (.ret (.blt .tuple (.cons (.var 2) .nil)))))⟩
theorem app_Sq {ds : List D} {y : D} (hp : p < S.length) (hl : ds.length < 1000) : mthEv .append (.ref S.length) [y] (Sq (S ++ [.lst ds]) p q) = some (.non, Sq (S ++ [.lst (ds ++ [y])]) p q) := by
  have : ds.length < sizeLine := by rw [sizeLine_eq]; omega
  simp only [mthEv, Sq_last hp, if_pos this, Sq_setLast hp]
theorem seqL_Sq {ds : List D} (hp : p < S.length) : seqL (Sq (S ++ [.lst ds]) p q) (.ref S.length) = some ds := by
  simp only [seqL, Sq_last hp]
theorem seqOf_Sq {ds : List D} (hp : p < S.length) : seqOf (Sq (S ++ [.lst ds]) p q) (.ref S.length) = some ds := by
  simp only [seqOf, Sq_last hp]
theorem some_body {j : Nat} (hpk : P pk = some cfPick) (L : LowAt P lo 2) (hj : 2 ≤ j) (hp : p < S.length) (q : Q3) (x1 x3 x4 x5 x6 : Option D) (xs : List Len) (hl : xs.length < 900) :
    ∃ (y4 y5 y6 : Option D) (x : Len) (q' : Q3), run (evF P j) (cfSomeBody pk lo) [some (.ref p), x1, some (.ref S.length), x3, x4, x5, x6] (Sq (S ++ [.lst (xs.map enL)]) p q) = .nx [some (.ref p), x1, some (.ref S.length), x3, y4, y5, y6] (Sq (S ++ [.lst ((xs ++ [x]).map enL)]) p q') ∧ LenOk x := by
  have hp' := len_hi hp (.lst (xs.map enL))
  have hj1 : 1 ≤ j := by omega
  obtain ⟨r1, q1, e1, l1, u1⟩ := pick_ex hpk hj1 hp' q (m := 3) (by decide) (by decide)
  obtain ⟨a, ha, s1⟩ := at_sel (l := [9, 40, 999]) l1 u1
  have ba : 0 < a ∧ a ≤ 999 := by simp at ha; omega
  obtain ⟨r2, q2, e2, l2, u2⟩ := pick_ex hpk hj1 hp' q1 (m := a) ba.1 (by omega)
  obtain ⟨r3, q3, e3, l3, u3⟩ := pick_ex hpk hj1 hp' q2 (m := 2) (by decide) (by decide)
  obtain ⟨b, hb, s2⟩ := at_sel (l := [9, 999]) l3 u3
  have bb : 0 < b ∧ b ≤ 999 := by simp at hb; omega
  obtain ⟨r4, q4, e4, l4, u4⟩ := pick_ex hpk hj1 hp' q3 (m := b) bb.1 (by omega)
  obtain ⟨r5, q5, e5, l5, u5⟩ := pick_ex hpk hj1 hp' q4 (m := 2) (by decide) (by decide)
  obtain ⟨c, hc, s3⟩ := at_sel (l := [3, 999]) l5 u5
  have bc : 0 < c ∧ c ≤ 999 := by simp at hc; omega
  obtain ⟨r6, q6, e6, l6, u6⟩ := pick_ex hpk hj1 hp' q5 (m := c) bc.1 (by omega)
  have e7 := L.ex (S := Sq (S ++ [.lst (xs.map enL)]) p q6) (k := j) hj (a := 1 + r4) (b := 1 + r6) (by omega) (by omega)
  simp only [List.map_cons, List.map_nil] at s1 s2 s3
  refine ⟨some (.int (1 + r2)), some (.int (1 + r4)), some (.int (1 + r6)), (1 + r2, ((1 + r4 : Int) : Rat) / ((1 + r6 : Int) : Rat)), q6, ?_, by omega, by omega, div_pos' (by omega) (by omega), small_div (by omega) (by omega) (by omega) (by omega)⟩
  have ha := app_Sq (q := q6) (y := .tup [.int (1 + r2), fr (((1 + r4 : Int) : Rat) / ((1 + r6 : Int) : Rat))]) (ds := xs.map enL) hp (by simp; omega)
  simp only [cfSomeBody, run_seq, run_asg, run_expr, ev_bin, ev_con', ev_call, evs_cons, evs_nil, ev_idx, ev_lst, ev_var, ev_mth, ev_tup, List.getElem?_cons_zero, List.getElem?_cons_succ, R.bind_ok, R.opt_some, idx_lst, e1, s1, e2, bin_add_int, R.st_ok, stepT_nm, List.length_cons, List.length_nil, List.set_cons_zero, List.set_cons_succ, e3, s2, e4, e5, s3, e6, e7, seqL_Sq hp, ha, R.opt2_some, SR.bind_nx, Nat.reduceAdd, Nat.reduceLT, if_true, List.map_append, List.map_cons, List.map_nil, enL]
theorem some_loop {j : Nat} (hpk : P pk = some cfPick) (L : LowAt P lo 2) (hj : 2 ≤ j) (hp : p < S.length) (x1 : Option D) (w : List D) : ∀ (items : List D) (q : Q3) (x3 x4 x5 x6 : Option D) (xs : List Len), xs.length + items.length < 900 → (∀ x ∈ xs, LenOk x) →
    ∃ (y3 y4 y5 y6 : Option D) (q' : Q3) (ys : List Len), forEv (run (evF P j) (cfSomeBody pk lo)) (.nm 3) (.fix w) items [some (.ref p), x1, some (.ref S.length), x3, x4, x5, x6] (Sq (S ++ [.lst (xs.map enL)]) p q) = .nx [some (.ref p), x1, some (.ref S.length), y3, y4, y5, y6] (Sq (S ++ [.lst (ys.map enL)]) p q') ∧ (∀ x ∈ ys, LenOk x) ∧ ys.length = xs.length + items.length
  | [], q, x3, x4, x5, x6, xs, hl, hx => ⟨x3, x4, x5, x6, q, xs, by simp [forEv, at_fix], hx, by simp⟩
  | d :: items, q, x3, x4, x5, x6, xs, hl, hx => by
    simp only [List.length_cons] at hl
    obtain ⟨y4, y5, y6, x, q1, e1, ox⟩ := some_body hpk L hj hp q x1 (some d) x4 x5 x6 xs (by omega)
    obtain ⟨z3, z4, z5, z6, q2, ys, e2, oy, ly⟩ := some_loop hpk L hj hp x1 w items q1 (some d) y4 y5 y6 (xs ++ [x]) (by simp; omega) (fun y hy => by
      rcases List.mem_append.mp hy with hy | hy
      · exact hx y hy
      · rw [List.mem_singleton.mp hy]; exact ox)
    refine ⟨z3, z4, z5, z6, q2, ys, ?_, oy, by rw [ly]; simp; omega⟩
    simp only [forEv, at_fix, if_true, stepT_nm, List.length_cons, List.length_nil, Nat.reduceAdd, Nat.reduceLT, List.set_cons_succ, List.set_cons_zero, e1]
    exact e2
theorem rng_len {a b : Int} : (rngD a b).length = (b - a).toNat := by simp [rngD]
theorem some_ex (h : P f = some (cfSome pk lo)) (hpk : P pk = some cfPick) (L : LowAt P lo 2) (hk : 3 ≤ k) (hp : p < S.length) (q : Q3) {c : Int} (h0 : 0 ≤ c) (h1 : c ≤ 12) :
    ∃ (xs : List Len) (q' : Q3), evF P k f [.ref p, .int c] (Sq S p q) = .ok (.tup (xs.map enL)) (Sq S p q') ∧ (∀ x ∈ xs, LenOk x) ∧ (xs.length : Int) = c := by
  obtain ⟨j, rfl⟩ : ∃ j, k = j + 1 := ⟨k - 1, by omega⟩
  rw [evF_body h rfl (by simp [cfSome])]
  have hj : 2 ≤ j := by omega
  obtain ⟨y3, y4, y5, y6, q', ys, e, oy, ly⟩ := some_loop hpk L hj hp (some (.int c)) (rngD 0 c) (rngD 0 c) q none none none none [] (by simp [rng_len]; omega) (by simp)
  rw [rng_len] at ly
  refine ⟨ys, q', ?_, oy, by simp at ly; omega⟩
  have s1 : small62 0 := ⟨by decide, by decide⟩
  have s2 : small62 c := ⟨by omega, by omega⟩
  simp only [List.map_nil] at e
  simp [cfSome, s1, s2, Wk.items, Sq_app hp, e, seqOf_Sq hp]
  exact gc_sq hp (noref_ok (ok_Ls 0 ys))
end
end Z

/-! Z, part V: leaks that a law draws. -/
namespace Z
open PySem
section
variable {P : Nat → Option CF} {n k k' f pk sx lo m l : Nat} {S : Store} {p : Nat} {q : Q3}
abbrev KV := List (L2.Key × D)
structure DkOk (T : Int) (kvs : KV) : Prop where
  each : ∀ kv ∈ kvs, ∃ (i : Int) (d : Rat), kv = (.inl i, fr d) ∧ 0 ≤ i ∧ i ≤ 6 * T ∧ 0 < d ∧ Sz 200 d
  nd : (kvs.map (·.1)).Nodup
theorem any_key {kvs : KV} {k : L2.Key} : (kvs.any fun kv => decide (kv.1 = k)) = true ↔ k ∈ kvs.map (·.1) := by
  simp only [List.any_eq_true, decide_eq_true_eq, List.mem_map]
theorem DkOk.put {T : Int} {kvs : KV} (h : DkOk T kvs) {i : Int} {d : Rat} (h0 : 0 ≤ i) (h1 : i ≤ 6 * T) (hd : 0 < d) (hs : Sz 200 d) : DkOk T (putD kvs (.inl i) (fr d)) ∧ (putD kvs (.inl i) (fr d)).length ≤ kvs.length + 1 := by
  unfold putD
  by_cases ha : (kvs.any fun kv => decide (kv.1 = (.inl i : L2.Key))) = true
  · rw [if_pos ha]
    refine ⟨⟨fun kv hkv => ?_, ?_⟩, by simp⟩
    · obtain ⟨x, hx, rfl⟩ := List.mem_map.mp hkv
      split
      · rename_i e
        exact ⟨i, d, by rw [e], h0, h1, hd, hs⟩
      · exact h.each x hx
    · have e : (kvs.map fun kv => if kv.1 = (.inl i : L2.Key) then (kv.1, fr d) else kv).map (·.1) = kvs.map (·.1) := by
        rw [List.map_map]
        refine List.map_congr_left fun x _ => ?_
        simp only [Function.comp]
        split <;> rfl
      rw [e]
      exact h.nd
  · rw [if_neg ha]
    refine ⟨⟨fun kv hkv => ?_, ?_⟩, by simp⟩
    · rcases List.mem_append.mp hkv with hkv | hkv
      · exact h.each kv hkv
      · rw [List.mem_singleton.mp hkv]
        exact ⟨i, d, rfl, h0, h1, hd, hs⟩
    · rw [any_key] at ha
      rw [List.map_append, List.map_cons, List.map_nil, List.nodup_append]
      exact ⟨h.nd, by simp, fun a h1 b h2 => by rw [List.mem_singleton.mp h2]; intro e; subst e; exact ha h1⟩
theorem setD_Sq {kvs : KV} {i : Int} {v : D} (hp : p < S.length) (hl : kvs.length < 1000) : setEv (.ref S.length) (.int i) v (Sq (S ++ [.dk kvs]) p q) = some (Sq (S ++ [.dk (putD kvs (.inl i) v)]) p q) := by
  have : kvs.length < sizeLine := by rw [sizeLine_eq]; omega
  simp only [setEv, Sq_last hp, keyOf, Option.bind_some, if_pos this, Sq_setLast hp]
theorem idxD_Sq {kvs : KV} {i : Int} (hp : p < S.length) : idxEv (.ref S.length) (.int i) (Sq (S ++ [.dk kvs]) p q) = valD kvs (.inl i) := by
  simp only [idxEv, dkOf, Sq_last hp, keyOf, Option.bind_some]
theorem sorted_Sq {kvs : KV} {ks : List Int} (hp : p < S.length) (h : keysI kvs = some ks) (hl : ks.length < 64) : bltEv .sorted [.ref S.length] (Sq (S ++ [.dk kvs]) p q) = some (.lst ((sortI ks).map .int)) := by
  simp only [bltEv, dkOf, Sq_last hp, h, Option.bind_some, if_pos hl]
theorem DkOk.keys {T : Int} : ∀ {kvs : KV}, (∀ kv ∈ kvs, ∃ (i : Int) (d : Rat), kv = (.inl i, fr d) ∧ 0 ≤ i ∧ i ≤ 6 * T ∧ 0 < d ∧ Sz 200 d) → ∃ ks, keysI kvs = some ks ∧ ks.length = kvs.length
  | [], _ => ⟨[], rfl, rfl⟩
  | kv :: kvs, h => by
    obtain ⟨i, d, rfl, _⟩ := h kv List.mem_cons_self
    obtain ⟨ks, e, l⟩ := DkOk.keys fun x hx => h x (List.mem_cons_of_mem _ hx)
    exact ⟨i :: ks, by rw [keysI, e]; rfl, by simp [l]⟩
theorem val_mem : ∀ {kvs : KV} {k : L2.Key}, k ∈ kvs.map (·.1) → ∃ kv ∈ kvs, kv.1 = k ∧ valD kvs k = some kv.2
  | [], k, h => by simp at h
  | x :: kvs, k, h => by
    by_cases e : x.1 = k
    · exact ⟨x, List.mem_cons_self, e, by simp [valD, List.find?_cons, e]⟩
    · have h2 : k ∈ kvs.map (·.1) := by
        rw [List.map_cons] at h
        rcases List.mem_cons.mp h with z | z
        · exact absurd z.symm e
        · exact z
      obtain ⟨kv, h3, h4, h5⟩ := val_mem h2
      exact ⟨kv, List.mem_cons_of_mem _ h3, h4, by rw [← h5]; simp [valD, List.find?_cons, e]⟩
theorem sz_200 {a b : Int} (ha : a.natAbs < 2 ^ 200) (hb : 0 < b) (hb2 : b < 2 ^ 64) : Sz 200 ((a : Rat) / (b : Rat)) := sz_div hb ha (by omega)
/-- behind the drawing: the leaks in their order -/
theorem dk_leaks {T : Int} {kvs : KV} (h : DkOk T kvs) (C : Cable) (hT : T = steps C) (h0 : 0 ≤ T) (h1 : T ≤ 11988) (hl : kvs.length ≤ 6) :
    ∃ (ks : List Int) (dv : Int → Rat), keysI kvs = some ks ∧ ks.length < 64 ∧ (sortI ks).length ≤ kvs.length ∧ (∀ a ∈ sortI ks, valD kvs (.inl a) = some (fr (dv a))) ∧ KsOk 200 C ((sortI ks).map fun a : Int => ((a : Rat) / ((6 : Int) : Rat), dv a)) := by
  obtain ⟨ks, e, hlen⟩ := DkOk.keys h.each
  have hk := keysI_at e
  have perm : (sortI ks).Perm ks := List.mergeSort_perm ks _
  have nd : ks.Nodup := by
    have := h.nd
    rw [hk] at this
    exact (List.pairwise_map.mp this).imp fun h e => h (by rw [e])
  have nd2 : (sortI ks).Nodup := perm.nodup_iff.mpr nd
  have srt : (sortI ks).Pairwise (· ≤ ·) := by
    have := List.pairwise_mergeSort (le := fun a b : Int => decide (a ≤ b)) (fun a b c h1 h2 => by simp at *; omega) (fun a b => by simp; omega) ks
    exact this.imp fun h => of_decide_eq_true h
  have val : ∀ a, ∃ d : Rat, a ∈ sortI ks → valD kvs (.inl a) = some (fr d) ∧ 0 ≤ a ∧ a ≤ 6 * T ∧ 0 < d ∧ Sz 200 d := fun a => by
    by_cases ha : a ∈ sortI ks
    · have hm : (.inl a : L2.Key) ∈ kvs.map (·.1) := by
        rw [hk]
        exact List.mem_map.mpr ⟨a, perm.mem_iff.mp ha, rfl⟩
      obtain ⟨kv, m1, m2, m3⟩ := val_mem hm
      obtain ⟨i, d, rfl, g0, g1, g2, g3⟩ := h.each kv m1
      cases m2
      exact ⟨d, fun _ => ⟨m3, g0, g1, g2, g3⟩⟩
    · exact ⟨0, fun z => absurd z ha⟩
  obtain ⟨dv, hdv⟩ := Classical.axiomOfChoice val
  refine ⟨ks, dv, e, by omega, by rw [perm.length_eq]; omega, fun a ha => (hdv a ha).1, ⟨by rw [List.length_map, perm.length_eq]; omega, fun x hx => ?_, ?_⟩⟩
  · obtain ⟨a, ha, rfl⟩ := List.mem_map.mp hx
    obtain ⟨_, g0, g1, g2, g3⟩ := hdv a ha
    refine ⟨div_nonneg' g0 (by decide), ?_, g2, sz_200 (by omega) (by decide) (by decide), g3⟩
    show (a : Rat) / ((6 : Int) : Rat) ≤ ((steps C : Int) : Rat)
    rw [← hT]
    have h6 : ((6 : Int) : Rat) = 6 := rfl
    have : ((a : Int) : Rat) ≤ ((T * 6 : Int) : Rat) := Rat.intCast_le_intCast.mpr (by omega)
    rw [Rat.intCast_mul] at this
    rw [h6] at this ⊢
    grind
  · rw [List.pairwise_map]
    refine (srt.and nd2).imp fun {a b} ⟨h1, h2⟩ => ?_
    show (a : Rat) / ((6 : Int) : Rat) < (b : Rat) / ((6 : Int) : Rat)
    have h3 : (a : Rat) < (b : Rat) := Rat.intCast_lt_intCast.mpr (by omega)
    have h6 : ((6 : Int) : Rat) = 6 := rfl
    rw [h6]
    grind
def cfLeaksBody (sx pk lo : Nat) : CS := (.set (.var 3) (.call sx (.cons (.var 0) (.cons (.var 1) .nil))) (.call lo (.cons (.bin .add (.con (.int 1)) (.call pk (.cons (.var 0) (.cons (.con (.int 60)) .nil)))) (.cons (.idx (.lst (.cons (.con (.int 1)) (.cons (.con (.int 1)) (.cons (.con (.int 2)) (.cons (.con (.int 7)) .nil))))) (.call pk (.cons (.var 0) (.cons (.con (.int 4)) .nil)))) .nil))))
def cfDraw (body : CS) (pk lo : Nat) : CF := ⟨3, 6, (.seq (.asg (.nm 3) .mdk) (.seq (.fr (.nm 4) (.rng (.con (.int 0)) (.call pk (.cons (.var 0) (.cons (.bin .add (.var 2) (.con (.int 1))) .nil)))) body) (.ret (.blt .tuple (.cons (.comp (.tup (.cons (.call lo (.cons (.var 5) (.cons (.con (.int 6)) .nil))) (.cons (.idx (.var 3) (.var 5)) .nil))) (.nm 5) (.one (.blt .sorted (.cons (.var 3) .nil))) (.con (.bl true)) [5] false) .nil)))))⟩
/-- one more leak -/
def DrawStep (P : Nat → Option CF) (j : Nat) (body : CS) (C : Cable) : Prop := ∀ (S : Store) (p : Nat) (q : Q3) (x2 x4 : Option D) (kvs : KV), p < S.length → kvs.length < 900 → ∃ (i : Int) (d : Rat) (q' : Q3),
  run (evF P j) body [some (.ref p), some (enC C), x2, some (.ref S.length), x4, none] (Sq (S ++ [.dk kvs]) p q) = .nx [some (.ref p), some (enC C), x2, some (.ref S.length), x4, none] (Sq (S ++ [.dk (putD kvs (.inl i) (fr d))]) p q') ∧ 0 ≤ i ∧ i ≤ 6 * steps C ∧ 0 < d ∧ Sz 200 d
theorem draw_step {j : Nat} (hpk : P pk = some cfPick) (hsx : P sx = some (cfSixths pk)) (L : LowAt P lo 2) (hj : 2 ≤ j) {C : Cable} (hC : CbOk C) : DrawStep P j (cfLeaksBody sx pk lo) C := fun S p q x2 x4 kvs hp hl => by
  have hp' := len_hi hp (.dk kvs)
  have hj1 : 1 ≤ j := by omega
  obtain ⟨r1, q1, e1, l1, u1⟩ := pick_ex hpk hj1 hp' q (m := 60) (by decide) (by decide)
  obtain ⟨r2, q2, e2, l2, u2⟩ := pick_ex hpk hj1 hp' q1 (m := 4) (by decide) (by decide)
  obtain ⟨b, hb, s2⟩ := at_sel (l := [1, 1, 2, 7]) l2 u2
  have bb : 0 < b ∧ b ≤ 7 := by simp at hb; omega
  have e3 := L.ex (S := Sq (S ++ [.dk kvs]) p q2) (k := j) hj (a := 1 + r1) (b := b) bb.1 (by omega)
  obtain ⟨r3, q3, e4, l3, u3⟩ := sixths_ex hsx hpk hj hp' q2 hC
  have e5 := setD_Sq (q := q3) (i := r3) (v := fr (((1 + r1 : Int) : Rat) / (b : Rat))) (kvs := kvs) hp (by omega)
  simp only [List.map_cons, List.map_nil] at s2
  refine ⟨r3, _, q3, ?_, l3, u3, div_pos' (a := 1 + r1) (by omega) bb.1, sz_200 (a := 1 + r1) (by omega) bb.1 (by omega)⟩
  simp only [cfLeaksBody, run_set, ev_bin, ev_con', ev_call, evs_cons, evs_nil, ev_idx, ev_lst, ev_var, List.getElem?_cons_zero, List.getElem?_cons_succ, R.bind_ok, R.opt_some, idx_lst, e1, s2, e2, bin_add_int, R.st_ok, e3, e4, e5]
theorem draw_loop {j : Nat} {body : CS} {C : Cable} (hb : DrawStep P j body C) (hp : p < S.length) (x2 : Option D) (w : List D) : ∀ (items : List D) (q : Q3) (x4 : Option D) (kvs : KV), kvs.length + items.length < 900 → DkOk (steps C) kvs →
    ∃ (y4 : Option D) (q' : Q3) (ys : KV), forEv (run (evF P j) body) (.nm 4) (.fix w) items [some (.ref p), some (enC C), x2, some (.ref S.length), x4, none] (Sq (S ++ [.dk kvs]) p q) = .nx [some (.ref p), some (enC C), x2, some (.ref S.length), y4, none] (Sq (S ++ [.dk ys]) p q') ∧ DkOk (steps C) ys ∧ ys.length ≤ kvs.length + items.length
  | [], q, x4, kvs, hl, ok => ⟨x4, q, kvs, by simp [forEv, at_fix], ok, by simp⟩
  | d :: items, q, x4, kvs, hl, ok => by
    simp only [List.length_cons] at hl
    obtain ⟨i, v, q1, e1, i0, i1, v0, vs⟩ := hb S p q x2 (some d) kvs hp (by omega)
    obtain ⟨ok2, l2⟩ := ok.put i0 i1 v0 vs
    obtain ⟨y4, q2, ys, e2, ok3, l3⟩ := draw_loop hb hp x2 w items q1 (some d) _ (by omega) ok2
    refine ⟨y4, q2, ys, ?_, ok3, by simp; omega⟩
    simp only [forEv, at_fix, if_true, stepT_nm, List.length_cons, List.length_nil, Nat.reduceAdd, Nat.reduceLT, List.set_cons_succ, List.set_cons_zero, e1]
    exact e2
theorem draw_ex {body : CS} (h : P f = some (cfDraw body pk lo)) (hpk : P pk = some cfPick) (L : LowAt P lo 2) (hk : 3 ≤ k) (hp : p < S.length) (q : Q3) {C : Cable} (hC : CbOk C) (hb : ∀ j, k = j + 1 → DrawStep P j body C) {c : Int} (h0 : 0 ≤ c) (h1 : c ≤ 6) :
    ∃ (xs : List Leak) (q' : Q3), evF P k f [.ref p, enC C, .int c] (Sq S p q) = .ok (enKs xs) (Sq S p q') ∧ KsOk 200 C xs ∧ (xs.length : Int) ≤ c := by
  obtain ⟨j, rfl⟩ : ∃ j, k = j + 1 := ⟨k - 1, by omega⟩
  rw [evF_body h rfl (by simp [cfDraw])]
  have hj : 2 ≤ j := by omega
  have hst := hC.st
  obtain ⟨r, q1, e1, l1, u1⟩ := pick_ex hpk (show 1 ≤ j by omega) (len_hi hp (.dk [])) q (m := c + 1) (by omega) (by omega)
  obtain ⟨y4, q2, kvs, e2, ok, hl⟩ := draw_loop (S := S) (hb j rfl) hp (some (.int c)) (rngD 0 r) (rngD 0 r) q1 none [] (by simp [rng_len]; omega) ⟨by simp, by simp⟩
  simp only [rng_len, List.length_nil] at hl
  obtain ⟨ks, dv, k1, k2, k3, k4, k5⟩ := dk_leaks ok C rfl hst.1 hst.2 (by omega)
  have ec := comp_map (F := evF P j) (S := Sq (S ++ [.dk kvs]) p q2) (elt := .tup (.cons (.call lo (.cons (.var 5) (.cons (.con (.int 6)) .nil))) (.cons (.idx (.var 3) (.var 5)) .nil))) (tg := .nm 5) (w := (sortI ks).map D.int) (δ := [some (.ref p), some (enC C), some (.int c), some (.ref S.length), y4, none]) (own := [5]) (en := D.int) (g := fun a : Int => enK ((a : Rat) / ((6 : Int) : Rat), dv a))
    (fun a => [some (.ref p), some (enC C), some (.int c), some (.ref S.length), y4, some (.int a)]) (sortI ks) [] (fun x _ => by simp [wipeD]) (fun a ha => by
      have e := L.ex (S := Sq (S ++ [.dk kvs]) p q2) (k := j) hj (a := a) (b := 6) (by decide) (by decide)
      have e' := idxD_Sq (q := q2) (kvs := kvs) (i := a) hp
      rw [k4 a ha] at e'
      simp only [ev_tup, evs_cons, evs_nil, ev_call, ev_var, ev_con', ev_idx, List.getElem?_cons_zero, List.getElem?_cons_succ, R.bind_ok, e, e', R.opt_some, enK]) (by simp; omega)
  rw [List.nil_append] at ec
  have e0 : ((sortI ks).map fun a : Int => enK ((a : Rat) / ((6 : Int) : Rat), dv a)) = ((sortI ks).map fun a : Int => ((a : Rat) / ((6 : Int) : Rat), dv a)).map enK := by rw [List.map_map]; rfl
  rw [e0] at ec
  have hlen : ((sortI ks).map fun a : Int => ((a : Rat) / ((6 : Int) : Rat), dv a)).length = (sortI ks).length := List.length_map _
  generalize ((sortI ks).map fun a : Int => ((a : Rat) / ((6 : Int) : Rat), dv a)) = ys at *
  refine ⟨ys, q2, ?_, k5, by omega⟩
  have s1 : small62 0 := ⟨by decide, by decide⟩
  have s2 : small62 r := ⟨by omega, by omega⟩
  have hso := sorted_Sq (q := q2) hp k1 k2
  simp [cfDraw, Sq_app hp, e1, s1, s2, Wk.items, e2, hso, ec]
  exact gc_sq (S := S) (q := q) (T := [.dk kvs]) (q' := q2) hp (noref_ok (ok_Ks 0 ys))
end
end Z

namespace ZL
open PySem PySem.Spec PyProof.Rows L2 Z
def top (i : Nat) : Stmt := PySem.Challenge.pw_earthends_k37_exchanged_added_turned.main.body.getD i (.Pass ⟨0, 0, 0, 0⟩)
def defs_0 : List (DefI) := [⟨"is_whole", top 7, ["x"], ["x"], [], false⟩, ⟨"share_of", top 8, ["one", "other"], ["one", "other"], [], false⟩, ⟨"low", top 9, ["top", "bottom"], ["top", "bottom", "share"], [], false⟩, ⟨"is_fraction", top 10, ["x"], ["x"], [], false⟩, ⟨"is_from_zero", top 11, ["x"], ["x"], [], false⟩, ⟨"is_above_zero", top 12, ["x"], ["x"], [], false⟩, ⟨"add", top 13, ["a", "b"], ["a", "b"], [], false⟩, ⟨"less", top 14, ["a", "b"], ["a", "b"], [], false⟩, ⟨"is_less", top 15, ["a", "b"], ["a", "b"], [], false⟩, ⟨"is_small", top 19, ["x"], ["x"], [], false⟩]
def defs_1 : List (DefI) := [⟨"is_length", top 20, ["x"], ["x"], [], false⟩, ⟨"is_cable", top 21, ["x"], ["x", "one"], [], false⟩, ⟨"check_cable", top 22, ["cable"], ["cable"], [], false⟩, ⟨"all_steps", top 23, ["cable"], ["cable", "steps", "drag"], [], false⟩, ⟨"is_place", top 24, ["cable", "x"], ["cable", "x"], [], false⟩, ⟨"is_leak", top 27, ["cable", "x"], ["cable", "x"], [], false⟩, ⟨"are_leaks", top 28, ["cable", "x"], ["cable", "x", "leak", "k"], [], false⟩, ⟨"check_leaks", top 29, ["cable", "leaks"], ["cable", "leaks"], [], false⟩, ⟨"check_length", top 31, ["length"], ["length"], [], false⟩, ⟨"check_number", top 32, ["cable", "number"], ["cable", "number"], [], false⟩]
def defs_2 : List (DefI) := [⟨"exchange", top 33, ["cable", "number", "length"], ["cable", "number", "length", "lengths", "back"], [], false⟩, ⟨"exchanged", top 34, ["cable", "number", "length"], ["cable", "number", "length"], [], false⟩, ⟨"check_room", top 35, ["one", "other"], ["one", "other"], [], false⟩, ⟨"add_cables", top 36, ["one", "other"], ["one", "other"], [], false⟩, ⟨"added", top 37, ["one", "other"], ["one", "other"], [], false⟩, ⟨"turned", top 38, ["cable"], ["cable"], [], false⟩, ⟨"leaks_turned", top 39, ["cable", "leaks"], ["cable", "leaks", "end", "place", "drag"], [], false⟩, ⟨"leaks_added", top 40, ["one", "leaks", "other", "others"], ["one", "leaks", "other", "others", "end", "found", "place", "drag"], [], false⟩, ⟨"_law_cell", top 42, ["_law_script", "_law_k"], ["_law_script", "_law_k", "_law_state", "_law_cell_here"], [], false⟩, ⟨"_law_purse", top 43, ["_law_cell_here"], ["_law_cell_here"], [], true⟩]
def defs_3 : List (DefI) := [⟨"_law_pick", top 44, ["_law_purse_here", "_law_many"], ["_law_purse_here", "_law_many", "_law_state", "_law_taken"], [], false⟩, ⟨"_law_low", top 45, ["_law_top", "_law_bottom"], ["_law_top", "_law_bottom", "_law_one", "_law_other"], [], false⟩, ⟨"_law_plus", top 46, ["_law_a", "_law_b"], ["_law_a", "_law_b"], [], false⟩, ⟨"_law_minus", top 47, ["_law_a", "_law_b"], ["_law_a", "_law_b"], [], false⟩, ⟨"_law_sixths", top 48, ["_law_purse_here", "_law_cable"], ["_law_purse_here", "_law_cable", "_law_steps", "_law_way", "_law_part"], [], false⟩, ⟨"_law_leaks", top 49, ["_law_purse_here", "_law_cable", "_law_many"], ["_law_purse_here", "_law_cable", "_law_many", "_law_found", "_law_k", "_law_at"], [3], false⟩, ⟨"_law_some_lengths", top 50, ["_law_purse_here", "_law_many"], ["_law_purse_here", "_law_many", "_law_found", "_law_k", "_law_steps", "_law_top", "_law_bottom"], [2], false⟩, ⟨"_law_back", top 51, ["_law_purse_here"], ["_law_purse_here", "_law_top"], [], false⟩, ⟨"_law_moved", top 52, ["_law_leaks_here", "_law_by"], ["_law_leaks_here", "_law_by", "_law_place", "_law_drag"], [], false⟩, ⟨"_law_turned", top 53, ["_law_leaks_here", "_law_end"], ["_law_leaks_here", "_law_end", "_law_place", "_law_drag"], [], false⟩]
def defs_4 : List (DefI) := [⟨"_law_added_right", top 54, ["_law_one", "_law_other", "_law_leaks_here", "_law_others"], ["_law_one", "_law_other", "_law_leaks_here", "_law_others", "_law_start", "_law_end", "_law_turn", "_law_found", "_law_both", "_law_about", "_law_west", "_law_back_here", "_law_part"], [], false⟩, ⟨"_law_exchanged_right", top 55, ["_law_purse_here", "_law_cable"], ["_law_purse_here", "_law_cable", "_law_turn", "_law_number", "_law_length", "_law_found"], [], false⟩, ⟨"law", top 56, ["_law_script"], ["_law_script", "_law_k", "_law_purse_here", "_law_many", "_law_one", "_law_other", "_law_leaks_here", "_law_others", "_law_end", "_law_third", "_law_part"], [], false⟩]
def defs : List (DefI) := defs_0 ++ defs_1 ++ defs_2 ++ defs_3 ++ defs_4
def L : Lw := ⟨defs, ["ValueError", "isinstance", "int", "bool", "abs", "tuple", "len", "all", "sum", "range", "sorted", "max", "min"], [("MOST_LENGTHS", .int (12)), ("MOST_NUMBER", .int (999)), ("MOST_LEAKS", .int (6))], 40⟩
def loose_0 : List (PySem.Str) := ["EarthError", "NoNumber", "NoCable", "NoLeaks", "NoLength", "is_whole", "share_of", "low", "is_fraction", "is_from_zero", "is_above_zero", "add", "less", "is_less", "MOST_LENGTHS", "MOST_NUMBER", "is_small", "is_length", "is_cable", "check_cable"]
def loose_1 : List (PySem.Str) := ["all_steps", "is_place", "MOST_LEAKS", "is_leak", "are_leaks", "check_leaks", "check_length", "check_number", "exchange", "exchanged", "check_room", "add_cables", "added", "turned", "leaks_turned", "leaks_added", "_law_cell", "_law_purse", "_law_pick", "_law_low"]
def loose_2 : List (PySem.Str) := ["_law_plus", "_law_minus", "_law_sixths", "_law_leaks", "_law_some_lengths", "_law_back", "_law_moved", "_law_turned", "_law_added_right", "_law_exchanged_right"]
def loose : List (PySem.Str) := loose_0 ++ loose_1 ++ loose_2

theorem p0 : L.prog 0 = some cfWhole := by kernel_rfl
theorem p1 : L.prog 1 = some cfShare := by kernel_rfl
theorem p2 : L.prog 2 = some (cfLow 1) := by kernel_rfl
theorem p3 : L.prog 3 = some (cfIsFr 0 1) := by kernel_rfl
theorem p4 : L.prog 4 = some (cfFrom0 3) := by kernel_rfl
theorem p5 : L.prog 5 = some (cfOver0 3) := by kernel_rfl
theorem p6 : L.prog 6 = some (cfAdd 2) := by kernel_rfl
theorem p7 : L.prog 7 = some (cfSub 2) := by kernel_rfl
theorem p8 : L.prog 8 = some cfLess := by kernel_rfl
theorem p9 : L.prog 9 = some cfSmall := by kernel_rfl
theorem p10 : L.prog 10 = some (cfLength 0 5 9) := by kernel_rfl
theorem p11 : L.prog 11 = some (cfCable 10 4 9) := by kernel_rfl
theorem p12 : L.prog 12 = some (cfCheck 11) := by kernel_rfl
theorem p13 : L.prog 13 = some cfSteps := by kernel_rfl
theorem p14 : L.prog 14 = some (cfPlace 4 8 13) := by kernel_rfl
theorem p15 : L.prog 15 = some (cfLeak 14 5) := by kernel_rfl
theorem p16 : L.prog 16 = some (cfLeaks 15 8) := by kernel_rfl
theorem p17 : L.prog 17 = some (cfCheck2 16) := by kernel_rfl
theorem p18 : L.prog 18 = some (cfCheck 10) := by kernel_rfl
def cf19 : CF := ⟨2, 2, (.ife (.or (.not (.call 0 (.cons (.var 1) .nil))) (.not (.chain .le .lt (.con (.int 0)) (.var 1) (.blt .len (.cons (.idx (.var 0) (.con (.int 0))) .nil))))) .never .skip)⟩
theorem p19 : L.prog 19 = some cf19 := by kernel_rfl
def cf20 : CF := ⟨3, 5, (.seq (.asg (.tp (.cons (.nm 3) (.cons (.nm 4) .nil))) (.var 0)) (.ret (.tup (.cons (.bin .add (.bin .add (.sl (.var 3) .nil (.one (.var 1))) (.tup (.cons (.var 2) .nil))) (.sl (.var 3) (.one (.bin .add (.var 1) (.con (.int 1)))) .nil)) (.cons (.var 4) .nil)))))⟩
theorem p20 : L.prog 20 = some cf20 := by kernel_rfl
def cf21 : CF := ⟨3, 3, (.seq (.expr (.call 12 (.cons (.var 0) .nil))) (.seq (.expr (.call 19 (.cons (.var 0) (.cons (.var 1) .nil)))) (.seq (.expr (.call 18 (.cons (.var 2) .nil))) (.ret (.call 20 (.cons (.var 0) (.cons (.var 1) (.cons (.var 2) .nil))))))))⟩
theorem p21 : L.prog 21 = some cf21 := by kernel_rfl
def cf22 : CF := ⟨2, 2, (.ife (.cmp .gt (.bin .add (.blt .len (.cons (.idx (.var 0) (.con (.int 0))) .nil)) (.blt .len (.cons (.idx (.var 1) (.con (.int 0))) .nil))) (.con (.int 12))) .never .skip)⟩
theorem p22 : L.prog 22 = some cf22 := by kernel_rfl
def cf23 : CF := ⟨2, 2, (.ret (.tup (.cons (.bin .add (.idx (.var 0) (.con (.int 0))) (.idx (.var 1) (.con (.int 0)))) (.cons (.idx (.var 0) (.con (.int 1))) .nil))))⟩
theorem p23 : L.prog 23 = some cf23 := by kernel_rfl
def cf24 : CF := ⟨2, 2, (.seq (.expr (.call 12 (.cons (.var 0) .nil))) (.seq (.expr (.call 12 (.cons (.var 1) .nil))) (.seq (.expr (.call 22 (.cons (.var 0) (.cons (.var 1) .nil)))) (.ret (.call 23 (.cons (.var 0) (.cons (.var 1) .nil)))))))⟩
theorem p24 : L.prog 24 = some cf24 := by kernel_rfl
def cf25 : CF := ⟨1, 1, (.seq (.expr (.call 12 (.cons (.var 0) .nil))) (.ret (.tup (.cons (.rev (.idx (.var 0) (.con (.int 0)))) (.cons (.idx (.var 0) (.con (.int 1))) .nil)))))⟩
theorem p25 : L.prog 25 = some cf25 := by kernel_rfl
def cf26 : CF := ⟨2, 5, (.seq (.expr (.call 12 (.cons (.var 0) .nil))) (.seq (.expr (.call 17 (.cons (.var 0) (.cons (.var 1) .nil)))) (.seq (.asg (.nm 2) (.tup (.cons (.call 13 (.cons (.var 0) .nil)) (.cons (.con (.int 1)) .nil)))) (.ret (.blt .tuple (.cons (.comp (.tup (.cons (.call 7 (.cons (.var 2) (.cons (.var 3) .nil))) (.cons (.var 4) .nil))) (.tp (.cons (.nm 3) (.cons (.nm 4) .nil))) (.one (.rev (.var 1))) (.con (.bl true)) [3, 4] false) .nil))))))⟩
theorem p26 : L.prog 26 = some cf26 := by kernel_rfl
def cf27 : CF := ⟨4, 8, (.seq (.expr (.call 12 (.cons (.var 0) .nil))) (.seq (.expr (.call 17 (.cons (.var 0) (.cons (.var 1) .nil)))) (.seq (.expr (.call 12 (.cons (.var 2) .nil))) (.seq (.expr (.call 17 (.cons (.var 2) (.cons (.var 3) .nil)))) (.seq (.expr (.call 22 (.cons (.var 0) (.cons (.var 2) .nil)))) (.seq (.asg (.nm 4) (.tup (.cons (.call 13 (.cons (.var 0) .nil)) (.cons (.con (.int 1)) .nil)))) (.seq (.asg (.nm 5) (.bin .add (.var 1) (.blt .tuple (.cons (.comp (.tup (.cons (.call 6 (.cons (.var 4) (.cons (.var 6) .nil))) (.cons (.var 7) .nil))) (.tp (.cons (.nm 6) (.cons (.nm 7) .nil))) (.one (.var 3)) (.con (.bl true)) [6, 7] false) .nil)))) (.seq (.expr (.call 17 (.cons (.call 23 (.cons (.var 0) (.cons (.var 2) .nil))) (.cons (.var 5) .nil)))) (.ret (.var 5))))))))))⟩
theorem p27 : L.prog 27 = some cf27 := by kernel_rfl
theorem p28 : L.prog 28 = some cfCell := by kernel_rfl
theorem p29 : L.prog 29 = some cfPurse := by kernel_rfl
theorem p30 : L.prog 30 = some cfPick := by kernel_rfl
theorem p31 : L.prog 31 = some cfLawLow := by kernel_rfl
theorem p32 : L.prog 32 = some (cfAdd 31) := by kernel_rfl
theorem p33 : L.prog 33 = some (cfSub 31) := by kernel_rfl
theorem p34 : L.prog 34 = some (cfSixths 30) := by kernel_rfl
theorem p35 : L.prog 35 = some (cfDraw (cfLeaksBody 34 30 31) 30 31) := by kernel_rfl
theorem p36 : L.prog 36 = some (cfSome 30 31) := by kernel_rfl
theorem p37 : L.prog 37 = some (cfBack 30 31) := by kernel_rfl
def cf38 : CF := ⟨2, 4, (.ret (.blt .tuple (.cons (.comp (.tup (.cons (.call 32 (.cons (.var 2) (.cons (.tup (.cons (.var 1) (.cons (.con (.int 1)) .nil))) .nil))) (.cons (.var 3) .nil))) (.tp (.cons (.nm 2) (.cons (.nm 3) .nil))) (.one (.var 0)) (.con (.bl true)) [2, 3] false) .nil)))⟩
theorem p38 : L.prog 38 = some cf38 := by kernel_rfl
def cf39 : CF := ⟨2, 4, (.ret (.blt .tuple (.cons (.comp (.tup (.cons (.call 33 (.cons (.tup (.cons (.var 1) (.cons (.con (.int 1)) .nil))) (.cons (.var 2) .nil))) (.cons (.var 3) .nil))) (.tp (.cons (.nm 2) (.cons (.nm 3) .nil))) (.one (.rev (.var 0))) (.con (.bl true)) [2, 3] false) .nil)))⟩
theorem p39 : L.prog 39 = some cf39 := by kernel_rfl
def cf40 : CF := ⟨4, 13, (.seq (.asg (.nm 4) (.blt .sum (.cons (.comp (.idx (.var 12) (.con (.int 0))) (.nm 12) (.one (.idx (.var 0) (.con (.int 0)))) (.con (.bl true)) [12] false) .nil))) (.seq (.asg (.nm 5) (.bin .add (.var 4) (.blt .sum (.cons (.comp (.idx (.var 12) (.con (.int 0))) (.nm 12) (.one (.idx (.var 1) (.con (.int 0)))) (.con (.bl true)) [12] false) .nil)))) (.seq (.fr (.nm 6) (.rng (.con (.int 0)) (.con (.int 2))) (.seq (.asg (.nm 7) (.call 24 (.cons (.var 0) (.cons (.var 1) .nil)))) (.seq (.ife (.or (.cmp .ne (.var 7) (.tup (.cons (.bin .add (.idx (.var 0) (.con (.int 0))) (.idx (.var 1) (.con (.int 0)))) (.cons (.idx (.var 0) (.con (.int 1))) .nil)))) (.not (.isi (.idx (.var 7) (.con (.int 0))) .tup))) (.ret (.con (.bl false))) .skip) (.seq (.asg (.nm 8) (.call 27 (.cons (.var 0) (.cons (.var 2) (.cons (.var 1) (.cons (.var 3) .nil)))))) (.ife (.or (.cmp .ne (.var 8) (.bin .add (.var 2) (.call 38 (.cons (.var 3) (.cons (.var 4) .nil))))) (.not (.isi (.var 8) .tup))) (.ret (.con (.bl false))) .skip))))) (.seq (.asg (.nm 9) (.call 26 (.cons (.var 7) (.cons (.var 8) .nil)))) (.seq (.ife (.or (.cmp .ne (.var 9) (.call 39 (.cons (.var 8) (.cons (.var 5) .nil)))) (.cmp .ne (.call 26 (.cons (.call 25 (.cons (.var 7) .nil)) (.cons (.var 9) .nil))) (.var 8))) (.ret (.con (.bl false))) .skip) (.seq (.asg (.nm 10) (.tup (.cons (.idx (.var 1) (.con (.int 0))) (.cons (.idx (.var 0) (.con (.int 1))) .nil)))) (.seq (.ife (.or (.cmp .ne (.call 25 (.cons (.var 7) .nil)) (.call 24 (.cons (.call 25 (.cons (.var 10) .nil)) (.cons (.call 25 (.cons (.var 0) .nil)) .nil)))) (.cmp .ne (.call 25 (.cons (.call 25 (.cons (.var 7) .nil)) .nil)) (.var 7))) (.ret (.con (.bl false))) .skip) (.seq (.asg (.nm 11) (.call 27 (.cons (.call 25 (.cons (.var 10) .nil)) (.cons (.call 26 (.cons (.var 1) (.cons (.var 3) .nil))) (.cons (.call 25 (.cons (.var 0) .nil)) (.cons (.call 26 (.cons (.var 0) (.cons (.var 2) .nil))) .nil)))))) (.ret (.cmp .eq (.var 11) (.var 9)))))))))))⟩
theorem p40 : L.prog 40 = some cf40 := by kernel_rfl
def cf41 : CF := ⟨2, 6, (.seq (.fr (.nm 2) (.rng (.con (.int 0)) (.con (.int 2))) (.seq (.asg (.tp (.cons (.nm 3) (.cons (.nm 4) .nil))) (.tup (.cons (.call 30 (.cons (.var 0) (.cons (.blt .len (.cons (.idx (.var 1) (.con (.int 0))) .nil)) .nil))) (.cons (.idx (.call 36 (.cons (.var 0) (.cons (.con (.int 1)) .nil))) (.con (.int 0))) .nil)))) (.seq (.asg (.nm 5) (.call 21 (.cons (.var 1) (.cons (.var 3) (.cons (.var 4) .nil))))) (.seq (.ife (.cmp .ne (.var 5) (.tup (.cons (.bin .add (.bin .add (.sl (.idx (.var 1) (.con (.int 0))) .nil (.one (.var 3))) (.tup (.cons (.var 4) .nil))) (.sl (.idx (.var 1) (.con (.int 0))) (.one (.bin .add (.var 3) (.con (.int 1)))) .nil)) (.cons (.idx (.var 1) (.con (.int 1))) .nil)))) (.ret (.con (.bl false))) .skip) (.seq (.ife (.or (.not (.isi (.idx (.var 5) (.con (.int 0))) .tup)) (.cmp .ne (.call 21 (.cons (.var 5) (.cons (.var 3) (.cons (.idx (.idx (.var 1) (.con (.int 0))) (.var 3)) .nil)))) (.var 1))) (.ret (.con (.bl false))) .skip) (.ife (.cmp .ne (.call 25 (.cons (.var 5) .nil)) (.call 21 (.cons (.call 25 (.cons (.var 1) .nil)) (.cons (.bin .sub (.bin .sub (.blt .len (.cons (.idx (.var 1) (.con (.int 0))) .nil)) (.con (.int 1))) (.var 3)) (.cons (.var 4) .nil))))) (.ret (.con (.bl false))) .skip)))))) (.ret (.cmp .eq (.call 21 (.cons (.var 1) (.cons (.con (.int 0)) (.cons (.idx (.idx (.var 1) (.con (.int 0))) (.con (.int 0))) .nil)))) (.var 1))))⟩
theorem p41 : L.prog 41 = some cf41 := by kernel_rfl
def cf42 : CF := ⟨1, 11, (.seq (.fr (.nm 1) (.rng (.con (.int 0)) (.blt .max (.cons (.con (.int 2)) (.cons (.blt .min (.cons (.blt .len (.cons (.var 0) .nil)) (.cons (.con (.int 6)) .nil))) .nil)))) (.seq (.asg (.nm 2) (.call 29 (.cons (.call 28 (.cons (.var 0) (.cons (.var 1) .nil))) .nil))) (.seq (.asg (.nm 3) (.bin .add (.con (.int 1)) (.call 30 (.cons (.var 2) (.cons (.idx (.lst (.cons (.con (.int 5)) (.cons (.con (.int 11)) .nil))) (.call 30 (.cons (.var 2) (.cons (.con (.int 2)) .nil)))) .nil))))) (.seq (.asg (.nm 4) (.tup (.cons (.call 36 (.cons (.var 2) (.cons (.var 3) .nil))) (.cons (.call 37 (.cons (.var 2) .nil)) .nil)))) (.seq (.asg (.nm 5) (.tup (.cons (.call 36 (.cons (.var 2) (.cons (.bin .add (.con (.int 1)) (.call 30 (.cons (.var 2) (.cons (.bin .sub (.con (.int 12)) (.var 3)) .nil)))) .nil))) (.cons (.call 37 (.cons (.var 2) .nil)) .nil)))) (.seq (.asg (.nm 6) (.call 35 (.cons (.var 2) (.cons (.var 4) (.cons (.con (.int 6)) .nil))))) (.seq (.asg (.nm 7) (.call 35 (.cons (.var 2) (.cons (.var 5) (.cons (.bin .sub (.con (.int 6)) (.blt .len (.cons (.var 6) .nil))) .nil))))) (.seq (.asg (.nm 8) (.tup (.cons (.blt .sum (.cons (.comp (.idx (.var 10) (.con (.int 0))) (.nm 10) (.one (.idx (.var 4) (.con (.int 0)))) (.con (.bl true)) [10] false) .nil)) (.cons (.con (.int 1)) .nil)))) (.seq (.ife (.and (.cmp .ne (.sl (.var 6) (.one (.neg (.con (.int 1)))) .nil) (.tup .nil)) (.and (.cmp .eq (.idx (.idx (.var 6) (.neg (.con (.int 1)))) (.con (.int 0))) (.var 8)) (.and (.cmp .ne (.sl (.var 7) .nil (.one (.con (.int 1)))) (.tup .nil)) (.cmp .eq (.idx (.idx (.var 7) (.con (.int 0))) (.con (.int 0))) (.tup (.cons (.con (.int 0)) (.cons (.con (.int 1)) .nil))))))) (.asg (.nm 7) (.sl (.var 7) (.one (.con (.int 1))) .nil)) .skip) (.seq (.ife (.or (.not (.call 40 (.cons (.var 4) (.cons (.var 5) (.cons (.var 6) (.cons (.var 7) .nil)))))) (.not (.call 41 (.cons (.var 2) (.cons (.var 4) .nil))))) (.ret (.con (.bl false))) .skip) (.seq (.asg (.nm 9) (.tup (.cons (.call 36 (.cons (.var 2) (.cons (.con (.int 1)) .nil))) (.cons (.tup (.cons (.con (.int 0)) (.cons (.con (.int 1)) .nil))) .nil)))) (.ife (.and (.cmp .lt (.bin .add (.var 3) (.blt .len (.cons (.idx (.var 5) (.con (.int 0))) .nil))) (.con (.int 12))) (.cmp .ne (.call 24 (.cons (.call 24 (.cons (.var 4) (.cons (.var 5) .nil))) (.cons (.var 9) .nil))) (.call 24 (.cons (.var 4) (.cons (.call 24 (.cons (.var 5) (.cons (.var 9) .nil))) .nil))))) (.ret (.con (.bl false))) .skip)))))))))))) (.ret (.con (.bl true))))⟩
theorem p42 : L.prog 42 = some cf42 := by kernel_rfl
theorem chk : L.chk = true := by kernel_rfl
end ZL
namespace ZL
open PySem Z
abbrev P : Nat → Option CF := L.prog
section
variable {n m : Nat} {S : Store} {C A B : Cable} {xs ys : List Leak}
theorem low2 : LowAt P 2 2 := low_at p2 p1
theorem llow : LowAt P 31 2 := lawLow_at p31
theorem isfr : IsFrAt P 3 2 := isFr_at p3 p0 p1
theorem lenA {x : Len} (h : LenOk x) : At P 10 4 [enL x] (.bl true) := length_at (sh := 0) p10 p0 p5 isfr p9 h
theorem cabA (h : CbOk C) : At P 11 5 [enC C] (.bl true) := cable_at p11 (fun x hx => lenA hx) p4 isfr p9 h
theorem chkC (h : CbOk C) : At P 12 6 [enC C] .non := check_at p12 (cabA h)
theorem stA (h : CbOk C) : At P 13 1 [enC C] (.int (steps C)) := steps_at p13 (by have := h.hi; omega)
theorem lksA (h : CbOk C) (hK : KsOk m C xs) (hm : m < 3900) : At P 16 6 [enC C, enKs xs] (.bl true) := leaks_at p16 p8 hK hm fun x hx =>
  have o := hK.each x hx
  leak_at p15 (place_at p14 p4 isfr p8 p13 h o.lo o.hi o.s1 (by omega)) p5 isfr o.drag
theorem chkK (h : CbOk C) (hK : KsOk m C xs) (hm : m < 3900) : At P 17 7 [enC C, enKs xs] .non := check2_at p17 (lksA h hK hm)
theorem chkL {x : Len} (h : LenOk x) : At P 18 5 [enL x] .non := check_at p18 (lenA h)
@[simp] theorem idx_C0 : idxEv (enC C) (.int 0) S = some (.tup (C.1.map enL)) := by simp [enC]
@[simp] theorem idx_C1 : idxEv (enC C) (.int 1) S = some (fr C.2) := by simp [enC]
@[simp] theorem isi_Ks : isiEv (enKs xs) .tup S = some true := rfl
@[simp] theorem isi_C : isiEv (enC C) .tup S = some true := rfl
theorem enC_def {ls : List Len} {b : Rat} : enC (ls, b) = .tup [.tup (ls.map enL), fr b] := rfl
theorem numA (h : CbOk C) {i : Int} (h0 : 0 ≤ i) (h1 : i < C.1.length) : At P 19 2 [enC C, .int i] .non := At.of (k := 1) p19 rfl (by decide) fun n S => by
  simp [cf19, (whole_at p0 (i := i)).ex (show 1 ≤ n + 1 by omega), h0, h1]
def exch (C : Cable) (i : Int) (x : Len) : Cable := (C.1.take i.toNat ++ [x] ++ C.1.drop (i.toNat + 1), C.2)
theorem exchA (h : CbOk C) {i : Int} (h0 : 0 ≤ i) {x : Len} : At P 20 1 [enC C, .int i, enL x] (enC (exch C i x)) := At.of (k := 0) p20 rfl (by decide) fun n S => by
  have hl := h.hi
  have e1 : cutD (C.1.map enL) none (some i) = (C.1.take i.toNat).map enL := by rw [cut_take h0, List.map_take]
  have e2 : cutD (C.1.map enL) (some (i + 1)) none = (C.1.drop (i.toNat + 1)).map enL := by rw [cut_drop (by omega), List.map_drop, show (i + 1).toNat = i.toNat + 1 by omega]
  have a1 : binEv .add (.tup ((C.1.take i.toNat).map enL)) (.tup [enL x]) S = some (.tup ((C.1.take i.toNat).map enL ++ [enL x])) := bin_add_tup (by simp; omega)
  have a2 : binEv .add (.tup ((C.1.take i.toNat).map enL ++ [enL x])) (.tup ((C.1.drop (i.toNat + 1)).map enL)) S = some (.tup ((C.1.take i.toNat).map enL ++ [enL x] ++ (C.1.drop (i.toNat + 1)).map enL)) := bin_add_tup (by simp; omega)
  have e3 : enC C = .tup [.tup (C.1.map enL), fr C.2] := rfl
  have e4 : enC (exch C i x) = .tup [.tup ((C.1.take i.toNat).map enL ++ [enL x] ++ (C.1.drop (i.toNat + 1)).map enL), fr C.2] := by simp [exch, enC]
  rw [e4]
  simp only [cf20, e3, run_seq, run_asg, run_ret, ev_var, ev_tup, evs_cons, evs_nil, ev_bin, ev_sl, evo_nil, evo_one, ev_con', List.map_cons, List.map_nil, List.cons_append, List.nil_append, List.replicate, List.getElem?_cons_zero, List.getElem?_cons_succ, R.bind_ok, R.st_ok, R.opt_some, stepT_tp, go_cons, go_nil, List.length_cons, List.length_nil, List.set_cons_zero, List.set_cons_succ, SR.bind_nx, bin_add_int, sl_tup, e1, e2, a1, a2, out_rt, Nat.reduceAdd, Nat.reduceLT, Nat.reduceSub, if_true]
theorem CbOk.exch (h : CbOk C) {i : Int} (h0 : 0 ≤ i) (h1 : i < C.1.length) {x : Len} (hx : LenOk x) : CbOk (exch C i x) := by
  have := h.hi
  refine ⟨by simp [ZL.exch]; omega, by simp [ZL.exch]; omega, fun y hy => ?_, h.back, h.small⟩
  simp only [ZL.exch, List.mem_append, List.mem_singleton] at hy
  rcases hy with (hy | hy) | hy
  · exact h.len y (List.mem_of_mem_take hy)
  · rw [hy]; exact hx
  · exact h.len y (List.mem_of_mem_drop hy)
theorem exchdA (h : CbOk C) {i : Int} (h0 : 0 ≤ i) (h1 : i < C.1.length) {x : Len} (hx : LenOk x) : At P 21 7 [enC C, .int i, enL x] (enC (exch C i x)) := At.of (k := 6) p21 rfl (by decide) fun n S => by
  simp [cf21, (chkC h).ex (show 6 ≤ n + 6 by omega), (numA h h0 h1).ex (show 2 ≤ n + 6 by omega), (chkL hx).ex (show 5 ≤ n + 6 by omega), (exchA h h0 (x := x)).ex (show 1 ≤ n + 6 by omega)]
theorem roomA (h : A.1.length + B.1.length ≤ 12) : At P 22 1 [enC A, enC B] .non := At.of (k := 0) p22 rfl (by decide) fun n S => by
  have : ¬ (12 < (A.1.length : Int) + (B.1.length : Int)) := by omega
  simp [cf22, this]
def addC (A B : Cable) : Cable := (A.1 ++ B.1, A.2)
theorem addCA (h : A.1.length + B.1.length ≤ 12) : At P 23 1 [enC A, enC B] (enC (addC A B)) := At.of (k := 0) p23 rfl (by decide) fun n S => by
  have a1 : binEv .add (.tup (A.1.map enL)) (.tup (B.1.map enL)) S = some (.tup (A.1.map enL ++ B.1.map enL)) := bin_add_tup (by simp; omega)
  simp [cf23, a1, addC, enC_def]
theorem CbOk.add (h : CbOk A) (h' : CbOk B) (hl : A.1.length + B.1.length ≤ 12) : CbOk (addC A B) := by
  have := h.lo
  refine ⟨by simp [addC]; omega, by simp [addC]; omega, fun y hy => ?_, h.back, h.small⟩
  rcases List.mem_append.mp hy with hy | hy
  · exact h.len y hy
  · exact h'.len y hy
theorem addedA (h : CbOk A) (h' : CbOk B) (hl : A.1.length + B.1.length ≤ 12) : At P 24 7 [enC A, enC B] (enC (addC A B)) := At.of (k := 6) p24 rfl (by decide) fun n S => by
  simp [cf24, (chkC h).ex (show 6 ≤ n + 6 by omega), (chkC h').ex (show 6 ≤ n + 6 by omega), (roomA hl).ex (show 1 ≤ n + 6 by omega), (addCA hl).ex (show 1 ≤ n + 6 by omega)]
def trnC (C : Cable) : Cable := (C.1.reverse, C.2)
@[simp] theorem rev_tup {ds : List D} : revEv (.tup ds) S = some (.tup ds.reverse) := rfl
theorem trnCA (h : CbOk C) : At P 25 7 [enC C] (enC (trnC C)) := At.of (k := 6) p25 rfl (by decide) fun n S => by
  simp [cf25, (chkC h).ex (show 6 ≤ n + 6 by omega), trnC, enC_def, List.map_reverse]
theorem CbOk.trn (h : CbOk C) : CbOk (trnC C) := ⟨by simp [trnC]; exact h.lo, by simp [trnC]; exact h.hi, fun y hy => h.len y (List.mem_reverse.mp hy), h.back, h.small⟩
theorem steps_trn : steps (trnC C) = steps C := by
  unfold steps trnC
  simp [List.map_reverse, List.sum_reverse]
theorem steps_add : steps (addC A B) = steps A + steps B := by simp [steps, addC, List.sum_append]
def trn (T : Int) (xs : List Leak) : List Leak := xs.reverse.map fun x => ((T : Rat) - x.1, x.2)
def mov (T : Int) (ys : List Leak) : List Leak := ys.map fun y => ((T : Rat) + y.1, y.2)
theorem ltA (h : CbOk C) (hK : KsOk m C xs) (hm : m < 3000) : At P 26 8 [enC C, enKs xs] (enKs (trn (steps C) xs)) := At.of (k := 7) p26 rfl (by decide) fun n S => by
  have hst := h.st
  have hl := hK.len
  have ec := comp_map (F := evF P (n + 7)) (S := S) (elt := .tup (.cons (.call 7 (.cons (.var 2) (.cons (.var 3) .nil))) (.cons (.var 4) .nil))) (tg := .tp (.cons (.nm 3) (.cons (.nm 4) .nil))) (w := (xs.map enK).reverse) (δ := [some (enC C), some (enKs xs), some (fr ((steps C : Int) : Rat)), none, none]) (own := [3, 4]) (en := enK) (g := fun x => enK (((steps C : Int) : Rat) - x.1, x.2))
    (fun x => [some (enC C), some (enKs xs), some (fr ((steps C : Int) : Rat)), some (fr x.1), some (fr x.2)]) xs.reverse [] (fun x _ => by simp [wipeD, enK]) (fun x hx => by
      have o := hK.each x (List.mem_reverse.mp hx)
      have e := (sub_at (a := ((steps C : Int) : Rat)) (b := x.1) p7 low2 (sz_int (m := 14) (by omega) (by decide)) o.s1 (by omega)).ex (S := S) (show 3 ≤ n + 7 by omega)
      simp only [ev_tup, evs_cons, evs_nil, ev_call, ev_var, List.getElem?_cons_zero, List.getElem?_cons_succ, R.bind_ok, e, enK]) (by simp; omega)
  rw [List.nil_append, List.map_reverse (f := enK)] at ec
  have e1 : (xs.reverse.map fun x => enK (((steps C : Int) : Rat) - x.1, x.2)) = (trn (steps C) xs).map enK := by rw [trn, List.map_map]; rfl
  rw [e1] at ec
  have e2 : enKs xs = .tup (xs.map enK) := rfl
  have e3 : (.tup [.int (steps C), .int 1] : D) = fr ((steps C : Int) : Rat) := (fr_int _).symm
  have e4 : enKs (trn (steps C) xs) = .tup ((trn (steps C) xs).map enK) := rfl
  have r1 : revEv (enKs xs) S = some (.tup (xs.map enK).reverse) := rfl
  simp [cf26, (chkC h).ex (show 6 ≤ n + 7 by omega), (chkK h hK (by omega)).ex (show 7 ≤ n + 7 by omega), (stA h).ex (show 1 ≤ n + 7 by omega), r1, e3, Wk.items, e4, -List.map_reverse]
  simp only [ec]
  simp

theorem rat_le {a b : Rat} (h : a ≤ b) : (0 : Rat) ≤ b - a := by grind
theorem K_turn (h : CbOk C) (hK : KsOk m C xs) : KsOk (m + 15) (trnC C) (trn (steps C) xs) := by
  have hst := h.st
  refine ⟨by simp [trn]; exact hK.len, fun x hx => ?_, ?_⟩
  · obtain ⟨y, hy, rfl⟩ := List.mem_map.mp hx
    have o := hK.each y (List.mem_reverse.mp hy)
    refine ⟨rat_le o.hi, ?_, o.drag, ?_, o.s2.mono (by omega)⟩
    · rw [steps_trn]
      have := o.lo
      show ((steps C : Int) : Rat) - y.1 ≤ ((steps C : Int) : Rat)
      grind
    · exact (sz_sub (sz_int (m := 14) (by omega) (by decide)) o.s1).mono (by omega)
  · unfold trn
    rw [List.pairwise_map, List.pairwise_reverse]
    refine hK.up.imp fun {a b} hab => ?_
    show ((steps C : Int) : Rat) - b.1 < ((steps C : Int) : Rat) - a.1
    grind
theorem K_mono {k : Nat} (hK : KsOk m C xs) (h : m ≤ k) : KsOk k C xs := ⟨hK.len, fun x hx => by
  have o := hK.each x hx
  exact ⟨o.lo, o.hi, o.drag, o.s1.mono h, o.s2.mono h⟩, hK.up⟩
theorem K_add (hA : CbOk A) (hB : CbOk B) (hX : KsOk m A xs) (hY : KsOk m B ys) (hl : xs.length + ys.length ≤ 6) (gap : ∀ x ∈ xs, ∀ y ∈ ys, x.1 < (steps A : Int) + y.1) : KsOk (m + 15) (addC A B) (xs ++ mov (steps A) ys) := by
  have hst := hA.st
  have hst' := hB.st
  have cA : (0 : Rat) ≤ ((steps A : Int) : Rat) := by have := Rat.intCast_le_intCast.mpr hst.1; simpa using this
  have cB : (0 : Rat) ≤ ((steps B : Int) : Rat) := by have := Rat.intCast_le_intCast.mpr hst'.1; simpa using this
  have cs : ((steps (addC A B) : Int) : Rat) = ((steps A : Int) : Rat) + ((steps B : Int) : Rat) := by rw [steps_add, Rat.intCast_add]
  refine ⟨by simp [mov]; exact hl, fun x hx => ?_, ?_⟩
  · rcases List.mem_append.mp hx with hx | hx
    · have o := hX.each x hx
      have := o.hi
      exact ⟨o.lo, by rw [cs]; grind, o.drag, o.s1.mono (by omega), o.s2.mono (by omega)⟩
    · obtain ⟨y, hy, rfl⟩ := List.mem_map.mp hx
      have o := hY.each y hy
      have h1 := o.lo
      have h2 := o.hi
      refine ⟨?_, ?_, o.drag, (sz_add (sz_int (m := 14) (by omega) (by decide)) o.s1).mono (by omega), o.s2.mono (by omega)⟩
      · show (0 : Rat) ≤ ((steps A : Int) : Rat) + y.1
        grind
      · rw [cs]
        show ((steps A : Int) : Rat) + y.1 ≤ _
        grind
  · rw [List.pairwise_append]
    refine ⟨hX.up, ?_, fun x hx z hz => ?_⟩
    · unfold mov
      rw [List.pairwise_map]
      refine hY.up.imp fun {a b} hab => ?_
      show ((steps A : Int) : Rat) + a.1 < ((steps A : Int) : Rat) + b.1
      grind
    · obtain ⟨y, hy, rfl⟩ := List.mem_map.mp hz
      exact gap x hx y hy
theorem laA (hA : CbOk A) (hB : CbOk B) (hX : KsOk m A xs) (hY : KsOk m B ys) (hl : xs.length + ys.length ≤ 6) (gap : ∀ x ∈ xs, ∀ y ∈ ys, x.1 < (steps A : Int) + y.1) (hn : A.1.length + B.1.length ≤ 12) (hm : m < 3000) : At P 27 8 [enC A, enKs xs, enC B, enKs ys] (enKs (xs ++ mov (steps A) ys)) := At.of (k := 7) p27 rfl (by decide) fun n S => by
  have hst := hA.st
  have hK := K_add hA hB hX hY hl gap
  have ec := comp_map (F := evF P (n + 7)) (S := S) (elt := .tup (.cons (.call 6 (.cons (.var 4) (.cons (.var 6) .nil))) (.cons (.var 7) .nil))) (tg := .tp (.cons (.nm 6) (.cons (.nm 7) .nil))) (w := ys.map enK) (δ := [some (enC A), some (enKs xs), some (enC B), some (enKs ys), some (fr ((steps A : Int) : Rat)), none, none, none]) (own := [6, 7]) (en := enK) (g := fun x => enK (((steps A : Int) : Rat) + x.1, x.2))
    (fun x => [some (enC A), some (enKs xs), some (enC B), some (enKs ys), some (fr ((steps A : Int) : Rat)), none, some (fr x.1), some (fr x.2)]) ys [] (fun x _ => by simp [wipeD, enK]) (fun x hx => by
      have o := hY.each x hx
      have e := (add_at (a := ((steps A : Int) : Rat)) (b := x.1) p6 low2 (sz_int (m := 14) (by omega) (by decide)) o.s1 (by omega)).ex (S := S) (show 3 ≤ n + 7 by omega)
      simp only [ev_tup, evs_cons, evs_nil, ev_call, ev_var, List.getElem?_cons_zero, List.getElem?_cons_succ, R.bind_ok, e, enK]) (by simp; omega)
  rw [List.nil_append] at ec
  have e1 : (ys.map fun x => enK (((steps A : Int) : Rat) + x.1, x.2)) = (mov (steps A) ys).map enK := by rw [mov, List.map_map]; rfl
  rw [e1] at ec
  have e3 : (.tup [.int (steps A), .int 1] : D) = fr ((steps A : Int) : Rat) := (fr_int _).symm
  have a1 : binEv .add (enKs xs) (.tup ((mov (steps A) ys).map enK)) S = some (enKs (xs ++ mov (steps A) ys)) := by
    have := bin_add_tup (S := S) (xs := xs.map enK) (ys := (mov (steps A) ys).map enK) (by simp [mov]; omega)
    rw [← List.map_append] at this
    exact this
  have w1 : walkSeq S (enKs ys) = some (.fix (ys.map enK)) := rfl
  simp [cf27, (chkC hA).ex (show 6 ≤ n + 7 by omega), (chkC hB).ex (show 6 ≤ n + 7 by omega), (chkK hA hX (by omega)).ex (show 7 ≤ n + 7 by omega), (chkK hB hY (by omega)).ex (show 7 ≤ n + 7 by omega), (roomA hn).ex (show 1 ≤ n + 7 by omega), (stA hA).ex (show 1 ≤ n + 7 by omega), e3, w1, Wk.items, ec, a1, (addCA hn).ex (show 1 ≤ n + 7 by omega), (chkK (CbOk.add hA hB hn) hK (by omega)).ex (show 7 ≤ n + 7 by omega)]
theorem movA {T : Int} (hT : T.natAbs < 2 ^ 14) (hs : ∀ y ∈ ys, Sz m y.1) (hl : ys.length ≤ 900) (hm : m < 3000) : At P 38 4 [enKs ys, .int T] (enKs (mov T ys)) := At.of (k := 3) p38 rfl (by decide) fun n S => by
  have ec := comp_map (F := evF P (n + 3)) (S := S) (elt := .tup (.cons (.call 32 (.cons (.var 2) (.cons (.tup (.cons (.var 1) (.cons (.con (.int 1)) .nil))) .nil))) (.cons (.var 3) .nil))) (tg := .tp (.cons (.nm 2) (.cons (.nm 3) .nil))) (w := ys.map enK) (δ := [some (enKs ys), some (.int T), none, none]) (own := [2, 3]) (en := enK) (g := fun x => enK ((T : Rat) + x.1, x.2))
    (fun x => [some (enKs ys), some (.int T), some (fr x.1), some (fr x.2)]) ys [] (fun x _ => by simp [wipeD, enK]) (fun x hx => by
      have e := (add_at (a := x.1) (b := (T : Rat)) p32 llow (hs x hx) (sz_int (m := 14) hT (by decide)) (by omega)).ex (S := S) (show 3 ≤ n + 3 by omega)
      rw [fr_int, Rat.add_comm] at e
      simp only [ev_tup, evs_cons, evs_nil, ev_call, ev_var, ev_con', List.getElem?_cons_zero, List.getElem?_cons_succ, R.bind_ok, e, enK]) (by simp; omega)
  rw [List.nil_append] at ec
  have e1 : (ys.map fun x => enK ((T : Rat) + x.1, x.2)) = (mov T ys).map enK := by rw [mov, List.map_map]; rfl
  rw [e1] at ec
  have w1 : walkSeq S (enKs ys) = some (.fix (ys.map enK)) := rfl
  simp [cf38, w1, Wk.items, ec]
  rfl
theorem turA {T : Int} (hT : T.natAbs < 2 ^ 14) (hs : ∀ y ∈ ys, Sz m y.1) (hl : ys.length ≤ 900) (hm : m < 3000) : At P 39 4 [enKs ys, .int T] (enKs (trn T ys)) := At.of (k := 3) p39 rfl (by decide) fun n S => by
  have ec := comp_map (F := evF P (n + 3)) (S := S) (elt := .tup (.cons (.call 33 (.cons (.tup (.cons (.var 1) (.cons (.con (.int 1)) .nil))) (.cons (.var 2) .nil))) (.cons (.var 3) .nil))) (tg := .tp (.cons (.nm 2) (.cons (.nm 3) .nil))) (w := (ys.map enK).reverse) (δ := [some (enKs ys), some (.int T), none, none]) (own := [2, 3]) (en := enK) (g := fun x => enK ((T : Rat) - x.1, x.2))
    (fun x => [some (enKs ys), some (.int T), some (fr x.1), some (fr x.2)]) ys.reverse [] (fun x _ => by simp [wipeD, enK]) (fun x hx => by
      have e := (sub_at (a := (T : Rat)) (b := x.1) p33 llow (sz_int (m := 14) hT (by decide)) (hs x (List.mem_reverse.mp hx)) (by omega)).ex (S := S) (show 3 ≤ n + 3 by omega)
      rw [fr_int] at e
      simp only [ev_tup, evs_cons, evs_nil, ev_call, ev_var, ev_con', List.getElem?_cons_zero, List.getElem?_cons_succ, R.bind_ok, e, enK]) (by simp; omega)
  rw [List.nil_append, List.map_reverse (f := enK)] at ec
  have e1 : (ys.reverse.map fun x => enK ((T : Rat) - x.1, x.2)) = (trn T ys).map enK := by rw [trn, List.map_map]; rfl
  rw [e1] at ec
  have r1 : revEv (enKs ys) S = some (.tup (ys.map enK).reverse) := rfl
  simp [cf39, r1, Wk.items, -List.map_reverse]
  simp only [ec]
  simp
  rfl
end
end ZL

namespace ZL
open PySem Z
section
variable {n m : Nat} {S : Store} {C A B : Cable} {xs ys : List Leak}
theorem trn_app {T : Int} : trn T (xs ++ ys) = trn T ys ++ trn T xs := by simp [trn]
theorem trn_mov {a b : Int} : trn (a + b) (mov a ys) = trn b ys := by
  unfold trn mov
  rw [← List.map_reverse, List.map_map]
  refine List.map_congr_left fun x _ => ?_
  refine Prod.ext ?_ rfl
  show ((a + b : Int) : Rat) - ((a : Rat) + x.1) = (b : Rat) - x.1
  rw [Rat.intCast_add]
  grind
theorem trn_far {a b : Int} : trn (a + b) xs = mov b (trn a xs) := by
  unfold trn mov
  rw [List.map_map]
  refine List.map_congr_left fun x _ => ?_
  refine Prod.ext ?_ rfl
  show ((a + b : Int) : Rat) - x.1 = (b : Rat) + ((a : Rat) - x.1)
  rw [Rat.intCast_add]
  grind
theorem trn_both {a b : Int} : trn (a + b) (xs ++ mov a ys) = trn b ys ++ mov b (trn a xs) := by rw [trn_app, trn_mov, trn_far]
theorem trn_trn {T : Int} : trn T (trn T xs) = xs := by
  unfold trn
  rw [← List.map_reverse, List.reverse_reverse, List.map_map]
  have : ((fun x : Leak => ((T : Rat) - x.1, x.2)) ∘ fun x : Leak => ((T : Rat) - x.1, x.2)) = id := by
    funext x
    refine Prod.ext ?_ rfl
    show (T : Rat) - ((T : Rat) - x.1) = x.1
    grind
  rw [this, List.map_id]
theorem ne_C : cmpEv .ne (enC C) (enC C) S = some (.bl false) := by rw [cmp_ne 4 (ok_C 0 C) (ok_C 0 C) (by decide), eqD_refl 4 (ok_C 0 C)]; rfl
theorem eq_C : cmpEv .eq (enC C) (enC C) S = some (.bl true) := by rw [cmp_eq 4 (ok_C 0 C) (ok_C 0 C) (by decide), eqD_refl 4 (ok_C 0 C)]
theorem ne_K : cmpEv .ne (enKs xs) (enKs xs) S = some (.bl false) := by rw [cmp_ne 3 (ok_Ks 0 xs) (ok_Ks 0 xs) (by decide), eqD_refl 3 (ok_Ks 0 xs)]; rfl
theorem eq_K : cmpEv .eq (enKs xs) (enKs xs) S = some (.bl true) := by rw [cmp_eq 3 (ok_Ks 0 xs) (ok_Ks 0 xs) (by decide), eqD_refl 3 (ok_Ks 0 xs)]
theorem trnC_add : trnC (addC A B) = addC (trnC (B.1, A.2)) (trnC A) := by simp [trnC, addC]
theorem trnC_trnC : trnC (trnC C) = C := by simp [trnC]
theorem arA (hA : CbOk A) (hB : CbOk B) (hX : KsOk m A xs) (hY : KsOk m B ys) (hl : xs.length + ys.length ≤ 6) (gap : ∀ x ∈ xs, ∀ y ∈ ys, x.1 < (steps A : Int) + y.1) (hn : A.1.length + B.1.length ≤ 12) (hm : m < 2900) : At P 40 9 [enC A, enC B, enKs xs, enKs ys] (.bl true) := At.of (k := 8) p40 rfl (by decide) fun n S => by
  have sA := hA.st
  have sB := hB.st
  have hW : CbOk (B.1, A.2) := ⟨hB.lo, hB.hi, hB.len, hA.back, hA.small⟩
  have hAB := CbOk.add hA hB hn
  have sAB := hAB.st
  rw [steps_add] at sAB
  have hK := K_add hA hB hX hY hl gap
  have ca := steps_comp (F := evF P (n + 8)) (S := S) (C := A) (δ := [some (enC A), some (enC B), some (enKs xs), some (enKs ys), none, none, none, none, none, none, none, none, none]) (own := [12]) (i := 12) (w := A.1.map enL) (by have := hA.hi; omega) (fun x => by simp [wipeD]) (fun x => by simp [wipeD])
  have cb := steps_comp (F := evF P (n + 8)) (S := S) (C := B) (δ := [some (enC A), some (enC B), some (enKs xs), some (enKs ys), some (.int (steps A)), none, none, none, none, none, none, none, none]) (own := [12]) (i := 12) (w := B.1.map enL) (by have := hB.hi; omega) (fun x => by simp [wipeD]) (fun x => by simp [wipeD])
  have ma : bltEv .sum [.lst (A.1.map fun x => D.int x.1)] S = some (.int (steps A)) := sum_map _ _
  have mb : bltEv .sum [.lst (B.1.map fun x => D.int x.1)] S = some (.int (steps B)) := sum_map _ _
  have s1 : small62 0 := ⟨by decide, by decide⟩
  have s2 : small62 2 := ⟨by decide, by decide⟩
  have hr : rngD 0 2 = [.int 0, .int 1] := rfl
  have e1 := (addedA hA hB hn).ex (S := S) (show 7 ≤ n + 8 by omega)
  have e2 := (laA hA hB hX hY hl gap hn (by omega)).ex (S := S) (show 8 ≤ n + 8 by omega)
  have e3 := (movA (T := steps A) (by omega) (fun y hy => (hY.each y hy).s1) (by omega) (by omega)).ex (S := S) (show 4 ≤ n + 8 by omega)
  have a1 : binEv .add (.tup (A.1.map enL)) (.tup (B.1.map enL)) S = some (.tup (A.1.map enL ++ B.1.map enL)) := bin_add_tup (by simp; omega)
  have d1 : (.tup [.tup (A.1.map enL ++ B.1.map enL), fr A.2] : D) = enC (addC A B) := by simp [addC, enC]
  have a2 : binEv .add (enKs xs) (enKs (mov (steps A) ys)) S = some (enKs (xs ++ mov (steps A) ys)) := by
    have := bin_add_tup (S := S) (xs := xs.map enK) (ys := (mov (steps A) ys).map enK) (by simp [mov]; omega)
    rw [← List.map_append] at this
    exact this
  have e4 := (ltA hAB hK (by omega)).ex (S := S) (show 8 ≤ n + 8 by omega)
  rw [steps_add] at e4
  have e5 := (turA (T := steps A + steps B) (by omega) (fun y hy => (hK.each y hy).s1) (by have := hK.len; omega) (by omega)).ex (S := S) (show 4 ≤ n + 8 by omega)
  have e6 := (trnCA hAB).ex (S := S) (show 7 ≤ n + 8 by omega)
  have hT := K_turn hAB hK
  rw [steps_add] at hT
  have e7 := (ltA (CbOk.trn hAB) hT (by omega)).ex (S := S) (show 8 ≤ n + 8 by omega)
  rw [steps_trn, steps_add, trn_trn] at e7
  have d2 : (.tup [.tup (B.1.map enL), fr A.2] : D) = enC (B.1, A.2) := rfl
  have e8 := (trnCA hW).ex (S := S) (show 7 ≤ n + 8 by omega)
  have e9 := (trnCA hA).ex (S := S) (show 7 ≤ n + 8 by omega)
  have hn2 : (trnC (B.1, A.2)).1.length + (trnC A).1.length ≤ 12 := by simp [trnC]; omega
  have e10 := (addedA (CbOk.trn hW) (CbOk.trn hA) hn2).ex (S := S) (show 7 ≤ n + 8 by omega)
  rw [← trnC_add] at e10
  have e11 := (trnCA (CbOk.trn hAB)).ex (S := S) (show 7 ≤ n + 8 by omega)
  rw [trnC_trnC] at e11
  have e12 := (ltA hB hY (by omega)).ex (S := S) (show 8 ≤ n + 8 by omega)
  have e13 := (ltA hA hX (by omega)).ex (S := S) (show 8 ≤ n + 8 by omega)
  have hY' : KsOk (m + 15) (trnC (B.1, A.2)) (trn (steps B) ys) := by
    have := K_turn hB hY
    exact ⟨this.len, fun x hx => by
      have o := this.each x hx
      exact ⟨o.lo, o.hi, o.drag, o.s1, o.s2⟩, this.up⟩
  have hX' := K_turn hA hX
  have hstW : steps (trnC (B.1, A.2)) = steps B := by rw [steps_trn]; rfl
  have e14 := (laA (CbOk.trn hW) (CbOk.trn hA) hY' hX' (by simp [trn]; omega) (fun x hx y hy => by
    obtain ⟨u, hu, rfl⟩ := List.mem_map.mp hx
    obtain ⟨v, hv, rfl⟩ := List.mem_map.mp hy
    have g := gap v (List.mem_reverse.mp hv) u (List.mem_reverse.mp hu)
    rw [hstW]
    show ((steps B : Int) : Rat) - u.1 < ((steps B : Int) : Rat) + (((steps A : Int) : Rat) - v.1)
    grind) hn2 (by omega)).ex (S := S) (show 8 ≤ n + 8 by omega)
  rw [hstW, ← trn_both] at e14
  simp [cf40, Wk.items, ca, cb, ma, mb, -blt_sum, s1, s2, hr, forEv, at_fix, e1, e2, e3, a1, d1, a2, e4, e5, e6, e7, d2, e8, e9, e10, e11, e12, e13, e14, ne_C, ne_K, eq_K]

theorem exch_back (C : Cable) {i : Int} (h0 : 0 ≤ i) (h1 : i.toNat < C.1.length) {x : Len} : exch (exch C i x) i C.1[i.toNat] = C := by
  obtain ⟨ls, b⟩ := C
  simp only [exch]
  have h1 : i.toNat < ls.length := h1
  congr 1
  have e1 : (List.take i.toNat ls).length = i.toNat := by simp; omega
  have t1 : (List.take i.toNat ls ++ [x] ++ List.drop (i.toNat + 1) ls).take i.toNat = List.take i.toNat ls := by rw [List.append_assoc, List.take_left' e1]
  have t2 : (List.take i.toNat ls ++ [x] ++ List.drop (i.toNat + 1) ls).drop (i.toNat + 1) = List.drop (i.toNat + 1) ls := List.drop_left' (by simp; omega)
  rw [t1, t2, List.append_assoc]
  have : ls[i.toNat] :: List.drop (i.toNat + 1) ls = List.drop i.toNat ls := (List.drop_eq_getElem_cons h1).symm
  show List.take i.toNat ls ++ (ls[i.toNat] :: List.drop (i.toNat + 1) ls) = ls
  rw [this, List.take_append_drop]
theorem exch_turn (C : Cable) {i : Int} (h0 : 0 ≤ i) (h1 : i < C.1.length) {x : Len} : trnC (exch C i x) = exch (trnC C) ((C.1.length : Int) - 1 - i) x := by
  obtain ⟨ls, b⟩ := C
  have h1 : i < (ls.length : Int) := h1
  simp only [exch, trnC]
  congr 1
  have e : ((ls.length : Int) - 1 - i).toNat = ls.length - 1 - i.toNat := by omega
  rw [e, List.reverse_append, List.reverse_append, List.take_reverse, List.drop_reverse]
  rw [show ls.length - (ls.length - 1 - i.toNat) = i.toNat + 1 by omega, show ls.length - (ls.length - 1 - i.toNat + 1) = i.toNat by omega]
  simp
variable {p : Nat} {q : Q3}
def b41 : CS := (.seq (.asg (.tp (.cons (.nm 3) (.cons (.nm 4) .nil))) (.tup (.cons (.call 30 (.cons (.var 0) (.cons (.blt .len (.cons (.idx (.var 1) (.con (.int 0))) .nil)) .nil))) (.cons (.idx (.call 36 (.cons (.var 0) (.cons (.con (.int 1)) .nil))) (.con (.int 0))) .nil)))) (.seq (.asg (.nm 5) (.call 21 (.cons (.var 1) (.cons (.var 3) (.cons (.var 4) .nil))))) (.seq (.ife (.cmp .ne (.var 5) (.tup (.cons (.bin .add (.bin .add (.sl (.idx (.var 1) (.con (.int 0))) .nil (.one (.var 3))) (.tup (.cons (.var 4) .nil))) (.sl (.idx (.var 1) (.con (.int 0))) (.one (.bin .add (.var 3) (.con (.int 1)))) .nil)) (.cons (.idx (.var 1) (.con (.int 1))) .nil)))) (.ret (.con (.bl false))) .skip) (.seq (.ife (.or (.not (.isi (.idx (.var 5) (.con (.int 0))) .tup)) (.cmp .ne (.call 21 (.cons (.var 5) (.cons (.var 3) (.cons (.idx (.idx (.var 1) (.con (.int 0))) (.var 3)) .nil)))) (.var 1))) (.ret (.con (.bl false))) .skip) (.ife (.cmp .ne (.call 25 (.cons (.var 5) .nil)) (.call 21 (.cons (.call 25 (.cons (.var 1) .nil)) (.cons (.bin .sub (.bin .sub (.blt .len (.cons (.idx (.var 1) (.con (.int 0))) .nil)) (.con (.int 1))) (.var 3)) (.cons (.var 4) .nil))))) (.ret (.con (.bl false))) .skip)))))
theorem p41' : L.prog 41 = some ⟨2, 6, (.seq (.fr (.nm 2) (.rng (.con (.int 0)) (.con (.int 2))) b41) (.ret (.cmp .eq (.call 21 (.cons (.var 1) (.cons (.con (.int 0)) (.cons (.idx (.idx (.var 1) (.con (.int 0))) (.con (.int 0))) .nil)))) (.var 1))))⟩ := p41
theorem erA (h : CbOk C) (hp : p < S.length) (q : Q3) {k : Nat} (hk : 9 ≤ k) : ∃ q', evF P k 41 [.ref p, enC C] (Sq S p q) = .ok (.bl true) (Sq S p q') := by
  obtain ⟨j, rfl⟩ : ∃ j, k = j + 1 := ⟨k - 1, by omega⟩
  have hl := h.hi
  have hlo := h.lo
  have round : ∀ (q : Q3) (x2 x3 x4 x5 : Option D) (y2 : Option D), ∃ (y3 y4 y5 : Option D) (q' : Q3), run (evF P j) b41
      [some (.ref p), some (enC C), y2, x3, x4, x5] (Sq S p q) = .nx [some (.ref p), some (enC C), y2, y3, y4, y5] (Sq S p q') := fun q x2 x3 x4 x5 y2 => by
    obtain ⟨i, q1, e1, i0, i1⟩ := pick_ex p30 (show 1 ≤ j by omega) hp q (m := C.1.length) (by omega) (by omega)
    obtain ⟨ls, q2, e2, o2, l2⟩ := some_ex p36 p30 llow (show 3 ≤ j by omega) hp q1 (c := 1) (by decide) (by decide)
    obtain ⟨x, rfl⟩ : ∃ x, ls = [x] := by
      match ls, l2 with
      | [x], _ => exact ⟨x, rfl⟩
      | [], h => simp at h
      | _ :: _ :: _, h => simp at h; omega
    have hx := o2 x (by simp)
    have hE := CbOk.exch h i0 i1 hx
    have it : i.toNat < C.1.length := by omega
    have e3 := (exchdA h i0 i1 hx).ex (S := Sq S p q2) (k := 7) (m := j) (by omega)
    have lE : (exch C i x).1.length = C.1.length := by simp [exch]; omega
    have e4 := (exchdA hE i0 (by omega) (x := C.1[i.toNat]) (h.len _ (List.getElem_mem it))).ex (S := Sq S p q2) (k := 7) (m := j) (by omega)
    rw [exch_back C i0 it] at e4
    have e5 := (trnCA hE).ex (S := Sq S p q2) (k := 7) (m := j) (by omega)
    have e6 := (trnCA h).ex (S := Sq S p q2) (k := 7) (m := j) (by omega)
    have e7 := (exchdA (CbOk.trn h) (i := (C.1.length : Int) - 1 - i) (by omega) (by simp [trnC]; omega) hx).ex (S := Sq S p q2) (k := 7) (m := j) (by omega)
    rw [← exch_turn C i0 i1] at e7
    have c1 : cutD (C.1.map enL) none (some i) = (C.1.take i.toNat).map enL := by rw [cut_take i0, List.map_take]
    have c2 : cutD (C.1.map enL) (some (i + 1)) none = (C.1.drop (i.toNat + 1)).map enL := by rw [cut_drop (by omega), List.map_drop, show (i + 1).toNat = i.toNat + 1 by omega]
    have a1 : binEv .add (.tup ((C.1.take i.toNat).map enL)) (.tup [enL x]) (Sq S p q2) = some (.tup ((C.1.take i.toNat).map enL ++ [enL x])) := bin_add_tup (by simp; omega)
    have a2 : binEv .add (.tup ((C.1.take i.toNat).map enL ++ [enL x])) (.tup ((C.1.drop (i.toNat + 1)).map enL)) (Sq S p q2) = some (.tup ((C.1.take i.toNat).map enL ++ [enL x] ++ (C.1.drop (i.toNat + 1)).map enL)) := bin_add_tup (by simp; omega)
    have d1 : (.tup [.tup ((C.1.take i.toNat).map enL ++ [enL x] ++ (C.1.drop (i.toNat + 1)).map enL), fr C.2] : D) = enC (exch C i x) := by simp [exch, enC]
    have g1 : L2.atI (C.1.map enL) i = some (enL C.1[i.toNat]) := by rw [atI_of i0]; simp [it]
    refine ⟨some (.int i), some (enL x), some (enC (exch C i x)), q2, ?_⟩
    simp only [b41, run_seq, run_asg, run_ife, ev_tup, evs_cons, evs_nil, ev_call, ev_var, ev_con', ev_idx, ev_blt, ev_bin, ev_sl, ev_cmp, ev_or, ev_not, ev_isi, evo_nil, evo_one, List.getElem?_cons_zero, List.getElem?_cons_succ, R.bind_ok, R.st_ok, R.opt_some, idx_C0, idx_C1, blt_len, len_tup, List.length_map, e1, e2, idx_tup, List.map_cons, List.map_nil, at0, stepT_tp, stepT_nm, go_cons, go_nil, List.length_cons, List.length_nil, Nat.reduceAdd, Nat.reduceLT, if_true, List.set_cons_zero, List.set_cons_succ, SR.bind_nx, e3, sl_tup, c1, a1, bin_add_int, c2, a2, d1, ne_C, isi_tup_tup, Option.map_some, Bool.not_true, e4, g1, e5, e6, bin_sub_int, e7, run_skip]
  obtain ⟨y3, y4, y5, q1, e1⟩ := round q none none none none (some (.int 0))
  obtain ⟨z3, z4, z5, q2, e2⟩ := round q1 none y3 y4 y5 (some (.int 1))
  refine ⟨q2, ?_⟩
  rw [evF_body p41' rfl (by decide)]
  have s1 : small62 0 := ⟨by decide, by decide⟩
  have s2 : small62 2 := ⟨by decide, by decide⟩
  have hr : rngD 0 2 = [.int 0, .int 1] := rfl
  have it : (0 : Int).toNat < C.1.length := by simp; omega
  have g1 : L2.atI (C.1.map enL) 0 = some (enL C.1[(0 : Int).toNat]) := by rw [atI_of (by decide)]; rw [List.getElem?_map, List.getElem?_eq_getElem it]; rfl
  have e3 := (exchdA h (i := 0) (by decide) (by omega) (x := C.1[(0 : Int).toNat]) (h.len _ (List.getElem_mem it))).ex (S := Sq S p q2) (k := 7) (m := j) (by omega)
  have e4 : exch C 0 C.1[(0 : Int).toNat] = C := by
    have := exch_back C (i := 0) (by decide) it (x := C.1[(0 : Int).toNat])
    obtain ⟨ls, b⟩ := C
    cases ls with
    | nil => simp at it
    | cons y ls => simp [exch]
  rw [e4] at e3
  have e5 : evF L.prog j 21 [enC C, .int 0, enL C.1[0]] (Sq S p q2) = .ok (enC C) (Sq S p q2) := e3
  simp [s1, s2, Wk.items, hr, forEv, at_fix, e1, e2, g1, e5, eq_C]
  rw [gc_same (by simp)]
end
end ZL

namespace ZL
open PySem Z
section
variable {n m : Nat} {S : Store} {C A B : Cable} {xs ys : List Leak}
def gapC : CE := (.and (.cmp .ne (.sl (.var 6) (.one (.neg (.con (.int 1)))) .nil) (.tup .nil)) (.and (.cmp .eq (.idx (.idx (.var 6) (.neg (.con (.int 1)))) (.con (.int 0))) (.var 8)) (.and (.cmp .ne (.sl (.var 7) .nil (.one (.con (.int 1)))) (.tup .nil)) (.cmp .eq (.idx (.idx (.var 7) (.con (.int 0))) (.con (.int 0))) (.tup (.cons (.con (.int 0)) (.cons (.con (.int 1)) .nil)))))))
theorem sl_Ks {lo hi : Option Int} : slEv (enKs xs) lo hi S = some (.tup (cutD (xs.map enK) lo hi)) := rfl
theorem idx_Ks {i : Int} : idxEv (enKs xs) (.int i) S = L2.atI (xs.map enK) i := rfl
theorem idx_K0 {x : Leak} : idxEv (enK x) (.int 0) S = some (fr x.1) := by simp [enK]
theorem ne_one {x : Leak} : cmpEv .ne (.tup [enK x]) (.tup []) S = some (.bl true) := by
  rw [cmp_ne 3 (ok_tup fun d hd => by rw [List.mem_singleton.mp hd]; exact ok_K 0 x) (by rfl) (by decide)]
  simp [eqD, py, pys, enK, fr, PyData.eqv, PyData.eqvAll]
theorem ne_nil : cmpEv .ne (.tup []) (.tup []) S = some (.bl false) := by rw [cmp_ne 3 (by rfl) (by rfl) (by decide)]; rfl
theorem eq_fr {a b : Rat} : cmpEv .eq (fr a) (fr b) S = some (.bl (decide (a = b))) := by rw [cmp_eq 1 (ok_fr 0 a) (ok_fr 0 b) (by decide), eqD_fr]
theorem cut_last {ds : List D} {d : D} : cutD (ds ++ [d]) (some (-1)) none = [d] := by
  have : HT.sIx (ds ++ [d]).length 0 (some (-1)) = ds.length := by
    simp only [HT.sIx]
    simp
    omega
  unfold cutD
  rw [this]
  simp [HT.sIx]
theorem at_last {ds : List D} {d : D} : L2.atI (ds ++ [d]) (-1) = some d := by
  unfold L2.atI L2.ixN
  rw [if_neg (by decide), if_pos (by simp; omega)]
  have : ((-1 : Int) + ((ds ++ [d]).length : Int)).toNat = ds.length := by simp; omega
  simp only [Option.bind_some, this]
  simp
theorem z_fr : (.tup [.int 0, .int 1] : D) = fr 0 := rfl
theorem gap_step {j : Nat} (hA : CbOk A) (hB : CbOk B) (hX : KsOk m A xs) (hY : KsOk m B ys) (hl : xs.length + ys.length ≤ 6) (v0 v1 v2 v3 v4 v5 v9 v10 : Option D) : ∃ ys', run (evF P j) (.ife gapC (.asg (.nm 7) (.sl (.var 7) (.one (.con (.int 1))) .nil)) .skip) [v0, v1, v2, v3, v4, v5, some (enKs xs), some (enKs ys), some (fr ((steps A : Int) : Rat)), v9, v10] S = .nx [v0, v1, v2, v3, v4, v5, some (enKs xs), some (enKs ys'), some (fr ((steps A : Int) : Rat)), v9, v10] S ∧
    KsOk m B ys' ∧ xs.length + ys'.length ≤ 6 ∧ ∀ x ∈ xs, ∀ y ∈ ys', x.1 < (steps A : Int) + y.1 := by
  rcases List.eq_nil_or_concat xs with rfl | ⟨init, x, e⟩
  · refine ⟨ys, ?_, hY, hl, fun x hx => by cases hx⟩
    have c1 : cutD (([] : List Leak).map enK) (some (-1)) none = [] := by unfold cutD; simp
    have c1' : cutD ([] : List D) (some (-1)) none = [] := c1
    simp [gapC, sl_Ks, c1', ne_nil]
  · rw [List.concat_eq_append] at e
    subst e
    have lx : ((init ++ [x]).map enK) = init.map enK ++ [enK x] := by simp
    have ox := hX.each x (by simp)
    have up := hX.up
    rw [List.pairwise_append] at up
    have below : ∀ z ∈ init ++ [x], z.1 ≤ x.1 := fun z hz => by
      rcases List.mem_append.mp hz with hz | hz
      · exact Rat.le_of_lt (up.2.2 z hz x (by simp))
      · rw [List.mem_singleton.mp hz]; exact Rat.le_refl
    by_cases hx : x.1 = ((steps A : Int) : Rat)
    · cases ys with
      | nil =>
        refine ⟨[], ?_, hY, hl, fun x _ y hy => by cases hy⟩
        have c2 : cutD (([] : List Leak).map enK) none (some 1) = [] := by unfold cutD; simp
        simp only [gapC, run_ife, ev_and, ev_cmp, ev_sl, ev_var, evo_one, evo_nil, ev_neg, ev_con', ev_tup, evs_nil, List.getElem?_cons_zero, List.getElem?_cons_succ, R.bind_ok, sl_Ks, lx, cut_last, R.opt_some, ne_one, ev_idx, idx_Ks, at_last, idx_K0, eq_fr, hx, decide_true, c2, ne_nil, R.st_ok, run_skip, Int.reduceNeg]
      | cons y ys =>
        have oy := hY.each y (by simp)
        have upy := hY.up
        rw [List.pairwise_cons] at upy
        have c2 : cutD ((y :: ys).map enK) none (some 1) = [enK y] := by rw [cut_take (by decide)]; simp
        have g2 : L2.atI ((y :: ys).map enK) 0 = some (enK y) := by rw [List.map_cons, at0]
        by_cases hy : y.1 = 0
        · refine ⟨ys, ?_, ⟨by have := hY.len; simp at this; omega, fun z hz => hY.each z (List.mem_cons_of_mem _ hz), upy.2⟩, by simp at hl ⊢; omega, fun z hz w hw => ?_⟩
          · have c3 : cutD ((y :: ys).map enK) (some 1) none = ys.map enK := by rw [cut_drop (by decide)]; simp
            simp only [gapC, run_ife, ev_and, ev_cmp, ev_sl, ev_var, evo_one, evo_nil, ev_neg, ev_con', ev_tup, evs_cons, evs_nil, List.getElem?_cons_zero, List.getElem?_cons_succ, R.bind_ok, sl_Ks, lx, cut_last, R.opt_some, ne_one, ev_idx, idx_Ks, at_last, idx_K0, eq_fr, hx, decide_true, c2, g2, z_fr, hy, R.st_ok, run_asg, c3, stepT_nm, List.length_cons, List.length_nil, Nat.reduceAdd, Nat.reduceLT, if_true, List.set_cons_succ, List.set_cons_zero, Int.reduceNeg]
            rfl
          · have b1 := below z hz
            have b2 := upy.1 w hw
            rw [hx] at b1
            rw [hy] at b2
            grind
        · refine ⟨y :: ys, ?_, hY, hl, fun z hz w hw => ?_⟩
          · simp only [gapC, run_ife, ev_and, ev_cmp, ev_sl, ev_var, evo_one, evo_nil, ev_neg, ev_con', ev_tup, evs_cons, evs_nil, List.getElem?_cons_zero, List.getElem?_cons_succ, R.bind_ok, sl_Ks, lx, cut_last, R.opt_some, ne_one, ev_idx, idx_Ks, at_last, idx_K0, eq_fr, hx, decide_true, c2, g2, z_fr, hy, decide_false, R.st_ok, run_skip, Int.reduceNeg]
          · have b1 := below z hz
            rw [hx] at b1
            have b3 : 0 < w.1 := by
              have y0 : 0 < y.1 := Rat.lt_of_le_of_ne oy.lo (Ne.symm hy)
              rcases List.mem_cons.mp hw with e | hw
              · rw [e]; exact y0
              · have := upy.1 w hw; grind
            grind
    · refine ⟨ys, ?_, hY, hl, fun z hz w hw => ?_⟩
      · simp only [gapC, run_ife, ev_and, ev_cmp, ev_sl, ev_var, evo_one, evo_nil, ev_neg, ev_con', ev_tup, evs_cons, evs_nil, List.getElem?_cons_zero, List.getElem?_cons_succ, R.bind_ok, sl_Ks, lx, cut_last, R.opt_some, ne_one, ev_idx, idx_Ks, at_last, idx_K0, eq_fr, hx, decide_false, R.st_ok, run_skip, Int.reduceNeg]
      · have b1 := below z hz
        have b2 : x.1 < ((steps A : Int) : Rat) := Rat.lt_of_le_of_ne ox.hi hx
        have b3 := (hY.each w hw).lo
        grind
end
end ZL

namespace ZL
open PySem Z
def gapS : CS := (.ife gapC (.asg (.nm 7) (.sl (.var 7) (.one (.con (.int 1))) .nil)) .skip)
def b42 : CS := (.seq (.asg (.nm 2) (.call 29 (.cons (.call 28 (.cons (.var 0) (.cons (.var 1) .nil))) .nil))) (.seq (.asg (.nm 3) (.bin .add (.con (.int 1)) (.call 30 (.cons (.var 2) (.cons (.idx (.lst (.cons (.con (.int 5)) (.cons (.con (.int 11)) .nil))) (.call 30 (.cons (.var 2) (.cons (.con (.int 2)) .nil)))) .nil))))) (.seq (.asg (.nm 4) (.tup (.cons (.call 36 (.cons (.var 2) (.cons (.var 3) .nil))) (.cons (.call 37 (.cons (.var 2) .nil)) .nil)))) (.seq (.asg (.nm 5) (.tup (.cons (.call 36 (.cons (.var 2) (.cons (.bin .add (.con (.int 1)) (.call 30 (.cons (.var 2) (.cons (.bin .sub (.con (.int 12)) (.var 3)) .nil)))) .nil))) (.cons (.call 37 (.cons (.var 2) .nil)) .nil)))) (.seq (.asg (.nm 6) (.call 35 (.cons (.var 2) (.cons (.var 4) (.cons (.con (.int 6)) .nil))))) (.seq (.asg (.nm 7) (.call 35 (.cons (.var 2) (.cons (.var 5) (.cons (.bin .sub (.con (.int 6)) (.blt .len (.cons (.var 6) .nil))) .nil))))) (.seq (.asg (.nm 8) (.tup (.cons (.blt .sum (.cons (.comp (.idx (.var 10) (.con (.int 0))) (.nm 10) (.one (.idx (.var 4) (.con (.int 0)))) (.con (.bl true)) [10] false) .nil)) (.cons (.con (.int 1)) .nil)))) (.seq gapS (.seq (.ife (.or (.not (.call 40 (.cons (.var 4) (.cons (.var 5) (.cons (.var 6) (.cons (.var 7) .nil)))))) (.not (.call 41 (.cons (.var 2) (.cons (.var 4) .nil))))) (.ret (.con (.bl false))) .skip) (.seq (.asg (.nm 9) (.tup (.cons (.call 36 (.cons (.var 2) (.cons (.con (.int 1)) .nil))) (.cons (.tup (.cons (.con (.int 0)) (.cons (.con (.int 1)) .nil))) .nil)))) (.ife (.and (.cmp .lt (.bin .add (.var 3) (.blt .len (.cons (.idx (.var 5) (.con (.int 0))) .nil))) (.con (.int 12))) (.cmp .ne (.call 24 (.cons (.call 24 (.cons (.var 4) (.cons (.var 5) .nil))) (.cons (.var 9) .nil))) (.call 24 (.cons (.var 4) (.cons (.call 24 (.cons (.var 5) (.cons (.var 9) .nil))) .nil))))) (.ret (.con (.bl false))) .skip)))))))))))
theorem p42' : L.prog 42 = some ⟨1, 11, .seq (.fr (.nm 1) (.rng (.con (.int 0)) (.blt .max (.cons (.con (.int 2)) (.cons (.blt .min (.cons (.blt .len (.cons (.var 0) .nil)) (.cons (.con (.int 6)) .nil))) .nil)))) b42) (.ret (.con (.bl true)))⟩ := p42

section
variable {m : Nat} {S : Store} {C A B : Cable}
theorem addC_assoc {Z : Cable} : addC (addC A B) Z = addC A (addC B Z) := by simp [addC]
theorem zero_small : Small 0 := ⟨by decide, by decide⟩
theorem round42 {j : Nat} (hj : 10 ≤ j) (ns : List Int) {i : Int} (h0 : 0 ≤ i) (h1 : i < 2 ^ 60) (S : Store) (x2 x3 x4 x5 x6 x7 x8 x9 x10 : Option D) : ∃ (y2 y3 y4 y5 y6 y7 y8 y9 : Option D) (S' : Store),
    run (evF P j) b42 [some (.scr (ns.map .int)), some (.int i), x2, x3, x4, x5, x6, x7, x8, x9, x10] S = .nx [some (.scr (ns.map .int)), some (.int i), y2, y3, y4, y5, y6, y7, y8, y9, x10] S' := by
  have hj1 : 1 ≤ j := by omega
  obtain ⟨c, e1⟩ : ∃ c, evF P j 28 [.scr (ns.map .int), .int i] S = .ok (.int c) S := by
    obtain ⟨k, rfl⟩ : ∃ k, j = k + 1 := ⟨j - 1, by omega⟩
    exact cell_spec p28 h0 h1
  obtain ⟨q0, e2⟩ : ∃ q, evF P j 29 [.int c] S = .ok (.ref S.length) (Sq (S ++ [.gone]) S.length q) := by
    obtain ⟨k, rfl⟩ : ∃ k, j = k + 1 := ⟨j - 1, by omega⟩
    exact purse_spec p29
  have hp : S.length < (S ++ [Cell.gone]).length := by simp
  generalize S.length = p at *
  generalize S ++ [Cell.gone] = T at *
  obtain ⟨r1, q1, e3, l1, u1⟩ := pick_ex p30 hj1 hp q0 (m := 2) (by decide) (by decide)
  obtain ⟨a, ha, s1⟩ := at_sel (l := [5, 11]) l1 u1
  have ba : 0 < a ∧ a ≤ 11 := by simp at ha; omega
  obtain ⟨r2, q2, e4, l2, u2⟩ := pick_ex p30 hj1 hp q1 (m := a) ba.1 (by omega)
  obtain ⟨la, q3, e5, oa, na⟩ := some_ex p36 p30 llow (show 3 ≤ j by omega) hp q2 (c := 1 + r2) (by omega) (by omega)
  obtain ⟨wa, q4, e6, za, sa⟩ := back_ex p37 p30 llow (show 3 ≤ j by omega) hp q3
  obtain ⟨r3, q5, e7, l3, u3⟩ := pick_ex p30 hj1 hp q4 (m := 12 - (1 + r2)) (by omega) (by omega)
  obtain ⟨lb, q6, e8, ob, nb⟩ := some_ex p36 p30 llow (show 3 ≤ j by omega) hp q5 (c := 1 + r3) (by omega) (by omega)
  obtain ⟨wb, q7, e9, zb, sb⟩ := back_ex p37 p30 llow (show 3 ≤ j by omega) hp q6
  have hA : CbOk (la, wa) := ⟨by show 1 ≤ la.length; omega, by show la.length ≤ 12; omega, oa, za, sa⟩
  have hB : CbOk (lb, wb) := ⟨by show 1 ≤ lb.length; omega, by show lb.length ≤ 12; omega, ob, zb, sb⟩
  have hn : (la, wa).1.length + (lb, wb).1.length ≤ 12 := by show la.length + lb.length ≤ 12; omega
  have dA : (.tup [.tup (la.map enL), fr wa] : D) = enC (la, wa) := rfl
  have dB : (.tup [.tup (lb.map enL), fr wb] : D) = enC (lb, wb) := rfl
  have nB : (lb, wb).1.length = lb.length := rfl
  generalize hAe : ((la, wa) : Cable) = A at *
  generalize hBe : ((lb, wb) : Cable) = B at *
  obtain ⟨xs, q8, e10, kx, nx⟩ := draw_ex p35 p30 llow (show 3 ≤ j by omega) hp q7 hA (fun j' e => draw_step p30 p34 llow (by omega) hA) (c := 6) (by decide) (by decide)
  obtain ⟨ys, q9, e11, ky, ny⟩ := draw_ex p35 p30 llow (show 3 ≤ j by omega) hp q8 hB (fun j' e => draw_step p30 p34 llow (by omega) hB) (c := 6 - (xs.length : Int)) (by omega) (by omega)
  have ca := steps_comp (F := evF P j) (S := Sq T p q9) (C := A) (δ := [some (.scr (ns.map .int)), some (.int i), some (.ref p), some (.int (1 + r2)), some (enC A), some (enC B), some (enKs xs), some (enKs ys), x8, x9, x10]) (own := [10]) (i := 10) (w := A.1.map enL) (by have := hA.hi; omega) (fun x => by simp [wipeD]) (fun x => by simp [wipeD])
  have ma : bltEv .sum [.lst (A.1.map fun x => D.int x.1)] (Sq T p q9) = some (.int (steps A)) := sum_map _ _
  have dT : (.tup [.int (steps A), .int 1] : D) = fr ((steps A : Int) : Rat) := (fr_int _).symm
  obtain ⟨ys', e12, ky', ll, gap⟩ := gap_step (S := Sq T p q9) (j := j) hA hB kx ky (by omega) (some (.scr (ns.map .int))) (some (.int i)) (some (.ref p)) (some (.int (1 + r2))) (some (enC A)) (some (enC B)) x9 x10
  have e12' : run (evF P j) gapS [some (.scr (ns.map .int)), some (.int i), some (.ref p), some (.int (1 + r2)), some (enC A), some (enC B), some (enKs xs), some (enKs ys), some (fr ((steps A : Int) : Rat)), x9, x10] (Sq T p q9) = .nx [some (.scr (ns.map .int)), some (.int i), some (.ref p), some (.int (1 + r2)), some (enC A), some (enC B), some (enKs xs), some (enKs ys'), some (fr ((steps A : Int) : Rat)), x9, x10] (Sq T p q9) := e12
  have e13 := (arA hA hB kx ky' ll gap hn (by decide)).ex (S := Sq T p q9) (show 9 ≤ j by omega)
  obtain ⟨q10, e14⟩ := erA hA hp q9 (show 9 ≤ j by omega)
  obtain ⟨lz, q11, e15, oz, nz⟩ := some_ex p36 p30 llow (show 3 ≤ j by omega) hp q10 (c := 1) (by decide) (by decide)
  have hZ : CbOk (lz, 0) := ⟨by show 1 ≤ lz.length; omega, by show lz.length ≤ 12; omega, oz, Rat.le_refl, zero_small⟩
  have dZ : (.tup [.tup (lz.map enL), .tup [.int 0, .int 1]] : D) = enC (lz, 0) := rfl
  have lB : lenEv (Sq T p q11) (.tup (B.1.map enL)) = some (.int (lb.length : Int)) := by simp [← nB]
  have lX : lenEv (Sq T p q8) (enKs xs) = some (.int (xs.length : Int)) := by simp [enKs]
  have nA : A.1.length = la.length := by rw [← hAe]
  by_cases hc : 1 + r2 + (lb.length : Int) < 12
  · have f1 := (addedA hA hB hn).ex (S := Sq T p q11) (show 7 ≤ j by omega)
    have f2 := (addedA (CbOk.add hA hB hn) hZ (by show (A.1 ++ B.1).length + lz.length ≤ 12; simp; omega)).ex (S := Sq T p q11) (show 7 ≤ j by omega)
    have f3 := (addedA hB hZ (by show B.1.length + lz.length ≤ 12; omega)).ex (S := Sq T p q11) (show 7 ≤ j by omega)
    have f4 := (addedA hA (CbOk.add hB hZ (by show B.1.length + lz.length ≤ 12; omega)) (by show A.1.length + (B.1 ++ lz).length ≤ 12; simp; omega)).ex (S := Sq T p q11) (show 7 ≤ j by omega)
    rw [← addC_assoc] at f4
    refine ⟨some (.ref p), some (.int (1 + r2)), some (enC A), some (enC B), some (enKs xs), some (enKs ys'), some (fr ((steps A : Int) : Rat)), some (enC (lz, 0)), Sq T p q11, ?_⟩
    simp only [List.map_cons, List.map_nil] at s1
    simp only [b42, run_seq, run_asg, run_ife, ev_tup, evs_cons, evs_nil, ev_call, ev_var, ev_con', ev_idx, ev_lst, ev_blt, ev_bin, ev_cmp, ev_or, ev_and, ev_not, ev_comp, evI_one, walk_tup', Wk.items, List.getElem?_cons_zero, List.getElem?_cons_succ, R.bind_ok, R.st_ok, R.opt_some, idx_C0, blt_len, e1, e2, stepT_nm, List.length_cons, List.length_nil, Nat.reduceAdd, Nat.reduceLT, if_true, List.set_cons_zero, List.set_cons_succ, SR.bind_nx, e3, idx_lst, s1, e4, bin_add_int, e5, e6, dA, bin_sub_int, e7, e8, e9, dB, e10, lX, e11, ca, ma, dT, Bool.false_eq_true, if_false, e12', e13, Bool.not_true, e14, run_skip, e15, dZ, lB, cmp_lt, hc, decide_true, f1, f2, f3, f4, ne_C]
  · refine ⟨some (.ref p), some (.int (1 + r2)), some (enC A), some (enC B), some (enKs xs), some (enKs ys'), some (fr ((steps A : Int) : Rat)), some (enC (lz, 0)), Sq T p q11, ?_⟩
    simp only [List.map_cons, List.map_nil] at s1
    simp only [b42, run_seq, run_asg, run_ife, ev_tup, evs_cons, evs_nil, ev_call, ev_var, ev_con', ev_idx, ev_lst, ev_blt, ev_bin, ev_cmp, ev_or, ev_and, ev_not, ev_comp, evI_one, walk_tup', Wk.items, List.getElem?_cons_zero, List.getElem?_cons_succ, R.bind_ok, R.st_ok, R.opt_some, idx_C0, blt_len, e1, e2, stepT_nm, List.length_cons, List.length_nil, Nat.reduceAdd, Nat.reduceLT, if_true, List.set_cons_zero, List.set_cons_succ, SR.bind_nx, e3, idx_lst, s1, e4, bin_add_int, e5, e6, dA, bin_sub_int, e7, e8, e9, dB, e10, lX, e11, ca, ma, dT, Bool.false_eq_true, if_false, e12', e13, Bool.not_true, e14, run_skip, e15, dZ, lB, cmp_lt, hc, decide_false]
theorem loop42 {j : Nat} (hj : 10 ≤ j) (ns : List Int) (w : List D) : ∀ (ks : List Nat) (S : Store) (x1 x2 x3 x4 x5 x6 x7 x8 x9 x10 : Option D), (∀ k ∈ ks, k < 100) → ∃ (y1 y2 y3 y4 y5 y6 y7 y8 y9 : Option D) (S' : Store),
    forEv (run (evF P j) b42) (.nm 1) (.fix w) (ks.map fun k : Nat => D.int (0 + (k : Int))) [some (.scr (ns.map .int)), x1, x2, x3, x4, x5, x6, x7, x8, x9, x10] S = .nx [some (.scr (ns.map .int)), y1, y2, y3, y4, y5, y6, y7, y8, y9, x10] S'
  | [], S, x1, x2, x3, x4, x5, x6, x7, x8, x9, x10, _ => ⟨x1, x2, x3, x4, x5, x6, x7, x8, x9, S, by simp [forEv, at_fix]⟩
  | k :: ks, S, x1, x2, x3, x4, x5, x6, x7, x8, x9, x10, h => by
    have hk := h k List.mem_cons_self
    obtain ⟨y2, y3, y4, y5, y6, y7, y8, y9, S1, e1⟩ := round42 hj ns (i := 0 + (k : Int)) (by omega) (by omega) S x2 x3 x4 x5 x6 x7 x8 x9 x10
    obtain ⟨z1, z2, z3, z4, z5, z6, z7, z8, z9, S2, e2⟩ := loop42 hj ns w ks S1 (some (.int (0 + (k : Int)))) y2 y3 y4 y5 y6 y7 y8 y9 x10 fun z hz => h z (List.mem_cons_of_mem _ hz)
    refine ⟨z1, z2, z3, z4, z5, z6, z7, z8, z9, S2, ?_⟩
    simp only [List.map_cons, forEv, at_fix, if_true, stepT_nm, List.length_cons, List.length_nil, Nat.reduceAdd, Nat.reduceLT, List.set_cons_succ, List.set_cons_zero, e1]
    exact e2
theorem gc_any {S S' : Store} {d : D} : ∃ T, gc S (.ok d S') = .ok d T := by
  by_cases k : Keep S S' ∧ noref d = true
  · exact ⟨S'.take S.length, by simp only [gc, if_pos k]⟩
  · exact ⟨S', by simp only [gc, if_neg k]⟩
theorem good : L.Good 12 1000000 42 := fun ns _ => by
  have hK : ∃ K : Int, 0 ≤ K ∧ K ≤ 6 ∧ bltEv .max [.int 2, .int (if (6 : Int) < (ns.length : Int) then 6 else (ns.length : Int))] [] = some (.int K) := by
    refine ⟨if (if (6 : Int) < (ns.length : Int) then 6 else (ns.length : Int)) > 2 then (if (6 : Int) < (ns.length : Int) then 6 else (ns.length : Int)) else 2, ?_, ?_, blt_max⟩ <;> (repeat' split) <;> omega
  obtain ⟨K, k0, k6, ek⟩ := hK
  obtain ⟨y1, y2, y3, y4, y5, y6, y7, y8, y9, S', e⟩ := loop42 (j := 11) (by decide) ns (rngD 0 K) (List.range (K - 0).toNat) [] none none none none none none none none none none (fun k hk => by have := List.mem_range.mp hk; omega)
  obtain ⟨T, hT⟩ := gc_any (S := []) (S' := S') (d := .bl true)
  refine ⟨T, ?_⟩
  rw [show L.prog = P from rfl, evF_body (n := 11) p42' (by simp) (by decide)]
  have s1 : small62 0 := ⟨by decide, by decide⟩
  have s2 : small62 K := ⟨by omega, by omega⟩
  have hr : rngD 0 K = (List.range (K - 0).toNat).map fun k : Nat => D.int (0 + (k : Int)) := rfl
  rw [← hr] at e
  have em : bltEv .min [.int (ns.length : Int), .int 6] [] = some (.int (if (6 : Int) < (ns.length : Int) then 6 else (ns.length : Int))) := blt_min
  simp only [run_seq, run_fr, evI_rng, ev_con', ev_blt, evs_cons, evs_nil, ev_var, List.map_cons, List.map_nil, List.replicate, List.cons_append, List.nil_append, Nat.reduceSub, List.getElem?_cons_zero, R.bind_ok, blt_len, len_scr, List.length_map, R.opt_some, em, ek, s1, s2, and_self, if_true, R.st_ok, Wk.items, e, SR.bind_nx, run_ret, out_rt]
  exact hT
end
end ZL

namespace ZL
open PySem PySem.Spec PyProof.Rows L2 Z
abbrev R : PySem.W.OpenRow := PySem.W.OpenLaw.row PySem.Challenge.rw_earthends_k37_exchanged_added_turned
abbrev hk : PySem.W.Hook := hookZ 4 L
def ob (s : PySem.W.SharedT) : ObZ := obsZG 4 L (HandSHeadRun.getT s)
theorem ob_eq (s : PySem.W.SharedT) : ob s = hk.obs s.abs := obsZG_eq (HandSHeadRun.getT_eq s)
theorem run (w : World) : HandSHeadRun.RunEq R (PySem.W.view R.prog [56]) hk ob 6000 loose w := by
  intro os
  kernel_rfl

def CXn : CXT := fun _ _ _ _ _ _ => False
theorem fn_cx {P : Program} {w : World} {K : PySem.W.Frag} {mg : Str → Option Value} {base : Heap} {k : Nat} {f : Addr} {fd : FuncData} {ps : List Str} {sp : Sp} (F : FnOk P w K mg base (L2N.CX P w) k f fd ps sp) : FnOk P w K mg base CXn k f fd ps (fun vs H Q _ => sp vs H Q fun _ _ _ => False) :=
  ⟨fun vs H Q E h => F.len vs H Q _ h, fun A outer s H args us vs Q E hr e0 hb rv h => codeAny_mono (F.run A outer s H args us vs Q _ hr e0 hb rv h) fun r s' hc => by
    cases r with
    | ok fl => cases fl <;> exact hc
    | error e =>
      obtain ⟨_, _, _, _, _, _, _, _, _, _, _, _, z⟩ := hc
      exact z.elim⟩
theorem facts {P : Program} {w : World} {K : PySem.W.Frag} {h : Heap} {mg : Str → Option Value} {f : Addr} (X : K.In h) (G : h.Ns mainGlobals mg) (hfa : mg ("law" : Str) = some (.ref f)) (c : SaysZ L K) :
    ∃ (fd : FuncData) (sp : Sp), (∀ (s : Shared) (u : Value), BindsTo s fd ⟨[u], []⟩ [("_law_script", u)]) ∧
        (∀ (H : L2.Hp) (a : Addr) (ns : List Int), ns.length ≤ 63 → L2.Only H → L2.SqL K H a (ns.map L2.V.int) → sp [.ref a] H (fun v _ => v = .bl true) fun _ _ _ => False) ∧
        ∀ base : Heap, K.In base → base.Ns mainGlobals mg → FnOk P w K mg base CXn 12 f fd ["_law_script"] sp := by
  obtain ⟨fd, sp, h1, h2, h3⟩ := law_facts (P := P) (w := w) (n := 63) (i := 42) (d := (L.defs)[42]'(by decide +kernel)) X G c chk (by rfl) (by rfl) hfa (fun ns h => good ns (by omega))
  exact ⟨fd, fun vs H Q _ => sp vs H Q fun _ _ _ => False, h1, fun H a ns hl hO hS => h2 H a ns hl hO hS, fun base b1 b2 => fn_cx (h3 base b1 b2)⟩
end ZL
open PySem PySem.W PySem.Calls PyProof.Rows
theorem PySem.Challenge.cw_earthends_k37_exchanged_added_turned_holds : PySem.Challenge.rw_earthends_k37_exchanged_added_turned.Holds := by
  w_on; o_law
  refine HandSHeadRun.head_any (r := OpenLaw.row PySem.Challenge.rw_earthends_k37_exchanged_added_turned) (q := view (OpenLaw.row PySem.Challenge.rw_earthends_k37_exchanged_added_turned).prog [56]) (H := ZL.hk) (ob := ZL.ob) (M := 6000) (loose := ZL.loose) (d := HandSHeadRun.topDef (OpenLaw.row PySem.Challenge.rw_earthends_k37_exchanged_added_turned).prog 56) (kwd := []) ZL.ob_eq
    (by kernel_rfl) (fun s => by kernel_rfl) ZL.run (by kernel_rfl) (by kernel_rfl) (by kernel_rfl) (by rfl) (by first | assumption | decide +kernel) (by decide +kernel) ⟨rfl, rfl, rfl, rfl, rfl, by decide +kernel⟩ ?hw ?hc
  case hw => w_witness2
  case hc =>
    refine L2.walk_ofE (l := PySem.Challenge.rw_earthends_k37_exchanged_added_turned) (n := 63) (k := 12) (x := "_law_script") (CX := ZL.CXn) rfl (by decide) (by kernel_rfl) ⟨rfl, by decide, by decide⟩ ?F ?X
    case X => exact fun _ _ _ _ z => z
    intro w mg fa h Y G hmg0
    obtain ⟨K, KX, c⟩ := Y
    have hmg : mg ("law" : PySem.Str) = some (.ref fa) := by
      have e : (HandSHeadRun.topDef (OpenLaw.row PySem.Challenge.rw_earthends_k37_exchanged_added_turned).prog 56).name = ("law" : PySem.Str) := by kernel_rfl
      rw [← e]
      exact hmg0
    obtain ⟨fd, sp, hb, hS, hF⟩ := ZL.facts (P := (PySem.Challenge.rw_earthends_k37_exchanged_added_turned).prog) (w := w) KX G hmg c
    exact ⟨K, fd, sp, KX, hb, hS, hF⟩
