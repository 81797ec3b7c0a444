import PyProof.Rows.All
import Wide.All
import OpenK.AllK
import Wide.FinOn
import HandS.ForMost
import HandS.ForExc
import HandS.IsInst
import HandS.Wide
import HandS.TupAny
import HandS.TupMul
import HandS.Deep
import HandS.CallSlots
import HandS.SortInts
import HandS.Rev
import HandS.RevRange
import HandS.TryOnly
import HandS.Style
import HandS.Head2
import HandS.HeadEnd
import HandS.HeadHook2
import HandS.HotCalls
import HandS.DictTup
import HandS.More
import HandS.NoneIn
import HandS.Conv
import HandS.SetKeys
import PyProof.NoPylong
import HandS.Head0
import HandS.Head1
import HandS.HeadHook1
import PySem.Challenge.RW_earthends_k26_parts_and_their_leaks
import KE.KStateDown
import Lean
import HandS.Ends
set_option Elab.async false
set_option linter.all false
set_option maxRecDepth 100000
set_option maxHeartbeats 0
/-! Z, part A: a small language of data, and how it is run. -/
namespace Z
open PySem
/-- data -/
inductive D where
  | non | bl (b : Bool) | int (i : Int) | str (x : Str)
  | tup (ds : List D) | lst (ds : List D) | scr (ds : List D) | edic
  | ref (i : Nat)
  | exc (c : Nat) (a : D)
/-- what stands in the store -/
inductive Cell where
  | lst (ds : List D)
  | dk (kvs : List (L2.Key × D))
  | dt (kvs : List (List L2.Key × D))
  | gone
abbrev Store := List Cell
abbrev Env := List (Option D)
/-- a value and the store behind it; an exception; no promise -/
inductive R (α : Type) where
  | ok (a : α) (S : Store)
  | exc (c : Nat) (a : D) (S : Store)
  | stuck
@[inline] def R.bind {α β : Type} (r : R α) (k : α → Store → R β) : R β := match r with
  | .ok a S => k a S
  | .exc c a S => .exc c a S
  | .stuck => .stuck
@[simp] theorem R.bind_ok {α β : Type} (a : α) (S : Store) (k : α → Store → R β) : (R.ok a S).bind k = k a S := rfl
@[simp] theorem R.bind_exc {α β : Type} (c : Nat) (a : D) (S : Store) (k : α → Store → R β) : (R.exc c a S : R α).bind k = .exc c a S := rfl
@[simp] theorem R.bind_stuck {α β : Type} (k : α → Store → R β) : (R.stuck : R α).bind k = .stuck := rfl

inductive Bop where | add | sub | mul | fdiv | mod | pow
inductive Cop where | eq | ne | lt | le | gt | ge | is | isnot | isin | notin
/-- kinds that isinstance asks for -/
inductive Ty where | int | bool | str | tup | lst | dict | own (c : Nat)
inductive Blt where | len | abs | int | str | tuple | list | all | any | sum | min | max | sorted | repr
inductive Mth where | append | reverse | pop | count | index | insert | extend | cat
/-- targets: a name, a tuple of these (cons-lists) -/
inductive CT where
  | nm (i : Nat) | nil | cons (t ts : CT) | tp (ts : CT)
inductive CE where
  | var (i : Nat) | con (d : D) | edic
  | nil | cons (e es : CE) | one (e : CE)
  | tup (es : CE) | lst (es : CE) | mlst (es : CE) | mdk | mdt
  | bin (op : Bop) (a b : CE) | neg (a : CE)
  | cmp (op : Cop) (a b : CE) | chain (o1 o2 : Cop) (a b c : CE)
  | not (a : CE) | and (a b : CE) | or (a b : CE) | ife (c a b : CE)
  | idx (a i : CE) | sl (a lo hi : CE) | rev (a : CE)
  | call (f : Nat) (es : CE) | blt (b : Blt) (es : CE) | isi (a : CE) (t : Ty)
  | mth (m : Mth) (o es : CE)
  | rng (a b : CE) | rgl (a b : CE) | setd (o e f : CE)
  | comp (elt : CE) (tg : CT) (it cond : CE) (own : List Nat) (isM : Bool)
inductive CS where
  | skip | never | seq (a b : CS) | expr (e : CE) | ret (e : CE) | retF (i : Nat)
  | asg (t : CT) (e : CE) | set (o i e : CE)
  | ife (c : CE) (a b : CS) | whl (c : CE) (b : CS) | fr (t : CT) (it : CE) (b : CS) | brk
  | rais (c : Nat) (a : CE)
  | tr (b : CS) (c : Nat) (i : Nat) (h : CS)
structure CF where
  np : Nat
  ns : Nat
  body : CS

/-! ### how it is run -/
/-- a sequence that is read -/
def seqOf (S : Store) : D → Option (List D)
  | .tup ds => some ds
  | .lst ds => some ds
  | .scr ds => some ds
  | .ref i => match S[i]? with
    | some (.lst ds) => some ds
    | _ => none
  | _ => none
/-- a list that is read, not the script -/
def seqL (S : Store) : D → Option (List D)
  | .lst ds => some ds
  | .ref i => match S[i]? with
    | some (.lst ds) => some ds
    | _ => none
  | _ => none
def isTup : D → Bool
  | .tup _ => true
  | _ => false
mutual
/-- as data of the library: no cell within -/
def py : D → Option PyData
  | .non => some .none
  | .bl b => some (.bool b)
  | .int i => some (.int i)
  | .str x => some (.str x)
  | .tup ds => match pys ds with
    | some xs => some (.tuple xs)
    | none => none
  | .lst ds => match pys ds with
    | some xs => some (.list xs)
    | none => none
  | .scr _ => none
  | .edic => none
  | .ref _ => none
  | .exc _ _ => none
def pys : List D → Option (List PyData)
  | [] => some []
  | d :: ds => match py d, pys ds with
    | some x, some xs => some (x :: xs)
    | _, _ => none
end
/-- a cell's list as data -/
def pyS (S : Store) : D → Option PyData
  | .ref i => match S[i]? with
    | some (.lst ds) => match pys ds with
      | some xs => some (.list xs)
      | none => none
    | _ => none
  | d => py d
mutual
/-- no cell within -/
def noref : D → Bool
  | .tup ds => norefs ds
  | .lst ds => norefs ds
  | .scr ds => norefs ds
  | .ref _ => false
  | .exc _ a => noref a
  | _ => true
def norefs : List D → Bool
  | [] => true
  | d :: ds => noref d && norefs ds
end
def Cell.noref : Cell → Bool
  | .lst ds => norefs ds
  | .dk kvs => norefs (kvs.map (·.2))
  | .dt kvs => norefs (kvs.map (·.2))
  | .gone => true
def MulOk (i j : Int) : Prop := IntMulOk i j
def DivOk (_i j : Int) : Prop := 0 < j
def seqMk : D → List D → D
  | .tup _, ds => .tup ds
  | _, ds => .lst ds

def R.opt (o : Option D) (S : Store) : R D := match o with
  | some d => .ok d S
  | none => .stuck
@[simp] theorem R.opt_some (d : D) (S : Store) : R.opt (some d) S = .ok d S := rfl
@[simp] theorem R.opt_none (S : Store) : R.opt none S = .stuck := rfl
def R.opt2 (o : Option (D × Store)) : R D := match o with
  | some (d, S) => .ok d S
  | none => .stuck
@[simp] theorem R.opt2_some (d : D) (S : Store) : R.opt2 (some (d, S)) = .ok d S := rfl
@[simp] theorem R.opt2_none : R.opt2 none = .stuck := rfl
open Classical in
noncomputable def catEv (S : Store) (x y : D) : Option D := match seqL S x, seqL S y with
  | some xs, some ys => if xs.length + ys.length ≤ sizeLine then some (.lst (xs ++ ys)) else none
  | _, _ => none
open Classical in
noncomputable def addEv (S : Store) : D → D → Option D
  | .int i, .int j => some (.int (i + j))
  | .str i, .str j => if i.length + j.length ≤ sizeLine then some (.str (i ++ j)) else none
  | .tup xs, .tup ys => if xs.length + ys.length ≤ sizeLine then some (.tup (xs ++ ys)) else none
  | .lst xs, y => catEv S (.lst xs) y
  | .ref i, y => catEv S (.ref i) y
  | _, _ => none
open Classical in
noncomputable def repEv (S : Store) (x : D) (k : Int) : Option D := match seqL S x with
  | some xs => if -(2 ^ 63) ≤ k ∧ k < 2 ^ 63 ∧ xs.length * k.toNat ≤ sizeLine then some (.lst (List.replicate k.toNat xs).flatten) else none
  | none => none
open Classical in
noncomputable def mulEv (S : Store) : D → D → Option D
  | .int i, .int j => if MulOk i j then some (.int (i * j)) else none
  | .tup xs, .int k => if xs ≠ [] ∧ 2 ≤ k ∧ k ≤ 1000 ∧ xs.length ≤ 1000 then some (.tup (List.replicate k.toNat xs).flatten) else none
  | .lst xs, .int k => repEv S (.lst xs) k
  | .ref i, .int k => repEv S (.ref i) k
  | _, _ => none
open Classical in
noncomputable def binEv (op : Bop) (x y : D) (S : Store) : Option D := match op with
  | .add => addEv S x y
  | .sub => match x, y with
    | .int i, .int j => some (.int (i - j))
    | _, _ => none
  | .mul => mulEv S x y
  | .fdiv => match x, y with
    | .int i, .int j => if DivOk i j then some (.int (i / j)) else none
    | _, _ => none
  | .mod => match x, y with
    | .int i, .int j => if 0 < j then some (.int (i % j)) else none
    | _, _ => none
  | .pow => match x, y with
    | .int i, .int j => if 0 ≤ j ∧ j ≤ 1000000 ∧ i.natAbs < 2 ^ 64 then some (.int (i ^ j.toNat)) else none
    | _, _ => none
def cmpI (op : Cop) (i j : Int) : Option Bool := match op with
  | .lt => some (decide (i < j))
  | .le => some (decide (i ≤ j))
  | .gt => some (decide (j < i))
  | .ge => some (decide (j ≤ i))
  | _ => none
def shapedO : Option PyData → Option PyData
  | some d => if SeqAt.shaped d = true then some d else none
  | none => none
/-- the constant behind is, is not -/
def isEv (x y : D) : Option Bool := match y, x with
  | .non, .non => some true
  | .non, .exc _ _ => none
  | .non, _ => some false
  | .bl b, .bl a => some (decide (a = b))
  | _, _ => none
def flatD : D → Bool
  | .non => true
  | .bl _ => true
  | .int _ => true
  | .str _ => true
  | _ => false
def keyOf : D → Option L2.Key
  | .int i => some (.inl i)
  | .str x => some (.inr x)
  | _ => none
/-- a dict that is read -/
def dkOf (S : Store) : D → Option (List (L2.Key × D))
  | .ref i => match S[i]? with
    | some (.dk kvs) => some kvs
    | _ => none
  | _ => none
def valD (kvs : List (L2.Key × D)) (k : L2.Key) : Option D := (kvs.find? fun kv => decide (kv.1 = k)).map (·.2)
def putD (kvs : List (L2.Key × D)) (k : L2.Key) (v : D) : List (L2.Key × D) :=
  if (kvs.any fun kv => decide (kv.1 = k)) = true then kvs.map (fun kv => if kv.1 = k then (kv.1, v) else kv) else kvs ++ [(k, v)]
def keysI : List (L2.Key × D) → Option (List Int)
  | [] => some []
  | (.inl i, _) :: r => (keysI r).map (i :: ·)
  | (.inr _, _) :: _ => none
def sortI (ks : List Int) : List Int := ks.mergeSort fun a b => decide (a ≤ b)
def inEv (S : Store) (x y : D) : Option Bool := match y with
  | .tup ds => if flatD x = true ∧ ds.all flatD = true then (match py x, pys ds with
      | some d, some es => some (es.any fun z => PyData.eqv z d)
      | _, _ => none) else none
  | y => match shapedO (pyS S x), shapedO (pyS S y) with
    | some d, some (.list es) => some (es.any fun z => PyData.eqv z d)
    | _, _ => none
def inEvD (S : Store) (x y : D) : Option Bool := match dkOf S y with
  | some kvs => (keyOf x).map fun k => (valD kvs k).isSome
  | none => inEv S x y
def eqEv (S : Store) (x y : D) : Option Bool := match shapedO (pyS S x), shapedO (pyS S y) with
  | some d, some e => some (PyData.eqv d e)
  | _, _ => none
def ordEv (op : Cop) (x y : D) : Option Bool := match x, y with
  | .int i, .int j => cmpI op i j
  | _, _ => none
def cmpB (op : Cop) (x y : D) (S : Store) : Option Bool := match op with
  | .eq => eqEv S x y
  | .ne => (eqEv S x y).map (!·)
  | .is => isEv x y
  | .isnot => (isEv x y).map (!·)
  | .isin => inEvD S x y
  | .notin => (inEvD S x y).map (!·)
  | op => ordEv op x y
def cmpEv (op : Cop) (x y : D) (S : Store) : Option D := (cmpB op x y S).map .bl
def idxEv (x y : D) (S : Store) : Option D := match dkOf S x with
  | some kvs => (keyOf y).bind (valD kvs)
  | none => match y with
    | .int i => match seqOf S x with
      | some ds => L2.atI ds i
      | none => none
    | _ => none
def cutD (ds : List D) (lo hi : Option Int) : List D := (ds.drop (HT.sIx ds.length 0 lo)).take (HT.sIx ds.length ds.length hi - HT.sIx ds.length 0 lo)
def slEv (x : D) (lo hi : Option Int) (S : Store) : Option D := match x with
  | .tup ds => some (.tup (cutD ds lo hi))
  | .scr ds => some (.lst (cutD ds lo hi))
  | .str z => if z.length ≤ sizeLine then some (.str (L2.cutS z lo hi)) else none
  | x => (seqL S x).map fun ds => .lst (cutD ds lo hi)
def revEv (x : D) (S : Store) : Option D := match x with
  | .tup ds => some (.tup ds.reverse)
  | x => (seqL S x).map fun ds => .lst ds.reverse
def ints? : List D → Option (List Int)
  | [] => some []
  | .int i :: ds => (ints? ds).map (i :: ·)
  | _ => none
def bls? : List D → Option (List Bool)
  | [] => some []
  | .bl b :: ds => (bls? ds).map (b :: ·)
  | _ => none
open Classical in
noncomputable def lenEv (S : Store) (x : D) : Option D := match seqOf S x with
  | some ds => some (.int ds.length)
  | none => match x with
    | .str z => if z.length ≤ sizeLine then some (.int z.length) else none
    | _ => none
open Classical in
noncomputable def strEv : D → Option D
  | .int i => if i.natAbs.log2 < 1920 then some (.str (toString i)) else none
  | _ => none
def absEv : D → Option D
  | .int i => some (.int (if i < 0 then -i else i))
  | _ => none
def intEv : D → Option D
  | .int i => some (.int i)
  | .bl b => some (.int (if b then 1 else 0))
  | _ => none
def minEv : D → D → Option D
  | .int i, .int j => some (.int (if j < i then j else i))
  | _, _ => none
def maxEv : D → D → Option D
  | .int i, .int j => some (.int (if j > i then j else i))
  | _, _ => none
noncomputable def bltEv (b : Blt) (xs : List D) (S : Store) : Option D := match b, xs with
  | .len, [x] => lenEv S x
  | .abs, [x] => absEv x
  | .int, [x] => intEv x
  | .str, [x] => strEv x
  | .repr, [x] => strEv x
  | .tuple, [x] => (seqOf S x).map .tup
  | .list, [x] => (seqOf S x).map .lst
  | .all, [x] => ((seqL S x).bind bls?).map fun bs => .bl (bs.all id)
  | .any, [x] => ((seqL S x).bind bls?).map fun bs => .bl (bs.any id)
  | .sum, [x] => ((seqL S x).bind ints?).map fun ns => .int ns.sum
  | .sorted, [x] => match dkOf S x with
    | some kvs => (keysI kvs).bind fun ks => if ks.length < 64 then some (.lst ((sortI ks).map .int)) else none
    | none => ((seqL S x).bind ints?).map fun ns => .lst ((sortI ns).map .int)
  | .min, [x, y] => minEv x y
  | .max, [x, y] => maxEv x y
  | _, _ => none
def isiEv (x : D) (t : Ty) (S : Store) : Option Bool := match t, x with
  | .own _, _ => none
  | _, .exc _ _ => none
  | .int, .int _ => some true
  | .int, .bl _ => some true
  | .bool, .bl _ => some true
  | .str, .str _ => some true
  | .tup, .tup _ => some true
  | .lst, .lst _ => some true
  | .lst, .scr _ => some true
  | .dict, .edic => some true
  | t, .ref i => match S[i]?, t with
    | some (.lst _), .lst => some true
    | some (.lst _), _ => some false
    | some (.dk _), .dict => some true
    | some (.dk _), _ => some false
    | some (.dt _), .dict => some true
    | some (.dt _), _ => some false
    | _, _ => none
  | _, _ => some false
def setEv (o i v : D) (S : Store) : Option Store := match o, i with
  | .ref p, i => match S[p]? with
    | some (.lst ds) => match i with
      | .int k => (L2.ixN ds.length k).map fun j => S.set p (.lst (ds.set j v))
      | _ => none
    | some (.dk kvs) => (keyOf i).bind fun k => if kvs.length < sizeLine then some (S.set p (.dk (putD kvs k v))) else none
    | _ => none
  | _, _ => none
open Classical in
noncomputable def mthEv (m : Mth) (o : D) (xs : List D) (S : Store) : Option (D × Store) := match m, o, xs with
  | .append, .ref p, [y] => match S[p]? with
    | some (.lst ds) => if ds.length < sizeLine then some (.non, S.set p (.lst (ds ++ [y]))) else none
    | _ => none
  | .reverse, .ref p, [] => match S[p]? with
    | some (.lst ds) => some (.non, S.set p (.lst ds.reverse))
    | _ => none
  | .pop, .ref p, [] => match S[p]? with
    | some (.lst ds) => (ds[ds.length - 1]?).map fun y => (y, S.set p (.lst ds.dropLast))
    | _ => none
  | .cat, x, [y] => match seqL S x, seqL S y with
    | some xs, some ys => if xs.length + ys.length ≤ sizeLine then some (.ref S.length, S ++ [.lst (xs ++ ys)]) else none
    | _, _ => none
  | _, _, _ => none
/-- d.setdefault(k, v) -/
def setdEv (x y z : D) (S : Store) : Option (D × Store) := match x with
  | .ref p => match S[p]? with
    | some (.dk kvs) => match keyOf y with
      | some k => if kvs.length < sizeLine then (match valD kvs k with
        | some v => some (v, S)
        | none => some (z, S.set p (.dk (putD kvs k z)))) else none
      | none => none
    | _ => none
  | _ => none
/-- targets -/
def stepT : CT → D → Env → Option Env
  | .nm i, d, δ => if i < δ.length then some (δ.set i (some d)) else none
  | .tp ts, .tup ds, δ => go ts ds δ
  | .tp ts, .lst ds, δ => go ts ds δ
  | _, _, _ => none
where go : CT → List D → Env → Option Env
  | .nil, [], δ => some δ
  | .cons (.nm i) ts, d :: ds, δ => if i < δ.length then go ts ds (δ.set i (some d)) else none
  | _, _, _ => none
def wipeD (δ : Env) : List Nat → Env
  | [] => δ
  | v :: vs => (wipeD δ vs).set v none
/-- what a loop walks -/
inductive Wk where
  | fix (ds : List D)
  | cel (i : Nat) (ds : List D)
def Wk.items : Wk → List D
  | .fix ds => ds
  | .cel _ ds => ds
/-- it still stands -/
def Wk.At (S : Store) : Wk → Prop
  | .fix _ => True
  | .cel i ds => S[i]? = some (.lst ds)
def rngD (a b : Int) : List D := (List.range (b - a).toNat).map fun k => .int (a + (k : Nat))
def small62 (a : Int) : Prop := -(2 ^ 62) ≤ a ∧ a < 2 ^ 62
def walkSeq (S : Store) : D → Option Wk
  | .tup ds => some (.fix ds)
  | .lst ds => some (.fix ds)
  | .str x => some (.fix (x.cps.toList.map fun c => .str ⟨#[c]⟩))
  | .ref i => match S[i]? with
    | some (.lst ds) => some (.cel i ds)
    | _ => none
  | _ => none
abbrev Fn := Nat → List D → Store → R D
open Classical in
/-- the elements of a comprehension, one behind the other -/
noncomputable def compEv (elt : Env → Store → R D) (cond : Env → Store → R D) (tg : CT) (w : Wk) (δ : Env) (own : List Nat) : List D → List D → Store → R (List D)
  | [], acc, S => if w.At S then .ok acc S else .stuck
  | d :: ds, acc, S => if w.At S then
      match stepT tg d (wipeD δ own) with
      | some δ1 => if acc.length < sizeLine then
          match cond δ1 S with
          | .ok (.bl true) S1 => match elt δ1 S1 with
            | .ok y S2 => compEv elt cond tg w δ own ds (acc ++ [y]) S2
            | _ => .stuck
          | .ok (.bl false) S1 => compEv elt cond tg w δ own ds acc S1
          | _ => .stuck
        else .stuck
      | none => .stuck
    else .stuck
mutual
noncomputable def ev (F : Fn) : CE → Env → Store → R D
  | .var i, δ, S => match δ[i]? with
    | some (some d) => .ok d S
    | _ => .stuck
  | .con d, _, S => .ok d S
  | .edic, _, S => .ok .edic S
  | .tup es, δ, S => (evs F es δ S).bind fun ds S1 => .ok (.tup ds) S1
  | .lst es, δ, S => (evs F es δ S).bind fun ds S1 => .ok (.lst ds) S1
  | .mlst es, δ, S => (evs F es δ S).bind fun ds S1 => .ok (.ref S1.length) (S1 ++ [.lst ds])
  | .mdk, _, S => .ok (.ref S.length) (S ++ [.dk []])
  | .mdt, _, S => .ok (.ref S.length) (S ++ [.dt []])
  | .bin op a b, δ, S => (ev F a δ S).bind fun x S1 => (ev F b δ S1).bind fun y S2 => .opt (binEv op x y S2) S2
  | .neg a, δ, S => (ev F a δ S).bind fun x S1 => match x with
    | .int i => .ok (.int (-i)) S1
    | _ => .stuck
  | .cmp op a b, δ, S => (ev F a δ S).bind fun x S1 => (ev F b δ S1).bind fun y S2 => .opt (cmpEv op x y S2) S2
  | .chain o1 o2 a b c, δ, S => (ev F a δ S).bind fun x S1 => (ev F b δ S1).bind fun y S2 => match cmpB o1 x y S2 with
    | some true => (ev F c δ S2).bind fun z S4 => .opt (cmpEv o2 y z S4) S4
    | some false => .ok (.bl false) S2
    | none => .stuck
  | .not a, δ, S => (ev F a δ S).bind fun x S1 => match x with
    | .bl b => .ok (.bl (!b)) S1
    | _ => .stuck
  | .and a b, δ, S => (ev F a δ S).bind fun x S1 => match x with
    | .bl true => ev F b δ S1
    | .bl false => .ok (.bl false) S1
    | _ => .stuck
  | .or a b, δ, S => (ev F a δ S).bind fun x S1 => match x with
    | .bl true => .ok (.bl true) S1
    | .bl false => ev F b δ S1
    | _ => .stuck
  | .ife c a b, δ, S => (ev F c δ S).bind fun x S1 => match x with
    | .bl true => ev F a δ S1
    | .bl false => ev F b δ S1
    | _ => .stuck
  | .idx a i, δ, S => (ev F a δ S).bind fun x S1 => (ev F i δ S1).bind fun y S2 => .opt (idxEv x y S2) S2
  | .sl a lo hi, δ, S => (ev F a δ S).bind fun x S1 => (evo F lo δ S1).bind fun l S2 => (evo F hi δ S2).bind fun h S3 => .opt (slEv x l h S3) S3
  | .rev a, δ, S => (ev F a δ S).bind fun x S1 => .opt (revEv x S1) S1
  | .call f es, δ, S => (evs F es δ S).bind fun ds S1 => F f ds S1
  | .blt b es, δ, S => (evs F es δ S).bind fun ds S1 => .opt (bltEv b ds S1) S1
  | .isi a t, δ, S => (ev F a δ S).bind fun x S1 => .opt ((isiEv x t S1).map .bl) S1
  | .mth m o es, δ, S => (ev F o δ S).bind fun x S1 => match seqL S1 x with
    | some _ => (evs F es δ S1).bind fun ds S2 => .opt2 (mthEv m x ds S2)
    | none => .stuck
  | .rgl a b, δ, S => (ev F a δ S).bind fun x S1 => (ev F b δ S1).bind fun y S2 => match x, y with
    | .int i, .int j => open Classical in if small62 i ∧ small62 j ∧ (j - i).toNat ≤ 2 ^ 24 then .ok (.lst (rngD i j)) S2 else .stuck
    | _, _ => .stuck
  | .setd o e f, δ, S => (ev F o δ S).bind fun x S1 => match dkOf S1 x with
    | some _ => (ev F e δ S1).bind fun y S2 => (ev F f δ S2).bind fun z S3 => .opt2 (setdEv x y z S3)
    | none => .stuck
  | .comp elt tg it cond own isM, δ, S => (evI F it δ S).bind fun w S1 =>
      (compEv (ev F elt) (ev F cond) tg w δ own w.items [] S1).bind fun ds S2 =>
        if isM then .ok (.ref S2.length) (S2 ++ [.lst ds]) else .ok (.lst ds) S2
  | _, _, _ => .stuck
noncomputable def evs (F : Fn) : CE → Env → Store → R (List D)
  | .nil, _, S => .ok [] S
  | .cons e es, δ, S => (ev F e δ S).bind fun d S1 => (evs F es δ S1).bind fun ds S2 => .ok (d :: ds) S2
  | _, _, _ => .stuck
noncomputable def evI (F : Fn) : CE → Env → Store → R Wk
  | .rng a b, δ, S => (ev F a δ S).bind fun x S1 => (ev F b δ S1).bind fun y S2 => match x, y with
    | .int i, .int j => open Classical in if small62 i ∧ small62 j then .ok (.fix (rngD i j)) S2 else .stuck
    | _, _ => .stuck
  | .one e, δ, S => (ev F e δ S).bind fun x S1 => match walkSeq S1 x with
    | some w => .ok w S1
    | none => .stuck
  | _, _, _ => .stuck
/-- a slice's bound -/
noncomputable def evo (F : Fn) : CE → Env → Store → R (Option Int)
  | .nil, _, S => .ok none S
  | .one e, δ, S => (ev F e δ S).bind fun x S1 => match x with
    | .int i => .ok (some i) S1
    | _ => .stuck
  | _, _, _ => .stuck
end
/-! ### statements -/
inductive SR where
  | nx (δ : Env) (S : Store) | rt (d : D) (S : Store) | bk (δ : Env) (S : Store) | xc (c : Nat) (a : D) (δ : Env) (S : Store) | stuck
@[inline] def SR.bind (r : SR) (k : Env → Store → SR) : SR := match r with
  | .nx δ S => k δ S
  | r => r
@[simp] theorem SR.bind_nx (δ : Env) (S : Store) (k : Env → Store → SR) : (SR.nx δ S).bind k = k δ S := rfl
@[simp] theorem SR.bind_rt (d : D) (S : Store) (k : Env → Store → SR) : (SR.rt d S).bind k = .rt d S := rfl
@[simp] theorem SR.bind_bk (δ : Env) (S : Store) (k : Env → Store → SR) : (SR.bk δ S).bind k = .bk δ S := rfl
@[simp] theorem SR.bind_xc (c : Nat) (a : D) (δ : Env) (S : Store) (k : Env → Store → SR) : (SR.xc c a δ S).bind k = .xc c a δ S := rfl
@[simp] theorem SR.bind_stuck (k : Env → Store → SR) : (SR.stuck).bind k = .stuck := rfl
/-- an expression within a statement -/
@[inline] def R.st {α : Type} (r : R α) (δ : Env) (k : α → Store → SR) : SR := match r with
  | .ok a S => k a S
  | .exc c a S => .xc c a δ S
  | .stuck => .stuck
@[simp] theorem R.st_ok {α : Type} (a : α) (S : Store) (δ : Env) (k : α → Store → SR) : (R.ok a S).st δ k = k a S := rfl
@[simp] theorem R.st_exc {α : Type} (c : Nat) (a : D) (S : Store) (δ : Env) (k : α → Store → SR) : (R.exc c a S : R α).st δ k = .xc c a δ S := rfl
@[simp] theorem R.st_stuck {α : Type} (δ : Env) (k : α → Store → SR) : (R.stuck : R α).st δ k = .stuck := rfl
def iterW {α β : Type} (f : α → α ⊕ β) : Nat → α → Option β
  | 0, _ => none
  | n + 1, s => match f s with
    | .inl s' => iterW f n s'
    | .inr r => some r
theorem iterW_more {α β : Type} {f : α → α ⊕ β} : ∀ {n : Nat} {s : α} {r : β}, iterW f n s = some r → ∀ k, iterW f (n + k) s = some r
  | 0, _, _, h, _ => by cases h
  | n + 1, s, r, h, k => by
    rw [Nat.succ_add]
    unfold iterW at h ⊢
    cases e : f s with
    | inl s' => rw [e] at h; exact iterW_more h k
    | inr r' => rw [e] at h; exact h
theorem iterW_one {α β : Type} {f : α → α ⊕ β} {n m : Nat} {s : α} {r r' : β} (h : iterW f n s = some r) (h' : iterW f m s = some r') : r = r' := by
  have a := iterW_more h m
  have b := iterW_more h' n
  rw [Nat.add_comm] at b
  rw [a] at b
  exact Option.some.inj b
open Classical in
noncomputable def loopW (f : Env × Store → (Env × Store) ⊕ SR) (s : Env × Store) : SR := if h : ∃ r n, iterW f n s = some r then h.choose else .stuck
theorem loopW_of {f : Env × Store → (Env × Store) ⊕ SR} {s : Env × Store} {n : Nat} {r : SR} (h : iterW f n s = some r) : loopW f s = r := by
  have e : ∃ r n, iterW f n s = some r := ⟨r, n, h⟩
  unfold loopW
  rw [dif_pos e]
  obtain ⟨m, hm⟩ := e.choose_spec
  exact iterW_one hm h
theorem loopW_step (f : Env × Store → (Env × Store) ⊕ SR) (s : Env × Store) : loopW f s = match f s with
    | .inl s' => loopW f s'
    | .inr r => r := by
  cases e : f s with
  | inr r => exact loopW_of (n := 1) (by unfold iterW; rw [e])
  | inl s' =>
    show loopW f s = loopW f s'
    by_cases h : ∃ r n, iterW f n s' = some r
    · obtain ⟨r, n, hr⟩ := h
      rw [loopW_of hr]
      exact loopW_of (n := n + 1) (by unfold iterW; rw [e]; exact hr)
    · have h2 : ¬ ∃ r n, iterW f n s = some r := fun ⟨r, n, hr⟩ => by
        cases n with
        | zero => cases hr
        | succ n => unfold iterW at hr; rw [e] at hr; exact h ⟨r, n, hr⟩
      unfold loopW
      rw [dif_neg h, dif_neg h2]
/-- a loop that is not stuck has ended -/
theorem loopW_ended {f : Env × Store → (Env × Store) ⊕ SR} {s : Env × Store} (h : loopW f s ≠ .stuck) : ∃ n, iterW f n s = some (loopW f s) := by
  by_cases e : ∃ r n, iterW f n s = some r
  · obtain ⟨r, n, hr⟩ := e
    exact ⟨n, by rw [loopW_of hr]; exact hr⟩
  · exact absurd (by unfold loopW; rw [dif_neg e]) h
def wstep (c : Env → Store → R D) (b : Env → Store → SR) (s : Env × Store) : (Env × Store) ⊕ SR := match c s.1 s.2 with
  | .ok (.bl true) S1 => match b s.1 S1 with
    | .nx δ' S' => .inl (δ', S')
    | .bk δ' S' => .inr (.nx δ' S')
    | r => .inr r
  | .ok (.bl false) S1 => .inr (.nx s.1 S1)
  | .exc c a S1 => .inr (.xc c a s.1 S1)
  | _ => .inr .stuck
open Classical in
noncomputable def forEv (body : Env → Store → SR) (tg : CT) (w : Wk) : List D → Env → Store → SR
  | [], δ, S => if w.At S then .nx δ S else .stuck
  | d :: ds, δ, S => if w.At S then
      match stepT tg d δ with
      | some δ1 => match body δ1 S with
        | .nx δ2 S2 => forEv body tg w ds δ2 S2
        | .bk δ2 S2 => .nx δ2 S2
        | r => r
      | none => .stuck
    else .stuck
noncomputable def run (F : Fn) : CS → Env → Store → SR
  | .skip, δ, S => .nx δ S
  | .never, _, _ => .stuck
  | .seq a b, δ, S => (run F a δ S).bind fun δ1 S1 => run F b δ1 S1
  | .expr e, δ, S => (ev F e δ S).st δ fun _ S1 => .nx δ S1
  | .ret e, δ, S => (ev F e δ S).st δ fun d S1 => .rt d S1
  | .retF i, δ, S => match δ[i]? with
    | some (some (.ref p)) => match S[p]? with
      | some (.lst ds) => .rt (.lst ds) (S.set p .gone)
      | _ => .stuck
    | _ => .stuck
  | .asg t e, δ, S => (ev F e δ S).st δ fun d S1 => match stepT t d δ with
    | some δ1 => .nx δ1 S1
    | none => .stuck
  | .set o i e, δ, S => (ev F e δ S).st δ fun v S1 => (ev F o δ S1).st δ fun x S2 => (ev F i δ S2).st δ fun y S3 => match setEv x y v S3 with
    | some S4 => .nx δ S4
    | none => .stuck
  | .ife c a b, δ, S => (ev F c δ S).st δ fun x S1 => match x with
    | .bl true => run F a δ S1
    | .bl false => run F b δ S1
    | _ => .stuck
  | .whl c b, δ, S => loopW (wstep (ev F c) (run F b)) (δ, S)
  | .fr t it b, δ, S => (evI F it δ S).st δ fun w S1 => forEv (run F b) t w w.items δ S1
  | .brk, δ, S => .bk δ S
  | .rais c a, δ, S => (ev F a δ S).st δ fun d S1 => .xc c d δ S1
  | .tr b c i h, δ, S => match run F b δ S with
    | .xc c' a δ1 S1 => if c = 0 ∨ c = c' then
        match run F h (δ1.set i (some (.exc c' a))) S1 with
        | .nx δ2 S2 => .nx (δ2.set i none) S2
        | .bk δ2 S2 => .bk (δ2.set i none) S2
        | .rt d S2 => .rt d S2
        | _ => .stuck
      else .xc c' a δ1 S1
    | r => r
/-! ### defs -/
def Keep (S0 S' : Store) : Prop := S0.length ≤ S'.length ∧ ∀ i, i < S0.length → S'[i]? = S0[i]? ∨ ∃ c, S'[i]? = some c ∧ c.noref = true
open Classical in
/-- what a call leaves: its own cells go where nothing names them -/
noncomputable def gc (S0 : Store) : R D → R D
  | .ok d S' => if Keep S0 S' ∧ noref d = true then .ok d (S'.take S0.length) else .ok d S'
  | .exc c a S' => if Keep S0 S' ∧ noref a = true then .exc c a (S'.take S0.length) else .exc c a S'
  | .stuck => .stuck
def SR.out : SR → R D
  | .nx _ S' => .ok .non S'
  | .rt d S' => .ok d S'
  | .xc c a _ S' => .exc c a S'
  | _ => .stuck
noncomputable def evF (P : Nat → Option CF) : Nat → Fn
  | 0, _, _, _ => .stuck
  | n + 1, f, ds, S => match P f with
    | some cf => if ds.length = cf.np ∧ cf.np ≤ cf.ns then gc S (run (evF P n) cf.body (ds.map some ++ List.replicate (cf.ns - cf.np) none) S).out else .stuck
    | none => .stuck
end Z

/-! Z: // of great ints, no bound. -/
namespace Z
open PySem PySem.Spec PyProof.Rows L2
/-- what _pylong asks of the state -/
def Seer (X : Cx) : Prop := ∀ (pins : List (Addr × Obj)) (σ : L2.St) (H : Hp) (s : Shared), Inv X pins σ H s → PylongRoom (model X.prog X.w) X.A s
theorem op_fdivZ {X : Cx} (hs : Seer X) : OpR X (binaryOp .FloorDiv) (rI (fun _ j => 0 < j) fun i j => .int (i / j)) := by
  intro pins s σ H x y v u Q I rx ry h
  obtain ⟨i, j, rfl, rfl, hc, q⟩ := h
  obtain ⟨t, rfl⟩ := rx
  obtain ⟨t', rfl⟩ := ry
  have h1 : (0 : Int) < j := hc
  exact floordiv_int (by omega) (by rw [Int.fdiv_eq_ediv_of_nonneg i (by omega)]; exact ⟨.int (i / j), H, I.tok _, ⟨_, rfl⟩, q⟩) (.inr (hs pins σ H s I))
def keyStrB : Value → Bool
  | .str _ _ => true
  | _ => false
def modsB (K : PySem.W.Frag) : Bool := match K.lookup sysModules with
  | some ⟨_, _, .dict es _, _⟩ => es.toList.all fun e => keyStrB e.key
  | _ => false
def bmB (K : PySem.W.Frag) : Bool := match PySem.W.nsIn K mainGlobals "__builtins__" with
  | some (some (.ref b)) => (match K.lookup b with
    | some ⟨.type c, some d, _, _⟩ => decide (c = "module") && decide (d = builtinsNs)
    | _ => false)
  | _ => false
def noneB (K : PySem.W.Frag) (a : Addr) (n : Str) : Bool := match PySem.W.nsIn K a n with
  | some none => true
  | _ => false
def seerB (K : PySem.W.Frag) : Bool := noneB K cStatics "sys.audit-hooks" && (noneB K cStatics "sys.dict" && (noneB K sysModules "_pylong" && (modsB K && bmB K)))
theorem noneB_of {K : PySem.W.Frag} {a : Addr} {n : Str} (h : noneB K a n = true) : PySem.W.nsIn K a n = some none := by
  unfold noneB at h
  split at h
  · assumption
  · cases h
theorem ns_none {K : PySem.W.Frag} {h : Heap} {a : Addr} {mg : Str → Option Value} {n : Str} (X : K.In h) (G : h.Ns a mg) (e : PySem.W.nsIn K a n = some none) : mg n = none := by
  obtain ⟨o, es, ep, ho, hd, _, hf⟩ := G
  unfold PySem.W.nsIn at e
  split at e
  · rename_i c d es' n' sl q
    have := X _ _ q
    rw [ho] at this
    cases this
    cases hd
    split at e
    · cases e
    · rename_i he
      rw [← hf]
      unfold nsFind findBy
      rw [← Array.find?_toList, he]
      rfl
  · cases e
theorem ands2 {a b : Bool} (h : (a && b) = true) : a = true ∧ b = true := Bool.and_eq_true_iff.mp h
theorem modsB_of {K : PySem.W.Frag} {h : Heap} (X : K.In h) (b : modsB K = true) : ∃ mm, h.Ns sysModules mm := by
  unfold modsB at b
  split at b
  · rename_i c d es n sl q
    refine ⟨nsFind es, _, es, n, X _ _ q, rfl, fun e he => ?_, fun _ => rfl⟩
    have := List.all_eq_true.mp b e (Array.mem_toList_iff.mpr he)
    unfold keyStrB at this
    split at this
    · exact ⟨_, _, by assumption⟩
    · cases this
  · cases b
theorem bmB_of {K : PySem.W.Frag} {h : Heap} {mg : Str → Option Value} (X : K.In h) (G : h.Ns mainGlobals mg) (b : bmB K = true) : ∃ bm ob, mg "__builtins__" = some (.ref bm) ∧ h.get? bm = some ob ∧ ob.cls = .type "module" ∧ ob.dict = some builtinsNs := by
  unfold bmB at b
  split at b
  · rename_i bm q
    split at b
    · rename_i c d dt sl q2
      obtain ⟨h1, h2⟩ := ands2 b
      exact ⟨bm, _, PySem.W.mg_of X G q, X _ _ q2, congrArg Value.type (of_decide_eq_true h1), congrArg some (of_decide_eq_true h2)⟩
    · cases b
  · cases b
theorem noSeer_of {K : PySem.W.Frag} {mg : Str → Option Value} {base : Heap} (b : seerB K = true) (M : Mod K mg base) : base.NoSeer := by
  unfold seerB at b
  obtain ⟨b1, b⟩ := ands2 b
  obtain ⟨b2, b⟩ := ands2 b
  obtain ⟨b3, b⟩ := ands2 b
  obtain ⟨b4, b5⟩ := ands2 b
  obtain ⟨mc, hc, _⟩ := M.nolimit
  obtain ⟨mm, hm⟩ := modsB_of M.kin b4
  obtain ⟨bm, ob, h1, h2, h3, h4⟩ := bmB_of M.kin M.glob b5
  exact ⟨⟨mc, hc, ns_none M.kin hc (noneB_of b1), ns_none M.kin hc (noneB_of b2)⟩, ⟨mm, hm, ns_none M.kin hm (noneB_of b3)⟩, M.blt, ⟨mg, bm, ob, M.glob, h1, h2, h3, h4⟩⟩
structure SeerX (X : Cx) : Prop where
  sk : seerB X.K = true
  tree : X.prog.given.tree = none
  deep : X.A.depth + Builtin.pylongFrames < recursionLimit
  top : ∃ e l, X.stack = e :: l ∧ e.scope.isGenerator = false ∧ e.scope.isCoroutine = false ∧ e.builtins = builtinsNs ∧ e.globals = mainGlobals
theorem SeerX.seer {X : Cx} (x : SeerX X) : Seer X := fun pins σ H s I => by
  obtain ⟨e, l, h1, h2, h3, h4, h5⟩ := x.top
  exact PylongRoom.of I.nolimit x.deep (SeerAt.of (env := e) (l := l) ((noSeer_of x.sk I.mod).keeps I.bk) x.tree (by rw [I.ok.frames, h1]) h2 h3 h4 h5)
end Z

/-! Z, part B: how data lies in the heap. -/
namespace Z
open PySem PySem.Spec PyProof.Rows L2
/-- where the cells stand; lists that are just being made -/
structure Phi where
  c : List (Option Addr)
  h : List Addr
def Free (φ : Phi) (a : Addr) : Prop := (∀ i : Nat, φ.c[i]? ≠ some (some a)) ∧ a ∉ φ.h
/-- a tuple of the written part -/
def KT (K : PySem.W.Frag) (a : Addr) (xs : List V) : Prop :=
  ∃ (o : Obj) (its : Array Value) (n : Nat), K.lookup a = some o ∧ o.cls = .type "tuple" ∧ o.data = .seq its n ∧ its.size ≤ sizeLine ∧ Vals xs its.toList
def TupAt (K : PySem.W.Frag) (φ : Phi) (H : Hp) (a : Addr) (xs : List V) : Prop := (H a = some (.tup xs) ∧ Free φ a) ∨ KT K a xs
theorem TupAt.sq {K : PySem.W.Frag} {φ : Phi} {H : Hp} {a : Addr} {xs : List V} (h : TupAt K φ H a xs) : SqT K H a xs := by
  rcases h with ⟨h, _⟩ | h
  · exact .inl (.inl h)
  · exact .inr h
/-- a list that is only read: the script, a list of the written part -/
def ScrAt (K : PySem.W.Frag) (φ : Phi) (H : Hp) (a : Addr) (xs : List V) : Prop := ((∃ o, H a = some (.frz o (.lst xs))) ∧ Free φ a) ∨
  ∃ (o : Obj) (its : Array Value) (n : Nat), K.lookup a = some o ∧ o.cls = .type "list" ∧ o.dict = none ∧ o.data = .seq its n ∧ its.size ≤ sizeLine ∧ Vals xs its.toList
theorem ScrAt.sq {K : PySem.W.Frag} {φ : Phi} {H : Hp} {a : Addr} {xs : List V} (h : ScrAt K φ H a xs) : SqL K H a xs := by
  rcases h with ⟨⟨o, h⟩, _⟩ | h
  · exact .inl (.inr ⟨o, h⟩)
  · exact .inr h
mutual
inductive Rv (K : PySem.W.Frag) (φ : Phi) (H : Hp) : V → D → Prop
  | non : Rv K φ H .non .non
  | bl (b : Bool) : Rv K φ H (.bl b) (.bl b)
  | int (i : Int) : Rv K φ H (.int i) (.int i)
  | str (x : Str) : Rv K φ H (.str x) (.str x)
  | tup {a : Addr} {xs : List V} {ds : List D} : TupAt K φ H a xs → Rvs K φ H xs ds → Rv K φ H (.ref a) (.tup ds)
  | lst {a : Addr} {xs : List V} {ds : List D} : H a = some (.lst xs) → Free φ a → Rvs K φ H xs ds → Rv K φ H (.ref a) (.lst ds)
  | scr {a : Addr} {xs : List V} {ds : List D} : ScrAt K φ H a xs → Rvs K φ H xs ds → Rv K φ H (.ref a) (.scr ds)
  | edic {a : Addr} : H a = some (.dK []) → Free φ a → Rv K φ H (.ref a) .edic
  | ref {a : Addr} {i : Nat} {o : Option Addr} : φ.c[i]? = some o → (o = none ∨ o = some a) → Rv K φ H (.ref a) (.ref i)
inductive Rvs (K : PySem.W.Frag) (φ : Phi) (H : Hp) : List V → List D → Prop
  | nil : Rvs K φ H [] []
  | cons {v : V} {vs : List V} {d : D} {ds : List D} : Rv K φ H v d → Rvs K φ H vs ds → Rvs K φ H (v :: vs) (d :: ds)
end
/-- what may have come beside -/
structure Ext0 (φ : Phi) (H : Hp) (φ' : Phi) (H' : Hp) : Prop where
  len : φ.c.length ≤ φ'.c.length
  pre : ∀ (i : Nat) (o : Option Addr), φ.c[i]? = some o → φ'.c[i]? = some o ∨ φ'.c[i]? = some none
  keep : ∀ (a : Addr) (o : HO), Free φ a → H a = some o → H' a = some o ∧ Free φ' a
structure Ext (φ : Phi) (H : Hp) (φ' : Phi) (H' : Hp) : Prop extends Ext0 φ H φ' H' where
  hid : ∀ (a : Addr) (o : HO), a ∈ φ.h → H a = some o → H' a = some o ∧ a ∈ φ'.h
theorem Ext.mk' {φ φ' : Phi} {H H' : Hp} (len : φ.c.length ≤ φ'.c.length) (pre : ∀ (i : Nat) (o : Option Addr), φ.c[i]? = some o → φ'.c[i]? = some o ∨ φ'.c[i]? = some none)
    (keep : ∀ (a : Addr) (o : HO), Free φ a → H a = some o → H' a = some o ∧ Free φ' a) (hid : ∀ (a : Addr) (o : HO), a ∈ φ.h → H a = some o → H' a = some o ∧ a ∈ φ'.h) : Ext φ H φ' H' := ⟨⟨len, pre, keep⟩, hid⟩
theorem Ext.refl (φ : Phi) (H : Hp) : Ext φ H φ H := .mk' (Nat.le_refl _) (fun _ _ h => .inl h) (fun _ _ f h => ⟨h, f⟩) (fun _ _ f h => ⟨h, f⟩)
theorem Ext.trans {φ φ1 φ2 : Phi} {H H1 H2 : Hp} (a : Ext φ H φ1 H1) (b : Ext φ1 H1 φ2 H2) : Ext φ H φ2 H2 := by
  refine .mk' (Nat.le_trans a.len b.len) (fun i o h => ?_) (fun x o f h => ?_) fun x o f h => ?_
  · rcases a.pre i o h with h1 | h1
    · exact b.pre i o h1
    · rcases b.pre i none h1 with h2 | h2 <;> exact .inr h2
  · obtain ⟨h1, f1⟩ := a.keep x o f h
    exact b.keep x o f1 h1
  · obtain ⟨h1, f1⟩ := a.hid x o f h
    exact b.hid x o f1 h1
section
variable {K : PySem.W.Frag} {φ φ' : Phi} {H H' : Hp}
mutual
theorem Rv.ext0 (e : Ext0 φ H φ' H') : ∀ {v : V} {d : D}, Rv K φ H v d → Rv K φ' H' v d
  | _, _, .non => .non
  | _, _, .bl b => .bl b
  | _, _, .int i => .int i
  | _, _, .str x => .str x
  | _, _, .tup t r => .tup (by
      rcases t with ⟨h, f⟩ | h
      · exact .inl (e.keep _ _ f h)
      · exact .inr h) (Rvs.ext0 e r)
  | _, _, .lst h f r => .lst (e.keep _ _ f h).1 (e.keep _ _ f h).2 (Rvs.ext0 e r)
  | _, _, .scr t r => .scr (by
      rcases t with ⟨⟨o, h⟩, f⟩ | h
      · exact .inl ⟨⟨o, (e.keep _ _ f h).1⟩, (e.keep _ _ f h).2⟩
      · exact .inr h) (Rvs.ext0 e r)
  | _, _, .edic h f => .edic (e.keep _ _ f h).1 (e.keep _ _ f h).2
  | _, _, .ref h q => by
      rcases e.pre _ _ h with h1 | h1
      · exact .ref h1 q
      · exact .ref h1 (.inl rfl)
theorem Rvs.ext0 (e : Ext0 φ H φ' H') : ∀ {vs : List V} {ds : List D}, Rvs K φ H vs ds → Rvs K φ' H' vs ds
  | _, _, .nil => .nil
  | _, _, .cons r rs => .cons (Rv.ext0 e r) (Rvs.ext0 e rs)
end
theorem Rv.ext (e : Ext φ H φ' H') {v : V} {d : D} (h : Rv K φ H v d) : Rv K φ' H' v d := Rv.ext0 e.toExt0 h
theorem Rvs.ext (e : Ext φ H φ' H') {v : List V} {d : List D} (h : Rvs K φ H v d) : Rvs K φ' H' v d := Rvs.ext0 e.toExt0 h
theorem Rvs.len : ∀ {vs : List V} {ds : List D}, Rvs K φ H vs ds → vs.length = ds.length
  | _, _, .nil => rfl
  | _, _, .cons _ rs => by rw [List.length_cons, List.length_cons, Rvs.len rs]
theorem Rvs.app : ∀ {vs ws : List V} {ds es : List D}, Rvs K φ H vs ds → Rvs K φ H ws es → Rvs K φ H (vs ++ ws) (ds ++ es)
  | _, _, _, _, .nil, r => r
  | _, _, _, _, .cons r rs, q => .cons r (Rvs.app rs q)
theorem Rvs.take : ∀ {vs : List V} {ds : List D} (n : Nat), Rvs K φ H vs ds → Rvs K φ H (vs.take n) (ds.take n)
  | _, _, 0, _ => .nil
  | _, _, _ + 1, .nil => .nil
  | _, _, n + 1, .cons r rs => .cons r (Rvs.take n rs)
theorem Rvs.drop : ∀ {vs : List V} {ds : List D} (n : Nat), Rvs K φ H vs ds → Rvs K φ H (vs.drop n) (ds.drop n)
  | _, _, 0, r => r
  | _, _, _ + 1, .nil => .nil
  | _, _, n + 1, .cons _ rs => Rvs.drop n rs
theorem Rvs.get : ∀ {vs : List V} {ds : List D} {i : Nat} {d : D}, Rvs K φ H vs ds → ds[i]? = some d → ∃ v, vs[i]? = some v ∧ Rv K φ H v d
  | _, _, _, _, .nil, h => by simp at h
  | _, _, 0, _, .cons r _, h => by
    simp at h
    subst h
    exact ⟨_, rfl, r⟩
  | _, _, i + 1, _, .cons _ rs, h => by
    obtain ⟨v, h1, h2⟩ := Rvs.get (i := i) rs (by simpa using h)
    exact ⟨v, by simpa using h1, h2⟩
theorem Rvs.getV : ∀ {vs : List V} {ds : List D} {i : Nat} {v : V}, Rvs K φ H vs ds → vs[i]? = some v → ∃ d, ds[i]? = some d ∧ Rv K φ H v d
  | _, _, _, _, .nil, h => by simp at h
  | _, _, 0, _, .cons r _, h => by
    simp at h
    subst h
    exact ⟨_, rfl, r⟩
  | _, _, i + 1, _, .cons _ rs, h => by
    obtain ⟨v, h1, h2⟩ := Rvs.getV (i := i) rs (by simpa using h)
    exact ⟨v, by simpa using h1, h2⟩
theorem Rvs.set {v : V} {d : D} (q : Rv K φ H v d) : ∀ {vs : List V} {ds : List D} (i : Nat), Rvs K φ H vs ds → Rvs K φ H (vs.set i v) (ds.set i d)
  | _, _, _, .nil => .nil
  | _, _, 0, .cons _ rs => .cons q rs
  | _, _, i + 1, .cons r rs => .cons r (Rvs.set q i rs)
theorem Rvs.rev : ∀ {vs : List V} {ds : List D}, Rvs K φ H vs ds → Rvs K φ H vs.reverse ds.reverse
  | _, _, .nil => .nil
  | _, _, .cons r rs => by
    rw [List.reverse_cons, List.reverse_cons]
    exact Rvs.app (Rvs.rev rs) (.cons r .nil)
theorem Rvs.dropLast {vs : List V} {ds : List D} (r : Rvs K φ H vs ds) : Rvs K φ H vs.dropLast ds.dropLast := by
  rw [List.dropLast_eq_take, List.dropLast_eq_take, r.len]
  exact r.take _
theorem Rvs.rep {vs : List V} {ds : List D} (r : Rvs K φ H vs ds) : ∀ n : Nat, Rvs K φ H (List.replicate n vs).flatten (List.replicate n ds).flatten
  | 0 => .nil
  | n + 1 => by
    rw [List.replicate_succ, List.replicate_succ, List.flatten_cons, List.flatten_cons]
    exact r.app (Rvs.rep r n)
theorem Rvs.ints : ∀ {vs : List V} {ds : List D} {ns : List Int}, Rvs K φ H vs ds → ints? ds = some ns → vs = ns.map V.int
  | _, _, _, .nil, h => by
    unfold ints? at h
    cases h
    rfl
  | _, _, _, .cons (d := d) (ds := ds) r rs, h => by
    cases r with
    | int i =>
      unfold ints? at h
      cases e : ints? ds with
      | none => rw [e] at h; cases h
      | some ms =>
        rw [e] at h
        cases h
        rw [Rvs.ints rs e]
        rfl
    | _ => exact absurd h (by unfold ints?; exact fun z => nomatch z)
theorem Rvs.bls : ∀ {vs : List V} {ds : List D} {ns : List Bool}, Rvs K φ H vs ds → bls? ds = some ns → vs = ns.map V.bl
  | _, _, _, .nil, h => by
    unfold bls? at h
    cases h
    rfl
  | _, _, _, .cons (d := d) (ds := ds) r rs, h => by
    cases r with
    | bl i =>
      unfold bls? at h
      cases e : bls? ds with
      | none => rw [e] at h; cases h
      | some ms =>
        rw [e] at h
        cases h
        rw [Rvs.bls rs e]
        rfl
    | _ => exact absurd h (by unfold bls?; exact fun z => nomatch z)
end
/-- what stands in a cell -/
def RC (K : PySem.W.Frag) (φ : Phi) (H : Hp) (o : Option (Option Addr)) : Cell → Prop
  | .lst ds => ∃ a xs, o = some (some a) ∧ H a = some (.lst xs) ∧ Rvs K φ H xs ds
  | .dk kvs => ∃ a xs, o = some (some a) ∧ H a = some (.dK xs) ∧ xs.map (·.1) = kvs.map (·.1) ∧ Rvs K φ H (xs.map (·.2)) (kvs.map (·.2))
  | .dt kvs => ∃ a xs, o = some (some a) ∧ H a = some (.dT xs) ∧ xs.map (·.1) = kvs.map (·.1) ∧ Rvs K φ H (xs.map (·.2)) (kvs.map (·.2))
  | .gone => o = some none
structure Rs (K : PySem.W.Frag) (φ : Phi) (S : Store) (H : Hp) : Prop where
  len : φ.c.length = S.length
  nd : ∀ (i j : Nat) (a : Addr), φ.c[i]? = some (some a) → φ.c[j]? = some (some a) → i = j
  tr : ∀ (i : Nat) (a : Addr), φ.c[i]? = some (some a) → (∃ o, H a = some o) ∧ a ∉ φ.h
  ht : ∀ (a : Addr), a ∈ φ.h → ∃ o, H a = some o
  cell : ∀ (i : Nat) (c : Cell), S[i]? = some c → RC K φ H φ.c[i]? c
section
variable {K : PySem.W.Frag} {φ φ' : Phi} {H H' : Hp} {S : Store}
theorem RC.ext {o : Option (Option Addr)} (e : Ext φ H φ' H') (k : ∀ a u, o = some (some a) → H a = some u → H' a = some u) : ∀ {c : Cell}, RC K φ H o c → RC K φ' H' o c
  | .lst ds, ⟨a, xs, h1, h2, h3⟩ => ⟨a, xs, h1, k _ _ h1 h2, h3.ext e⟩
  | .dk kvs, ⟨a, xs, h1, h2, h3, h4⟩ => ⟨a, xs, h1, k _ _ h1 h2, h3, h4.ext e⟩
  | .dt kvs, ⟨a, xs, h1, h2, h3, h4⟩ => ⟨a, xs, h1, k _ _ h1 h2, h3, h4.ext e⟩
  | .gone, h => h
/-- a new object that nobody changes -/
theorem Ext.fresh {p : Addr} {o : HO} (hp : H p = none) : Ext φ H φ (upd H p o) :=
  .mk' (Nat.le_refl _) (fun _ _ h => .inl h) (fun a u f h => ⟨by rw [upd_ne (ne_of_none h hp)]; exact h, f⟩) (fun a u f h => ⟨by rw [upd_ne (ne_of_none h hp)]; exact h, f⟩)
theorem Rs.fresh {p : Addr} {o : HO} (r : Rs K φ S H) (hp : H p = none) : Rs K φ S (upd H p o) :=
  ⟨r.len, r.nd, fun i a h => by
    obtain ⟨⟨u, hu⟩, n⟩ := r.tr i a h
    exact ⟨⟨u, by rw [upd_ne (ne_of_none hu hp)]; exact hu⟩, n⟩, fun a h => by
    obtain ⟨u, hu⟩ := r.ht a h
    exact ⟨u, by rw [upd_ne (ne_of_none hu hp)]; exact hu⟩, fun i c h => (r.cell i c h).ext (Ext.fresh hp) fun a u _ h2 => by rw [upd_ne (ne_of_none h2 hp)]; exact h2⟩
theorem Rs.free {p : Addr} (r : Rs K φ S H) (hp : H p = none) : Free φ p := by
  refine ⟨fun i h => ?_, fun h => ?_⟩
  · obtain ⟨⟨u, hu⟩, _⟩ := r.tr i p h
    rw [hp] at hu
    cases hu
  · obtain ⟨u, hu⟩ := r.ht p h
    rw [hp] at hu
    cases hu
abbrev Phi.add (φ : Phi) (p : Addr) : Phi := ⟨φ.c ++ [some p], φ.h⟩
/-- a new cell -/
theorem Ext.alloc {p : Addr} {o : HO} (hp : H p = none) : Ext φ H (φ.add p) (upd H p o) := by
  refine .mk' (by simp) (fun i o h => .inl ?_) (fun a u f h => ⟨by rw [upd_ne (ne_of_none h hp)]; exact h, fun i q => ?_, f.2⟩) fun a u f h => ⟨by rw [upd_ne (ne_of_none h hp)]; exact h, f⟩
  · obtain ⟨hi, e⟩ := List.getElem?_eq_some_iff.mp h
    show (φ.c ++ [some p])[i]? = _
    rw [List.getElem?_append_left hi]
    exact h
  · have q : (φ.c ++ [some p])[i]? = some (some a) := q
    by_cases hi : i < φ.c.length
    · rw [List.getElem?_append_left hi] at q
      exact f.1 i q
    · rw [List.getElem?_append_right (by omega)] at q
      have e : i - φ.c.length = 0 := by
        by_cases z : i - φ.c.length = 0
        · exact z
        · rw [List.getElem?_eq_none (by simp; omega)] at q
          cases q
      rw [e] at q
      have q2 : some (some p) = some (some a) := q
      cases q2
      rw [hp] at h
      cases h
theorem Rs.alloc {p : Addr} {o : HO} {c : Cell} (r : Rs K φ S H) (hp : H p = none) (hc : RC K (φ.add p) (upd H p o) (some (some p)) c) : Rs K (φ.add p) (S ++ [c]) (upd H p o) := by
  have hf := r.free hp
  have last : ∀ i : Nat, φ.c.length ≤ i → ∀ x, (φ.c ++ [some p])[i]? = some x → i = φ.c.length ∧ x = some p := fun i hi x h => by
    rw [List.getElem?_append_right hi] at h
    by_cases z : i - φ.c.length = 0
    · rw [z] at h
      have h2 : some (some p) = some x := h
      exact ⟨by omega, (Option.some.inj h2).symm⟩
    · rw [List.getElem?_eq_none (by simp; omega)] at h
      cases h
  have first : ∀ i : Nat, i < φ.c.length → (φ.c ++ [some p])[i]? = φ.c[i]? := fun i hi => List.getElem?_append_left hi
  refine ⟨by simp [r.len], fun i j a h1 h2 => ?_, fun i a h => ?_, fun a h => ?_, fun i d h => ?_⟩
  · have h1 : (φ.c ++ [some p])[i]? = some (some a) := h1
    have h2 : (φ.c ++ [some p])[j]? = some (some a) := h2
    by_cases hi : i < φ.c.length
    · rw [first i hi] at h1
      by_cases hj : j < φ.c.length
      · rw [first j hj] at h2
        exact r.nd i j a h1 h2
      · obtain ⟨_, e⟩ := last j (by omega) _ h2
        cases e
        exact absurd h1 (hf.1 i)
    · obtain ⟨ei, e⟩ := last i (by omega) _ h1
      cases e
      by_cases hj : j < φ.c.length
      · rw [first j hj] at h2
        exact absurd h2 (hf.1 j)
      · obtain ⟨ej, _⟩ := last j (by omega) _ h2
        omega
  · have h : (φ.c ++ [some p])[i]? = some (some a) := h
    by_cases hi : i < φ.c.length
    · rw [first i hi] at h
      obtain ⟨⟨u, hu⟩, n⟩ := r.tr i a h
      exact ⟨⟨u, by rw [upd_ne (ne_of_none hu hp)]; exact hu⟩, n⟩
    · obtain ⟨_, e⟩ := last i (by omega) _ h
      cases e
      exact ⟨⟨_, upd_same⟩, hf.2⟩
  · obtain ⟨u, hu⟩ := r.ht a h
    exact ⟨u, by rw [upd_ne (ne_of_none hu hp)]; exact hu⟩
  · show RC K (φ.add p) (upd H p o) (φ.c ++ [some p])[i]? d
    by_cases hi : i < S.length
    · rw [List.getElem?_append_left hi] at h
      rw [first i (by rw [r.len]; exact hi)]
      exact (r.cell i d h).ext (Ext.alloc hp) fun a u _ h2 => by rw [upd_ne (ne_of_none h2 hp)]; exact h2
    · rw [List.getElem?_append_right (by omega)] at h
      by_cases z : i - S.length = 0
      · rw [z] at h
        have h2 : some c = some d := h
        cases h2
        have e : i = φ.c.length := by rw [r.len]; omega
        rw [e, List.getElem?_append_right (Nat.le_refl _), Nat.sub_self]
        exact hc
      · rw [List.getElem?_eq_none (by simp; omega)] at h
        cases h
/-- a cell is changed -/
theorem Ext.write {p : Nat} {a : Addr} {o : HO} (r : Rs K φ S H) (hp : φ.c[p]? = some (some a)) : Ext φ H φ (upd H a o) :=
  .mk' (Nat.le_refl _) (fun _ _ h => .inl h) (fun b u f h => ⟨by rw [upd_ne (fun e => by subst e; exact f.1 p hp)]; exact h, f⟩) (fun b u f h => ⟨by rw [upd_ne (fun e => by subst e; exact (r.tr p _ hp).2 f)]; exact h, f⟩)
theorem Rs.write {p : Nat} {a : Addr} {o : HO} {c : Cell} (r : Rs K φ S H) (hp : φ.c[p]? = some (some a)) (hc : RC K φ (upd H a o) (some (some a)) c) : Rs K φ (S.set p c) (upd H a o) := by
  refine ⟨by simpa using r.len, r.nd, fun i b h => ?_, fun b h => ?_, fun i d h => ?_⟩
  · refine ⟨?_, (r.tr i b h).2⟩
    by_cases e : b = a
    · subst e; exact ⟨_, upd_same⟩
    · obtain ⟨⟨u, hu⟩, _⟩ := r.tr i b h
      exact ⟨u, by rw [upd_ne e]; exact hu⟩
  · by_cases e : b = a
    · subst e; exact ⟨_, upd_same⟩
    · obtain ⟨u, hu⟩ := r.ht b h
      exact ⟨u, by rw [upd_ne e]; exact hu⟩
  · by_cases e : p = i
    · subst e
      have hl : p < S.length := by
        rw [← r.len]
        exact (List.getElem?_eq_some_iff.mp hp).1
      rw [List.getElem?_set_self hl] at h
      cases h
      rw [hp]
      exact hc
    · rw [List.getElem?_set_ne e] at h
      refine (r.cell i d h).ext (Ext.write r hp) fun b u h1 h2 => ?_
      rw [upd_ne (fun z => by subst z; exact e (r.nd p i b hp h1))]
      exact h2
abbrev Phi.cut (φ : Phi) (p : Nat) : Phi := ⟨φ.c.set p none, φ.h⟩
theorem cut_low {p : Nat} (i : Nat) (a : Addr) (q : (φ.c.set p none)[i]? = some (some a)) : φ.c[i]? = some (some a) ∧ p ≠ i := by
  by_cases e : p = i
  · subst e
    by_cases hl : p < φ.c.length
    · rw [List.getElem?_set_self hl] at q
      cases q
    · rw [List.getElem?_eq_none (by simpa using hl)] at q
      cases q
  · rw [List.getElem?_set_ne e] at q
    exact ⟨q, e⟩
/-- a cell goes: its list is kept as it is from now on -/
theorem Ext.frz {p : Nat} : Ext φ H (φ.cut p) H := by
  refine .mk' (by simp) (fun i o h => ?_) (fun a u f h => ⟨h, fun i q => f.1 i (cut_low i a q).1, f.2⟩) fun a u f h => ⟨h, f⟩
  show (φ.c.set p none)[i]? = _ ∨ (φ.c.set p none)[i]? = _
  by_cases e : p = i
  · subst e
    have hl := (List.getElem?_eq_some_iff.mp h).1
    exact .inr (by rw [List.getElem?_set_self hl])
  · exact .inl (by rw [List.getElem?_set_ne e]; exact h)
theorem Rs.frz {p : Nat} (r : Rs K φ S H) : Rs K (φ.cut p) (S.set p .gone) H := by
  refine ⟨by simpa using r.len, fun i j a h1 h2 => r.nd i j a (cut_low i a h1).1 (cut_low j a h2).1, fun i a h => r.tr i a (cut_low i a h).1, r.ht, fun i d h => ?_⟩
  show RC K (φ.cut p) H (φ.c.set p none)[i]? d
  by_cases e : p = i
  · subst e
    have hl : p < S.length := by
      have := (List.getElem?_eq_some_iff.mp h).1
      simpa using this
    rw [List.getElem?_set_self hl] at h
    cases h
    show (φ.c.set p none)[p]? = some none
    rw [List.getElem?_set_self (by rw [r.len]; exact hl)]
  · rw [List.getElem?_set_ne e] at h
    rw [List.getElem?_set_ne e]
    exact (r.cell i d h).ext Ext.frz fun a u _ h2 => h2
theorem free_frz {p : Nat} {a : Addr} (r : Rs K φ S H) (hp : φ.c[p]? = some (some a)) : Free (φ.cut p) a := ⟨fun i q => (cut_low i a q).2 (r.nd p i a hp (cut_low i a q).1), (r.tr p a hp).2⟩
/-! a list that is just being made -/
abbrev Phi.hide (φ : Phi) (p : Addr) : Phi := ⟨φ.c, p :: φ.h⟩
theorem Ext.hide {p : Addr} {o : HO} (hp : H p = none) : Ext φ H (φ.hide p) (upd H p o) := by
  refine .mk' (Nat.le_refl _) (fun _ _ h => .inl h) (fun a u f h => ⟨by rw [upd_ne (ne_of_none h hp)]; exact h, f.1, fun z => ?_⟩) fun a u f h => ⟨by rw [upd_ne (ne_of_none h hp)]; exact h, List.mem_cons_of_mem _ f⟩
  rcases List.mem_cons.mp z with z | z
  · exact ne_of_none h hp z
  · exact f.2 z
theorem Rs.hide {p : Addr} {o : HO} (r : Rs K φ S H) (hp : H p = none) : Rs K (φ.hide p) S (upd H p o) :=
  ⟨r.len, r.nd, fun i a h => by
    obtain ⟨⟨u, hu⟩, n⟩ := r.tr i a h
    exact ⟨⟨u, by rw [upd_ne (ne_of_none hu hp)]; exact hu⟩, fun z => by
      rcases List.mem_cons.mp z with z | z
      · exact ne_of_none hu hp z
      · exact n z⟩, fun a h => by
    rcases List.mem_cons.mp h with z | z
    · subst z; exact ⟨_, upd_same⟩
    · obtain ⟨u, hu⟩ := r.ht a z
      exact ⟨u, by rw [upd_ne (ne_of_none hu hp)]; exact hu⟩, fun i c h => (r.cell i c h).ext (Ext.hide hp) fun a u _ h2 => by rw [upd_ne (ne_of_none h2 hp)]; exact h2⟩
/-- it grows -/
theorem Ext0.hwrite {p : Addr} {o : HO} (hp : p ∈ φ.h) : Ext0 φ H φ (upd H p o) :=
  ⟨Nat.le_refl _, fun _ _ h => .inl h, fun a u f h => ⟨by rw [upd_ne (fun z => by subst z; exact f.2 hp)]; exact h, f⟩⟩
theorem Ext.hwrite {φ1 : Phi} {H1 : Hp} {p : Addr} {o : HO} (e : Ext φ1 H1 φ H) (hp : H1 p = none) : Ext φ1 H1 φ (upd H p o) :=
  .mk' e.len e.pre (fun a u f h => ⟨by rw [upd_ne (ne_of_none h hp)]; exact (e.keep a u f h).1, (e.keep a u f h).2⟩) fun a u f h => ⟨by rw [upd_ne (ne_of_none h hp)]; exact (e.hid a u f h).1, (e.hid a u f h).2⟩
theorem RC.ext0 {o : Option (Option Addr)} (e : Ext0 φ H φ' H') (k : ∀ a u, o = some (some a) → H a = some u → H' a = some u) : ∀ {c : Cell}, RC K φ H o c → RC K φ' H' o c
  | .lst ds, ⟨a, xs, h1, h2, h3⟩ => ⟨a, xs, h1, k _ _ h1 h2, h3.ext0 e⟩
  | .dk kvs, ⟨a, xs, h1, h2, h3, h4⟩ => ⟨a, xs, h1, k _ _ h1 h2, h3, h4.ext0 e⟩
  | .dt kvs, ⟨a, xs, h1, h2, h3, h4⟩ => ⟨a, xs, h1, k _ _ h1 h2, h3, h4.ext0 e⟩
  | .gone, h => h
theorem Rs.hwrite {p : Addr} {o : HO} (r : Rs K φ S H) (hp : p ∈ φ.h) : Rs K φ S (upd H p o) := by
  have ne : ∀ i a, φ.c[i]? = some (some a) → a ≠ p := fun i a h z => by
    subst z
    exact (r.tr i a h).2 hp
  refine ⟨r.len, r.nd, fun i a h => ?_, fun a h => ?_, fun i c h => (r.cell i c h).ext0 (Ext0.hwrite hp) fun a u h1 h2 => by rw [upd_ne (ne i a h1)]; exact h2⟩
  · obtain ⟨⟨u, hu⟩, n⟩ := r.tr i a h
    exact ⟨⟨u, by rw [upd_ne (ne i a h)]; exact hu⟩, n⟩
  · by_cases z : a = p
    · subst z; exact ⟨_, upd_same⟩
    · obtain ⟨u, hu⟩ := r.ht a h
      exact ⟨u, by rw [upd_ne z]; exact hu⟩
/-- it is made: kept from now on, or a cell -/
abbrev Phi.bare (φ : Phi) (p : Addr) : Phi := ⟨φ.c, φ.h.filter fun a => decide (a ≠ p)⟩
abbrev Phi.bareA (φ : Phi) (p : Addr) : Phi := ⟨φ.c ++ [some p], φ.h.filter fun a => decide (a ≠ p)⟩
theorem mem_bare {p a : Addr} : a ∈ (φ.h.filter fun a => decide (a ≠ p)) ↔ a ∈ φ.h ∧ a ≠ p := by simp [List.mem_filter]
theorem Ext0.bare {p : Addr} : Ext0 φ H (φ.bare p) H := ⟨Nat.le_refl _, fun _ _ h => .inl h, fun a u f h => ⟨h, f.1, fun z => f.2 (mem_bare.mp z).1⟩⟩
theorem Ext.bare {φ1 : Phi} {H1 : Hp} {p : Addr} (e : Ext φ1 H1 φ H) (hp : H1 p = none) : Ext φ1 H1 (φ.bare p) H :=
  .mk' e.len e.pre (fun a u f h => ⟨(e.keep a u f h).1, (e.keep a u f h).2.1, fun z => (e.keep a u f h).2.2 (mem_bare.mp z).1⟩) fun a u f h => ⟨(e.hid a u f h).1, mem_bare.mpr ⟨(e.hid a u f h).2, ne_of_none h hp⟩⟩
theorem Rs.bare {p : Addr} (r : Rs K φ S H) : Rs K (φ.bare p) S H :=
  ⟨r.len, r.nd, fun i a h => ⟨(r.tr i a h).1, fun z => (r.tr i a h).2 (mem_bare.mp z).1⟩, fun a h => r.ht a (mem_bare.mp h).1, fun i c h => (r.cell i c h).ext0 Ext0.bare fun _ _ _ h2 => h2⟩
theorem free_bare {p : Addr} (r : Rs K φ S H) (hp : p ∈ φ.h) : Free (φ.bare p) p := ⟨fun i h => (r.tr i p h).2 hp, fun z => (mem_bare.mp z).2 rfl⟩
theorem add_low {p : Addr} {i : Nat} {x : Option Addr} (h : (φ.c ++ [some p])[i]? = some x) : φ.c[i]? = some x ∨ (i = φ.c.length ∧ x = some p) := by
  by_cases hi : i < φ.c.length
  · rw [List.getElem?_append_left hi] at h
    exact .inl h
  · rw [List.getElem?_append_right (by omega)] at h
    by_cases z : i - φ.c.length = 0
    · rw [z] at h
      have h2 : some (some p) = some x := h
      exact .inr ⟨by omega, (Option.some.inj h2).symm⟩
    · rw [List.getElem?_eq_none (by simp; omega)] at h
      cases h
theorem add_up {p : Addr} {i : Nat} {x : Option Addr} (h : φ.c[i]? = some x) : (φ.c ++ [some p])[i]? = some x := by
  rw [List.getElem?_append_left (List.getElem?_eq_some_iff.mp h).1]
  exact h
theorem Ext0.bareA {p : Addr} (hp : p ∈ φ.h) : Ext0 φ H (φ.bareA p) H := ⟨by simp, fun _ _ h => .inl (add_up h), fun a u f h => ⟨h, fun i z => by
  rcases add_low z with z | ⟨_, z⟩
  · exact f.1 i z
  · cases z; exact f.2 hp, fun z => f.2 (mem_bare.mp z).1⟩⟩
theorem Ext.bareA {φ1 : Phi} {H1 : Hp} {p : Addr} (e : Ext φ1 H1 φ H) (hp : H1 p = none) (hq : p ∈ φ.h) : Ext φ1 H1 (φ.bareA p) H := by
  refine .mk' (by simpa using Nat.le_succ_of_le e.len) (fun i o h => ?_) (fun a u f h => ⟨(e.keep a u f h).1, fun i z => ?_, fun z => (e.keep a u f h).2.2 (mem_bare.mp z).1⟩) fun a u f h => ⟨(e.hid a u f h).1, mem_bare.mpr ⟨(e.hid a u f h).2, ne_of_none h hp⟩⟩
  · rcases e.pre i o h with z | z
    · exact .inl (add_up z)
    · exact .inr (add_up z)
  · rcases add_low z with z | ⟨_, z⟩
    · exact (e.keep a u f h).2.1 i z
    · cases z; exact ne_of_none h hp rfl
theorem Rs.bareA {p : Addr} {xs : List V} {ds : List D} (r : Rs K φ S H) (hp : p ∈ φ.h) (hx : H p = some (.lst xs)) (hr : Rvs K φ H xs ds) : Rs K (φ.bareA p) (S ++ [.lst ds]) H := by
  refine ⟨by simp [r.len], fun i j a h1 h2 => ?_, fun i a h => ?_, fun a h => r.ht a (mem_bare.mp h).1, fun i c h => ?_⟩
  · rcases add_low h1 with z1 | ⟨e1, z1⟩
    · rcases add_low h2 with z2 | ⟨e2, z2⟩
      · exact r.nd i j a z1 z2
      · cases z2
        exact absurd hp (r.tr i p z1).2
    · cases z1
      rcases add_low h2 with z2 | ⟨e2, z2⟩
      · exact absurd hp (r.tr j p z2).2
      · omega
  · rcases add_low h with z | ⟨e, z⟩
    · exact ⟨(r.tr i a z).1, fun q => (r.tr i a z).2 (mem_bare.mp q).1⟩
    · cases z
      exact ⟨⟨_, hx⟩, fun q => (mem_bare.mp q).2 rfl⟩
  · show RC K (φ.bareA p) H (φ.c ++ [some p])[i]? c
    by_cases hi : i < S.length
    · rw [List.getElem?_append_left hi] at h
      rw [List.getElem?_append_left (by rw [r.len]; exact hi)]
      exact (r.cell i c h).ext0 (Ext0.bareA hp) fun _ _ _ h2 => h2
    · rw [List.getElem?_append_right (by omega)] at h
      by_cases z : i - S.length = 0
      · rw [z] at h
        have h2 : some (Cell.lst ds) = some c := h
        cases h2
        have e : i = φ.c.length := by rw [r.len]; omega
        rw [e, List.getElem?_append_right (Nat.le_refl _), Nat.sub_self]
        exact ⟨p, xs, rfl, hx, hr.ext0 (Ext0.bareA hp)⟩
      · rw [List.getElem?_eq_none (by simp; omega)] at h
        cases h
end
/-! ### the slots -/
def RE (K : PySem.W.Frag) (φ : Phi) (H : Hp) (δ : Env) (σ : L2.St) : Prop := δ.length = σ.length ∧ ∀ (i : Nat) (d : D), δ[i]? = some (some d) → ∃ v, σ[i]? = some (some v) ∧ Rv K φ H v d
section
variable {K : PySem.W.Frag} {φ φ' : Phi} {H H' : Hp} {S : Store} {δ : Env} {σ : L2.St}
theorem RE.ext (e : Ext φ H φ' H') (r : RE K φ H δ σ) : RE K φ' H' δ σ := ⟨r.1, fun i d h => by
  obtain ⟨v, h1, h2⟩ := r.2 i d h
  exact ⟨v, h1, h2.ext e⟩⟩
theorem RE.set {i : Nat} {d : D} {v : V} (r : RE K φ H δ σ) (q : Rv K φ H v d) : RE K φ H (δ.set i (some d)) (σ.set i (some v)) := ⟨by simpa using r.1, fun j e h => by
  by_cases z : i = j
  · subst z
    have hl : i < δ.length := by
      have := (List.getElem?_eq_some_iff.mp h).1
      simpa using this
    rw [List.getElem?_set_self hl] at h
    cases h
    exact ⟨v, by rw [List.getElem?_set_self (by rw [← r.1]; exact hl)], q⟩
  · rw [List.getElem?_set_ne z] at h
    rw [List.getElem?_set_ne z]
    exact r.2 j e h⟩
theorem RE.setN {i : Nat} (r : RE K φ H δ σ) : RE K φ H (δ.set i none) (σ.set i none) := ⟨by simpa using r.1, fun j e h => by
  by_cases z : i = j
  · subst z
    have hl : i < δ.length := by
      have := (List.getElem?_eq_some_iff.mp h).1
      simpa using this
    rw [List.getElem?_set_self hl] at h
    cases h
  · rw [List.getElem?_set_ne z] at h
    rw [List.getElem?_set_ne z]
    exact r.2 j e h⟩
theorem RE.wipe : ∀ {own : List Nat}, RE K φ H δ σ → RE K φ H (wipeD δ own) (wipe σ own)
  | [], r => r
  | v :: vs, r => by
    unfold wipeD L2.wipe
    exact (RE.wipe r).setN
end
end Z

/-! Z, part C: expressions keep what their run says. -/
namespace Z
open PySem PySem.Spec PyProof.Rows L2
abbrev St := L2.St
/-- an exception's own dict -/
def Xd (K : PySem.W.Frag) (φ : Phi) (H : Hp) (a : D) (dd : Option Addr) : Prop := match a with
  | .non => dd = none
  | a => ∃ p v, dd = some p ∧ H p = some (.xd [("row", v)]) ∧ Rv K φ H v a
/-- what a run promises of the values behind it -/
def OutG {α β : Type} (rel : Phi → Hp → β → α → Prop) (K : PySem.W.Frag) (ec : Nat → Value) (W : WX) (σ : St) (φ : Phi) (H : Hp) (r : R α) (Q : β → Hp → Prop) : Prop := match r with
  | .ok d S' => ∀ φ' v H', Ext φ H φ' H' → Rs K φ' S' H' → rel φ' H' v d → Q v H'
  | .exc c a S' => ∀ φ' H' dd, Ext φ H φ' H' → Rs K φ' S' H' → Xd K φ' H' a dd → W (ec c) dd σ H'
  | .stuck => False
section
variable {α β γ ε : Type} {rel : Phi → Hp → β → α → Prop} {rel' : Phi → Hp → γ → ε → Prop} {K : PySem.W.Frag} {ec : Nat → Value} {W : WX} {σ : St} {φ φ1 : Phi} {H H1 : Hp} {r : R α} {Q : β → Hp → Prop}
theorem OutG.ext (e : Ext φ H φ1 H1) (h : OutG rel K ec W σ φ H r Q) : OutG rel K ec W σ φ1 H1 r Q := by
  cases r with
  | ok d S' => exact fun φ' v H' e' => h φ' v H' (e.trans e')
  | exc c a S' => exact fun φ' H' dd e' => h φ' H' dd (e.trans e')
  | stuck => exact h
theorem OutG.bind {k : α → Store → R ε} {Q' : γ → Hp → Prop} (h : OutG rel' K ec W σ φ H (r.bind k) Q') :
    OutG rel K ec W σ φ H r fun v H1 => ∃ φ1 x S1, Ext φ H φ1 H1 ∧ Rs K φ1 S1 H1 ∧ rel φ1 H1 v x ∧ OutG rel' K ec W σ φ1 H1 (k x S1) Q' := by
  cases r with
  | ok d S' => exact fun φ' v H' e' rs rv => ⟨φ', d, S', e', rs, rv, OutG.ext e' h⟩
  | exc c a S' => exact h
  | stuck => exact h
theorem OutG.mono {Q' : β → Hp → Prop} (h : OutG rel K ec W σ φ H r Q) (k : ∀ v H', Q v H' → Q' v H') : OutG rel K ec W σ φ H r Q' := by
  cases r with
  | ok d S' => exact fun φ' v H' e' rs rv => k _ _ (h φ' v H' e' rs rv)
  | exc c a S' => exact h
  | stuck => exact h
end
abbrev Out (K : PySem.W.Frag) (ec : Nat → Value) (W : WX) (σ : St) (φ : Phi) (H : Hp) (r : R D) (Q : VK) : Prop := OutG (Rv K) K ec W σ φ H r Q
/-- the readings: of an expression, of several, of a test -/
def rdE (K : PySem.W.Frag) (ec : Nat → Value) (F : Fn) (W : WX) (c : CE) : TE := fun σ H Q => ∃ φ δ S, Rs K φ S H ∧ RE K φ H δ σ ∧ OutG (Rv K) K ec W σ φ H (ev F c δ S) Q
def rdA (K : PySem.W.Frag) (ec : Nat → Value) (F : Fn) (W : WX) (c : CE) : TA := fun σ H Q => ∃ φ δ S, Rs K φ S H ∧ RE K φ H δ σ ∧ OutG (Rvs K) K ec W σ φ H (evs F c δ S) Q
def relB (_ : Phi) (_ : Hp) (b : Bool) (d : D) : Prop := d = .bl b
def rdT (K : PySem.W.Frag) (ec : Nat → Value) (F : Fn) (W : WX) (c : CE) : TT := fun σ H Q => ∃ φ δ S, Rs K φ S H ∧ RE K φ H δ σ ∧ (∀ d S', ev F c δ S = .ok d S' → ∃ b, d = .bl b) ∧ OutG relB K ec W σ φ H (ev F c δ S) Q
def GE (X : Cx) (ec : Nat → Value) (F : Fn) (W : WX) (e : Expr) (c : CE) : Prop := PE X e (rdE X.K ec F W c)
def GA (X : Cx) (ec : Nat → Value) (F : Fn) (W : WX) (es : List Expr) (c : CE) : Prop := PA X es (rdA X.K ec F W c)
def GT (X : Cx) (ec : Nat → Value) (F : Fn) (W : WX) (e : Expr) (c : CE) : Prop := PT X e (rdT X.K ec F W c)
theorem PE.imp {X : Cx} {e : Expr} {t t' : TE} (h : PE X e t) (k : ∀ σ H Q, t' σ H Q → t σ H Q) : PE X e t' := ⟨fun pins s σ H Q I q => h.run pins s σ H Q I (k σ H Q q)⟩
theorem PA.imp {X : Cx} {e : List Expr} {t t' : TA} (h : PA X e t) (k : ∀ σ H Q, t' σ H Q → t σ H Q) : PA X e t' := ⟨fun pos pins s σ H Q I q => h.run pos pins s σ H Q I (k σ H Q q)⟩
theorem PT.imp {X : Cx} {e : Expr} {t t' : TT} (h : PT X e t) (k : ∀ σ H Q, t' σ H Q → t σ H Q) : PT X e t' := ⟨fun pins s σ H Q I q => h.run pins s σ H Q I (k σ H Q q)⟩
theorem PW.imp {X : Cx} {e : Expr} {t t' : TT} (h : PW X e t) (k : ∀ σ H Q, t' σ H Q → t σ H Q) : PW X e t' := ⟨fun wh pins s σ H Q I q => h.run wh pins s σ H Q I (k σ H Q q)⟩
/-- an operation by values that leaves the store as it is -/
def OV (K : PySem.W.Frag) (φ : Phi) (S : Store) (H : Hp) (o : Option D) (Q : VK) : Prop := match o with
  | some d => ∀ v H', Ext φ H φ H' → Rs K φ S H' → Rv K φ H' v d → Q v H'
  | none => False
section
variable {K : PySem.W.Frag} {ec : Nat → Value} {W : WX} {σ : St} {φ : Phi} {S : Store} {H : Hp} {o : Option D} {Q : VK}
theorem OutG.ov (h : OutG (Rv K) K ec W σ φ H (R.opt o S) Q) : OV K φ S H o Q := by
  cases o with
  | some d => exact fun v H' e rs rv => h φ v H' e rs rv
  | none => exact h
theorem OV.same {d : D} {v : V} (h : OV K φ S H (some d) Q) (rs : Rs K φ S H) (r : Rv K φ H v d) : Q v H := h v H (Ext.refl _ _) rs r
theorem OV.new {ds : List D} {xs : List V} {p : Addr} (h : OV K φ S H (some (.tup ds)) Q) (rs : Rs K φ S H) (r : Rvs K φ H xs ds) (hp : H p = none) : Q (.ref p) (upd H p (.tup xs)) :=
  h _ _ (Ext.fresh hp) (rs.fresh hp) (.tup (.inl ⟨upd_same, rs.free hp⟩) (r.ext (Ext.fresh hp)))
theorem OV.newL {ds : List D} {xs : List V} {p : Addr} (h : OV K φ S H (some (.lst ds)) Q) (rs : Rs K φ S H) (r : Rvs K φ H xs ds) (hp : H p = none) : Q (.ref p) (upd H p (.lst xs)) :=
  h _ _ (Ext.fresh hp) (rs.fresh hp) (.lst upd_same (rs.free hp) (r.ext (Ext.fresh hp)))
end
/-- what a sequence is in the heap -/
theorem seqL_at {K : PySem.W.Frag} {φ : Phi} {S : Store} {H : Hp} {v : V} {d : D} {ds : List D} (rs : Rs K φ S H) (r : Rv K φ H v d) (h : seqL S d = some ds) : ∃ a xs, v = .ref a ∧ H a = some (.lst xs) ∧ Rvs K φ H xs ds := by
  cases r with
  | lst h1 h2 h3 =>
    cases h
    exact ⟨_, _, rfl, h1, h3⟩
  | ref h1 h2 =>
    rename_i a i o
    unfold seqL at h
    cases e : S[i]? with
    | none => simp [e] at h
    | some c =>
      cases c with
      | lst es =>
        simp [e] at h
        subst h
        obtain ⟨b, xs, e1, e2, e3⟩ := rs.cell i _ e
        rw [h1] at e1
        cases e1
        rcases h2 with h2 | h2
        · cases h2
        · cases h2
          exact ⟨_, _, rfl, e2, e3⟩
      | _ => simp [e] at h
  | _ => cases h
theorem seqOf_at {K : PySem.W.Frag} {φ : Phi} {S : Store} {H : Hp} {v : V} {d : D} {ds : List D} (rs : Rs K φ S H) (r : Rv K φ H v d) (h : seqOf S d = some ds) : ∃ a xs, v = .ref a ∧ (SqL K H a xs ∨ SqT K H a xs) ∧ Rvs K φ H xs ds := by
  cases r with
  | tup h1 h2 =>
    cases h
    exact ⟨_, _, rfl, .inr h1.sq, h2⟩
  | lst h1 h2 h3 =>
    cases h
    exact ⟨_, _, rfl, .inl (SqL.of h1), h3⟩
  | scr h1 h3 =>
    cases h
    exact ⟨_, _, rfl, .inl h1.sq, h3⟩
  | ref h1 h2 =>
    obtain ⟨a, xs, e1, e2, e3⟩ := seqL_at rs (.ref h1 h2) (show seqL S (.ref _) = some ds from h)
    exact ⟨a, xs, e1, .inl (SqL.of e2), e3⟩
  | _ => cases h
/-! as data -/
section
variable {K : PySem.W.Frag} {φ : Phi} {S : Store} {H : Hp}
mutual
theorem py_at : ∀ {v : V} {d : D} {x : PyData}, Rv K φ H v d → py d = some x → Dp K H v x
  | _, _, _, .non, h => by
    unfold py at h
    cases h
    exact .non
  | _, _, _, .bl b, h => by
    unfold py at h
    cases h
    exact .bl b
  | _, _, _, .int i, h => by
    unfold py at h
    cases h
    exact .int i
  | _, _, _, .str i, h => by
    unfold py at h
    cases h
    exact .str i
  | _, _, _, .tup (ds := ds) t r, h => by
    unfold py at h
    cases e : pys ds with
    | none => rw [e] at h; cases h
    | some xs =>
      rw [e] at h
      cases h
      exact .tup t.sq (pys_at r e)
  | _, _, _, .lst (ds := ds) h1 h2 r, h => by
    unfold py at h
    cases e : pys ds with
    | none => rw [e] at h; cases h
    | some xs =>
      rw [e] at h
      cases h
      exact .lst (SqL.of h1) (pys_at r e)
  | _, _, _, .scr _ _, h => by unfold py at h; cases h
  | _, _, _, .edic _ _, h => by unfold py at h; cases h
  | _, _, _, .ref _ _, h => by unfold py at h; cases h
theorem pys_at : ∀ {vs : List V} {ds : List D} {xs : List PyData}, Rvs K φ H vs ds → pys ds = some xs → DpAll K H vs xs
  | _, _, _, .nil, h => by
    unfold pys at h
    cases h
    exact .nil
  | _, _, _, .cons (d := d) (ds := ds) r rs, h => by
    unfold pys at h
    cases e : py d with
    | none => simp [e] at h
    | some x =>
      cases e2 : pys ds with
      | none => simp [e, e2] at h
      | some xs =>
        simp [e, e2] at h
        subst h
        exact .cons (py_at r e) (pys_at rs e2)
end
theorem pyS_at {v : V} {d : D} {x : PyData} (rs : Rs K φ S H) (r : Rv K φ H v d) (h : pyS S d = some x) : Dp K H v x := by
  cases r with
  | ref h1 h2 =>
    rename_i a i o
    unfold pyS at h
    cases e : S[i]? with
    | none => simp [e] at h
    | some c =>
      cases c with
      | lst ds =>
        simp [e] at h
        cases e2 : pys ds with
        | none => simp [e2] at h
        | some xs =>
          simp [e2] at h
          subst h
          obtain ⟨b, ys, e3, e4, e5⟩ := seqL_at rs (.ref h1 h2) (show seqL S (.ref i) = some ds by unfold seqL; simp [e])
          cases e3
          exact .lst (SqL.of e4) (pys_at e5 e2)
      | _ => simp [e] at h
  | non => exact py_at (φ := φ) .non h
  | bl b => exact py_at (φ := φ) (.bl b) h
  | int b => exact py_at (φ := φ) (.int b) h
  | str b => exact py_at (φ := φ) (.str b) h
  | tup a b => exact py_at (.tup a b) h
  | lst a b c => exact py_at (.lst a b c) h
  | scr a b => exact py_at (.scr a b) h
  | edic a b => exact py_at (.edic a b) h
theorem shapedO_of {o : Option PyData} {x : PyData} (h : shapedO o = some x) : o = some x ∧ SeqAt.shaped x = true := by
  cases o with
  | none => cases h
  | some y =>
    unfold shapedO at h
    by_cases e : SeqAt.shaped y = true
    · simp [e] at h
      subst h
      exact ⟨rfl, e⟩
    · simp [e] at h
end
end Z

/-! Z, part D: operations by values. -/
namespace Z
open PySem PySem.Spec PyProof.Rows L2 Classical
/-- a two-place operation, by data -/
def rB (K : PySem.W.Frag) (f : D → D → Store → Option D) : R2 := fun x y H Q => ∃ φ S a b, Rs K φ S H ∧ Rv K φ H x a ∧ Rv K φ H y b ∧ OV K φ S H (f a b S) Q
theorem MulOk.ok {i j : Int} (h : MulOk i j) : IntMulOk i j := h
section
variable {X : Cx}
theorem OpR.imp {f : Value → Value → Sem Value} {r r' : R2} (h : OpR X f r) (k : ∀ x y H Q, r' x y H Q → r x y H Q) : OpR X f r' := fun pins s σ H x y v u Q I rx ry q => h pins s σ H x y v u Q I rx ry (k _ _ _ _ q)
theorem op_mulZ : OpR X (binaryOp .Mult) (rI MulOk fun i j => .int (i * j)) := opI fun _ _ _ _ _ _ _ hc q => mul_int q hc.ok
theorem z_add : OpR X (binaryOp .Add) (rB X.K fun x y S => addEv S x y) := by
  have h := (op_add (X := X)).or ((op_add_str (X := X)).or ((op_catA (X := X)).or (op_cat (X := X))))
  refine OpR.imp h fun x y H Q ⟨φ, S, a, b, rs, ra, rb, q⟩ => ?_
  have lst : ∀ xs ys, seqL S a = some xs → seqL S b = some ys → OV X.K φ S H (catEv S a b) Q → rCat x y H Q := fun xs ys e1 e2 q => by
    obtain ⟨l, vs, rfl, h1, r1⟩ := seqL_at rs ra e1
    obtain ⟨m, ws, rfl, h2, r2⟩ := seqL_at rs rb e2
    unfold catEv at q
    simp only [e1, e2] at q
    by_cases hz : xs.length + ys.length ≤ sizeLine
    · rw [if_pos hz] at q
      exact ⟨l, m, vs, ws, rfl, rfl, h1, h2, by rw [r1.len, r2.len]; exact hz, fun p hp => OV.newL q rs (r1.app r2) hp⟩
    · rw [if_neg hz] at q
      exact q.elim
  have cat : ∀ {a b : D}, OV X.K φ S H (catEv S a b) Q → ∃ xs ys, seqL S a = some xs ∧ seqL S b = some ys := fun {a b} q => by
    unfold catEv at q
    cases e1 : seqL S a with
    | none => simp only [e1] at q; exact q.elim
    | some xs =>
      cases e2 : seqL S b with
      | none => simp only [e1, e2] at q; exact q.elim
      | some ys => exact ⟨xs, ys, rfl, rfl⟩
  cases ra with
  | int i =>
    cases rb with
    | int j => exact .inl ⟨i, j, rfl, rfl, OV.same q rs (.int _)⟩
    | _ => exact q.elim
  | str i =>
    cases rb with
    | str j =>
      have q' : OV X.K φ S H (if i.length + j.length ≤ sizeLine then some (.str (i ++ j)) else none) Q := q
      by_cases hz : i.length + j.length ≤ sizeLine
      · rw [if_pos hz] at q'
        exact .inr (.inl ⟨i, j, rfl, rfl, hz, OV.same q' rs (.str _)⟩)
      · rw [if_neg hz] at q'
        exact q'.elim
    | _ => exact q.elim
  | @tup a xs ds t r =>
    cases rb with
    | @tup b ys es t2 r2 =>
      have q' : OV X.K φ S H (if ds.length + es.length ≤ sizeLine then some (.tup (ds ++ es)) else none) Q := q
      by_cases hz : ds.length + es.length ≤ sizeLine
      · rw [if_pos hz] at q'
        refine .inr (.inr (.inl ⟨a, b, xs, ys, rfl, rfl, t.sq, t2.sq, by rw [r.len, r2.len]; exact hz, fun e => ?_, fun _ e => ?_, fun _ _ p hp => OV.new q' rs (r.app r2) hp⟩))
        · subst e
          cases r
          exact OV.same q' rs (.tup t2 r2)
        · subst e
          cases r2
          rw [List.append_nil] at q'
          exact OV.same q' rs (.tup t r)
      · rw [if_neg hz] at q'
        exact q'.elim
    | _ => exact q.elim
  | lst h1 h2 h3 =>
    have q' := q
    unfold addEv at q'
    obtain ⟨xs, ys, e1, e2⟩ := cat q'
    exact .inr (.inr (.inr (lst xs ys e1 e2 q')))
  | ref h1 h2 =>
    have q' := q
    unfold addEv at q'
    obtain ⟨xs, ys, e1, e2⟩ := cat q'
    exact .inr (.inr (.inr (lst xs ys e1 e2 q')))
  | _ => exact q.elim
theorem z_mul : OpR X (binaryOp .Mult) (rB X.K fun x y S => mulEv S x y) := by
  have h := (op_mulZ (X := X)).or ((op_repT (X := X)).or (op_rep (X := X)))
  refine OpR.imp h fun x y H Q ⟨φ, S, a, b, rs, ra, rb, q⟩ => ?_
  have lst : ∀ k, y = .int k → OV X.K φ S H (repEv S a k) Q → rRep x y H Q := fun k ey q => by
    unfold repEv at q
    cases e1 : seqL S a with
    | none => simp only [e1] at q; exact q.elim
    | some xs =>
      obtain ⟨l, vs, rfl, h1, r1⟩ := seqL_at rs ra e1
      simp only [e1] at q
      by_cases hz : -(2 ^ 63) ≤ k ∧ k < 2 ^ 63 ∧ xs.length * k.toNat ≤ sizeLine
      · rw [if_pos hz] at q
        exact ⟨l, k, vs, rfl, ey, h1, hz.1, hz.2.1, by rw [r1.len]; exact hz.2.2, fun p hp => OV.newL q rs (r1.rep _) hp⟩
      · rw [if_neg hz] at q
        exact q.elim
  cases rb with
  | int j =>
    cases ra with
    | int i =>
      have q' : OV X.K φ S H (if MulOk i j then some (.int (i * j)) else none) Q := q
      by_cases hz : MulOk i j
      · rw [if_pos hz] at q'
        exact .inl ⟨i, j, rfl, rfl, hz, OV.same q' rs (.int _)⟩
      · rw [if_neg hz] at q'
        exact q'.elim
    | @tup a xs ds t r =>
      have q' : OV X.K φ S H (if ds ≠ [] ∧ 2 ≤ j ∧ j ≤ 1000 ∧ ds.length ≤ 1000 then some (.tup (List.replicate j.toNat ds).flatten) else none) Q := q
      by_cases hz : ds ≠ [] ∧ 2 ≤ j ∧ j ≤ 1000 ∧ ds.length ≤ 1000
      · rw [if_pos hz] at q'
        refine .inr (.inl ⟨a, j, xs, rfl, rfl, t.sq, fun e => ?_, hz.2.1, hz.2.2.1, by rw [r.len]; exact hz.2.2.2, fun p hp => OV.new q' rs (r.rep _) hp⟩)
        subst e
        cases r
        exact hz.1 rfl
      · rw [if_neg hz] at q'
        exact q'.elim
    | lst h1 h2 h3 => exact .inr (.inr (lst j rfl q))
    | ref h1 h2 => exact .inr (.inr (lst j rfl q))
    | _ => exact q.elim
  | _ => cases ra <;> exact q.elim
def bopOp : Bop → Operator
  | .add => .Add
  | .sub => .Sub
  | .mul => .Mult
  | .fdiv => .FloorDiv
  | .mod => .Mod
  | .pow => .Pow
theorem opInt {op : Operator} {C : Int → Int → Prop} {g : Int → Int → Int} {f : D → D → Store → Option D} (h : OpR X (binaryOp op) (rI C fun i j => .int (g i j)))
    (k : ∀ a b S d, f a b S = some d → ∃ i j, a = .int i ∧ b = .int j ∧ C i j ∧ d = .int (g i j)) : OpR X (binaryOp op) (rB X.K f) := by
  refine OpR.imp h fun x y H Q ⟨φ, S, a, b, rs, ra, rb, q⟩ => ?_
  cases e : f a b S with
  | none => rw [e] at q; exact q.elim
  | some d =>
    obtain ⟨i, j, rfl, rfl, hc, rfl⟩ := k a b S d e
    rw [e] at q
    cases ra
    cases rb
    exact ⟨i, j, rfl, rfl, hc, OV.same q rs (.int _)⟩
theorem z_bin (hs : Seer X) (op : Bop) : OpR X (binaryOp (bopOp op)) (rB X.K (binEv op)) := by
  cases op with
  | add => exact z_add
  | sub =>
    refine opInt (C := fun _ _ => True) (g := fun i j => i - j) (OpR.imp (op_sub (X := X)) fun x y H Q ⟨i, j, h1, h2, _, h3⟩ => ⟨i, j, h1, h2, h3⟩) fun a b S d e => ?_
    cases a <;> cases b <;> cases e
    exact ⟨_, _, rfl, rfl, trivial, rfl⟩
  | mul => exact z_mul
  | fdiv =>
    refine opInt (op_fdivZ (X := X) hs) fun a b S d e => ?_
    cases a <;> cases b <;> first | (cases e; done) | skip
    rename_i i j
    have e' : (if DivOk i j then some (D.int (i / j)) else none) = some d := e
    by_cases h : DivOk i j
    · rw [if_pos h] at e'
      cases e'
      exact ⟨_, _, rfl, rfl, h, rfl⟩
    · rw [if_neg h] at e'
      cases e'
  | mod =>
    refine opInt (op_mod (X := X)) fun a b S d e => ?_
    cases a <;> cases b <;> first | (cases e; done) | skip
    rename_i i j
    have e' : (if 0 < j then some (D.int (i % j)) else none) = some d := e
    by_cases h : 0 < j
    · rw [if_pos h] at e'
      cases e'
      exact ⟨_, _, rfl, rfl, h, rfl⟩
    · rw [if_neg h] at e'
      cases e'
  | pow =>
    refine opInt (op_pow (X := X)) fun a b S d e => ?_
    cases a <;> cases b <;> first | (cases e; done) | skip
    rename_i i j
    have e' : (if 0 ≤ j ∧ j ≤ 1000000 ∧ i.natAbs < 2 ^ 64 then some (D.int (i ^ j.toNat)) else none) = some d := e
    by_cases h : 0 ≤ j ∧ j ≤ 1000000 ∧ i.natAbs < 2 ^ 64
    · rw [if_pos h] at e'
      cases e'
      exact ⟨_, _, rfl, rfl, h, rfl⟩
    · rw [if_neg h] at e'
      cases e'
/-! ### comparisons -/
def copOp : Cop → CmpOp
  | .eq => .Eq
  | .ne => .NotEq
  | .lt => .Lt
  | .le => .LtE
  | .gt => .Gt
  | .ge => .GtE
  | .is => .Is
  | .isnot => .IsNot
  | .isin => .In
  | .notin => .NotIn
theorem eqEv_at {K : PySem.W.Frag} {φ : Phi} {S : Store} {H : Hp} {x y : V} {a b : D} {r : Bool} (rs : Rs K φ S H) (ra : Rv K φ H x a) (rb : Rv K φ H y b) (h : eqEv S a b = some r) :
    ∃ d e, Dp K H x d ∧ Dp K H y e ∧ SeqAt.shaped d = true ∧ SeqAt.shaped e = true ∧ r = PyData.eqv d e := by
  unfold eqEv at h
  cases e1 : shapedO (pyS S a) with
  | none => simp only [e1] at h; cases h
  | some d =>
    cases e2 : shapedO (pyS S b) with
    | none => simp only [e1, e2] at h; cases h
    | some e =>
      simp only [e1, e2] at h
      cases h
      obtain ⟨f1, f2⟩ := shapedO_of e1
      obtain ⟨g1, g2⟩ := shapedO_of e2
      exact ⟨d, e, pyS_at rs ra f1, pyS_at rs rb g1, f2, g2, rfl⟩
theorem OV.bool {K : PySem.W.Frag} {φ : Phi} {S : Store} {H : Hp} {o : Option Bool} {Q : VK} (h : OV K φ S H (o.map D.bl) Q) (rs : Rs K φ S H) : ∃ b, o = some b ∧ Q (.bl b) H := by
  cases o with
  | none => exact h.elim
  | some b => exact ⟨b, rfl, OV.same h rs (.bl b)⟩
theorem rIn_of {K : PySem.W.Frag} {φ : Phi} {S : Store} {H : Hp} {x y : V} {a b : D} {r : Bool} (rs : Rs K φ S H) (ra : Rv K φ H x a) (rb : Rv K φ H y b) (h : inEv S a b = some r) :
    (∃ p xs, y = .ref p ∧ SqT K H p xs ∧ flatV x = true ∧ xs.all flatV = true ∧ r = inV x xs) ∨
    ∃ d ds, Dp K H x d ∧ Dp K H y (.list ds) ∧ SeqAt.shaped d = true ∧ SeqAt.shaped (.list ds) = true ∧ r = ds.any fun z => PyData.eqv z d := by
  have deep : ∀ {b : D}, Rv K φ H y b → (match shapedO (pyS S a), shapedO (pyS S b) with
    | some d, some (.list es) => some (es.any fun z => PyData.eqv z d)
    | _, _ => none) = some r → ∃ d ds, Dp K H x d ∧ Dp K H y (.list ds) ∧ SeqAt.shaped d = true ∧ SeqAt.shaped (.list ds) = true ∧ r = ds.any fun z => PyData.eqv z d := fun {b} rb h => by
    cases e1 : shapedO (pyS S a) with
    | none => simp only [e1] at h; cases h
    | some d =>
      cases e2 : shapedO (pyS S b) with
      | none => simp only [e1, e2] at h; cases h
      | some e =>
        obtain ⟨f1, f2⟩ := shapedO_of e1
        obtain ⟨g1, g2⟩ := shapedO_of e2
        cases e with
        | list es =>
          simp only [e1, e2] at h
          cases h
          exact ⟨d, es, pyS_at rs ra f1, pyS_at rs rb g1, f2, g2, rfl⟩
        | _ => simp only [e1, e2] at h; cases h
  cases rb with
  | @tup p xs ds t rr =>
    left
    unfold inEv at h
    by_cases hf : flatD a = true ∧ ds.all flatD = true
    · simp only [hf, and_self, if_true] at h
      have fl : ∀ {v : V} {d : D}, Rv K φ H v d → flatD d = true → flatV v = true := fun {v d} r h => by
        cases r <;> first | rfl | cases h
      have fls : ∀ {vs : List V} {ds : List D}, Rvs K φ H vs ds → ds.all flatD = true → vs.all flatV = true := fun {vs ds} r h => by
        induction vs generalizing ds with
        | nil => rfl
        | cons v vs ih =>
          cases r with
          | cons r1 r2 =>
            rw [List.all_cons, Bool.and_eq_true] at h
            rw [List.all_cons, Bool.and_eq_true]
            exact ⟨fl r1 h.1, ih r2 h.2⟩
      refine ⟨p, xs, rfl, t.sq, fl ra hf.1, fls rr hf.2, ?_⟩
      have one : ∀ {v : V} {d : D} {z : PyData}, Rv K φ H v d → flatD d = true → py d = some z → (∀ {w : V} {e : D} {u : PyData}, Rv K φ H w e → flatD e = true → py e = some u → PyData.eqv z u = eqV v w) := fun {v d z} r1 f1 p1 {w e u} r2 f2 p2 => by
        cases r1 <;> first | (cases f1; done) | (cases r2 <;> first | (cases f2; done) | (unfold py at p1 p2; cases p1; cases p2; simp [PyData.eqv, eqV]))
      cases e1 : py a with
      | none => simp only [e1] at h; cases h
      | some d =>
        cases e2 : pys ds with
        | none => simp only [e1, e2] at h; cases h
        | some es =>
          simp only [e1, e2] at h
          cases h
          unfold inV
          have go : ∀ {vs : List V} {ds : List D} {es : List PyData}, Rvs K φ H vs ds → ds.all flatD = true → pys ds = some es → (es.any fun z => PyData.eqv z d) = vs.any fun y => eqV y x := fun {vs ds es} r f q => by
            induction vs generalizing ds es with
            | nil =>
              cases r
              unfold pys at q
              cases q
              rfl
            | cons v vs ih =>
              cases r with
              | cons r1 r2 =>
                rename_i d1 ds1
                rw [List.all_cons, Bool.and_eq_true] at f
                unfold pys at q
                cases e3 : py d1 with
                | none => simp [e3] at q
                | some z =>
                  cases e4 : pys ds1 with
                  | none => simp [e3, e4] at q
                  | some zs =>
                    simp [e3, e4] at q
                    subst q
                    rw [List.any_cons, List.any_cons, ih r2 f.2 e4, one r1 f.1 e3 ra hf.1 e1]
          exact go rr hf.2 e2
    · simp only [if_neg hf] at h
      cases h
  | lst h1 h2 h3 => exact .inr (deep (.lst h1 h2 h3) h)
  | ref h1 h2 => exact .inr (deep (.ref h1 h2) h)
  | scr h1 h2 => exact .inr (deep (.scr h1 h2) h)
  | edic h1 h2 => exact .inr (deep (.edic h1 h2) h)
  | non => exact .inr (deep (.non) h)
  | bl b => exact .inr (deep (.bl b) h)
  | int b => exact .inr (deep (.int b) h)
  | str b => exact .inr (deep (.str b) h)
end

section
variable {X : Cx}
theorem isEv_at {K : PySem.W.Frag} {φ : Phi} {H : Hp} {x y : V} {a b : D} {r : Bool} (ra : Rv K φ H x a) (rb : Rv K φ H y b) (h : isEv a b = some r) :
    (y = .non ∧ r = decide (x = .non)) ∨ ∃ p q : Bool, x = .bl p ∧ y = .bl q ∧ r = decide (p = q) := by
  cases rb with
  | non => cases ra <;> first | (cases h; exact .inl ⟨rfl, rfl⟩) | cases h
  | bl b => cases ra <;> first | (cases h; exact .inr ⟨_, _, rfl, rfl, rfl⟩) | cases h
  | _ => cases h
/-! ### dicts -/
section
variable {K : PySem.W.Frag} {φ : Phi} {S : Store} {H : Hp}
theorem key_at {v : V} {d : D} {k : Key} (r : Rv K φ H v d) (e : keyOf d = some k) : v = kV k := by
  cases r <;> first | (cases e; rfl) | cases e
theorem dk_at {v : V} {d : D} {kvs : List (Key × D)} (rs : Rs K φ S H) (r : Rv K φ H v d) (e : dkOf S d = some kvs) :
    ∃ p a xs, d = .ref p ∧ v = .ref a ∧ S[p]? = some (.dk kvs) ∧ φ.c[p]? = some (some a) ∧ H a = some (.dK xs) ∧ xs.map (·.1) = kvs.map (·.1) ∧ Rvs K φ H (xs.map (·.2)) (kvs.map (·.2)) := by
  cases r with
  | ref h1 h2 =>
    rename_i a i o
    unfold dkOf at e
    cases e1 : S[i]? with
    | none => simp [e1] at e
    | some c =>
      have rc := rs.cell i c e1
      cases c with
      | dk es =>
        simp [e1] at e
        subst e
        rw [h1] at rc
        obtain ⟨b, xs, q1, q2, q3, q4⟩ := rc
        cases q1
        rcases h2 with h2 | h2 <;> cases h2
        exact ⟨i, a, xs, rfl, rfl, e1, h1, q2, q3, q4⟩
      | _ => simp [e1] at e
  | _ => cases e
theorem val_at {k : Key} : ∀ {xs : List (Key × V)} {kvs : List (Key × D)}, xs.map (·.1) = kvs.map (·.1) → Rvs K φ H (xs.map (·.2)) (kvs.map (·.2)) →
    (∀ d, valD kvs k = some d → ∃ v, valV xs k = some v ∧ Rv K φ H v d) ∧ (valV xs k).isSome = (valD kvs k).isSome
  | [], [], _, _ => ⟨fun d h => (by cases h), rfl⟩
  | [], _ :: _, h, _ => by simp at h
  | _ :: _, [], h, _ => by simp at h
  | x :: xs, y :: kvs, h, r => by
    rw [List.map_cons, List.map_cons, List.cons.injEq] at h
    rw [List.map_cons, List.map_cons] at r
    cases r with
    | cons r1 r2 =>
      have ih := val_at (k := k) h.2 r2
      by_cases e : x.1 = k
      · have e2 : y.1 = k := by rw [← h.1]; exact e
        have v1 : valV (x :: xs) k = some x.2 := valV_pos e
        have v2 : valD (y :: kvs) k = some y.2 := by simp [valD, List.find?_cons, e2]
        rw [v1, v2]
        exact ⟨fun d hd => by cases hd; exact ⟨_, rfl, r1⟩, rfl⟩
      · have e2 : ¬ y.1 = k := by rw [← h.1]; exact e
        have v1 : valV (x :: xs) k = valV xs k := valV_neg e
        have v2 : valD (y :: kvs) k = valD kvs k := by simp [valD, List.find?_cons, e2]
        rw [v1, v2]
        exact ih
theorem any_at {k : Key} : ∀ {xs : List (Key × V)} {kvs : List (Key × D)}, xs.map (·.1) = kvs.map (·.1) → (xs.any fun kv => decide (kv.1 = k)) = kvs.any fun kv => decide (kv.1 = k)
  | [], [], _ => rfl
  | [], _ :: _, h => by simp at h
  | _ :: _, [], h => by simp at h
  | x :: xs, y :: kvs, h => by
    rw [List.map_cons, List.map_cons, List.cons.injEq] at h
    rw [List.any_cons, List.any_cons, any_at h.2, h.1]
theorem put_map {k : Key} {v : V} {d : D} (q : Rv K φ H v d) : ∀ {xs : List (Key × V)} {kvs : List (Key × D)}, xs.map (·.1) = kvs.map (·.1) → Rvs K φ H (xs.map (·.2)) (kvs.map (·.2)) →
    (xs.map fun kv => if kv.1 = k then (kv.1, v) else kv).map (·.1) = (kvs.map fun kv => if kv.1 = k then (kv.1, d) else kv).map (·.1) ∧
    Rvs K φ H ((xs.map fun kv => if kv.1 = k then (kv.1, v) else kv).map (·.2)) ((kvs.map fun kv => if kv.1 = k then (kv.1, d) else kv).map (·.2))
  | [], [], _, _ => ⟨rfl, .nil⟩
  | [], _ :: _, h, _ => by simp at h
  | _ :: _, [], h, _ => by simp at h
  | x :: xs, y :: kvs, h, r => by
    rw [List.map_cons, List.map_cons, List.cons.injEq] at h
    rw [List.map_cons, List.map_cons] at r
    cases r with
    | cons r1 r2 =>
      obtain ⟨ih1, ih2⟩ := put_map (k := k) q h.2 r2
      simp only [List.map_cons]
      by_cases e : x.1 = k
      · have e2 : y.1 = k := by rw [← h.1]; exact e
        rw [if_pos e, if_pos e2]
        exact ⟨by rw [ih1]; show x.1 :: _ = y.1 :: _; rw [h.1], .cons q ih2⟩
      · have e2 : ¬ y.1 = k := by rw [← h.1]; exact e
        rw [if_neg e, if_neg e2]
        exact ⟨by rw [ih1]; show x.1 :: _ = y.1 :: _; rw [h.1], .cons r1 ih2⟩
theorem put_at {k : Key} {v : V} {d : D} (q : Rv K φ H v d) {xs : List (Key × V)} {kvs : List (Key × D)} (h : xs.map (·.1) = kvs.map (·.1)) (r : Rvs K φ H (xs.map (·.2)) (kvs.map (·.2))) :
    (putK xs k v).map (·.1) = (putD kvs k d).map (·.1) ∧ Rvs K φ H ((putK xs k v).map (·.2)) ((putD kvs k d).map (·.2)) := by
  unfold putK putD
  rw [any_at h]
  by_cases e : (kvs.any fun kv => decide (kv.1 = k)) = true
  · rw [if_pos e, if_pos e]
    exact put_map q h r
  · rw [if_neg e, if_neg e]
    rw [List.map_append, List.map_append, List.map_append, List.map_append, h]
    exact ⟨rfl, r.app (.cons q .nil)⟩
theorem keysI_at : ∀ {kvs : List (Key × D)} {ks : List Int}, keysI kvs = some ks → kvs.map (·.1) = ks.map Sum.inl
  | [], ks, h => by cases h; rfl
  | (.inl i, d) :: r, ks, h => by
    unfold keysI at h
    cases e : keysI r with
    | none => rw [e] at h; cases h
    | some l =>
      rw [e] at h
      cases h
      rw [List.map_cons, List.map_cons, keysI_at e]
  | (.inr _, _) :: _, ks, h => by cases h
theorem sort_uniq {ks ys : List Int} (p : ys.Perm ks) (s : ys.Pairwise (· ≤ ·)) : ys = sortI ks := by
  have h2 : (sortI ks).Pairwise (· ≤ ·) := by
    have := List.pairwise_mergeSort (le := fun a b : Int => decide (a ≤ b)) (fun a b c h1 h2 => by simp at *; omega) (fun a b => by simp; omega) ks
    exact this.imp fun h => of_decide_eq_true h
  exact List.Perm.eq_of_pairwise (le := (· ≤ ·)) (fun a b _ _ h1 h2 => Int.le_antisymm h1 h2) s h2 (p.trans (List.mergeSort_perm ks _).symm)
end
theorem op_inK (hu : X.A.units + 1 < cLine) : OpR X (compareOp .In) (fun x y H Q => ∃ a kvs k, y = .ref a ∧ H a = some (.dK kvs) ∧ x = kV k ∧ Q (.bl (valV kvs k).isSome) H) := by
  intro pins s σ H x y v u Q I rx ry h
  obtain ⟨a, kvs, k, rfl, e, rfl, q⟩ := h
  cases ry
  exact d_in hu I (DGet.k e) rx fun s' I' => ⟨.bl _, H, I', rfl, q⟩
theorem op_notInK (hu : X.A.units + 1 < cLine) : OpR X (compareOp .NotIn) (fun x y H Q => ∃ a kvs k, y = .ref a ∧ H a = some (.dK kvs) ∧ x = kV k ∧ Q (.bl (!(valV kvs k).isSome)) H) := by
  intro pins s σ H x y v u Q I rx ry h
  obtain ⟨a, kvs, k, rfl, e, rfl, q⟩ := h
  cases ry
  exact d_notIn hu I (DGet.k e) rx fun s' I' => ⟨.bl _, H, I', rfl, q⟩
theorem inD_of {K : PySem.W.Frag} {φ : Phi} {S : Store} {H : Hp} {x y : V} {a b : D} {r : Bool} (rs : Rs K φ S H) (ra : Rv K φ H x a) (rb : Rv K φ H y b) (h : inEvD S a b = some r) :
    inEv S a b = some r ∨ ∃ p xs k, y = .ref p ∧ H p = some (.dK xs) ∧ x = kV k ∧ r = (valV xs k).isSome := by
  unfold inEvD at h
  cases e : dkOf S b with
  | none => rw [e] at h; exact .inl h
  | some kvs =>
    rw [e] at h
    cases e2 : keyOf a with
    | none => simp [e2] at h
    | some k =>
      simp only [e2, Option.map_some, Option.some.injEq] at h
      obtain ⟨p, w, xs, rfl, rfl, q1, q2, q3, q4, q5⟩ := dk_at rs rb e
      refine .inr ⟨w, xs, k, rfl, q3, key_at ra e2, ?_⟩
      rw [← h, (val_at q4 q5).2]
theorem cmp_of {op : CmpOp} {o : Cop} {r : R2} (h : OpR X (compareOp op) r) (k : ∀ φ S H x y a b c (Q : VK), Rs X.K φ S H → Rv X.K φ H x a → Rv X.K φ H y b → cmpB o a b S = some c → Q (.bl c) H → r x y H Q) : OpR X (compareOp op) (rB X.K (cmpEv o)) := by
  refine OpR.imp h fun x y H Q ⟨φ, S, a, b, rs, ra, rb, q⟩ => ?_
  obtain ⟨c, e, q⟩ := OV.bool q rs
  exact k φ S H x y a b c Q rs ra rb e q
theorem map_not {o : Option Bool} {c : Bool} (h : o.map (!·) = some c) : o = some (!c) := by
  cases o with
  | none => cases h
  | some b =>
    cases h
    simp
theorem ord_of {op : CmpOp} {o : Cop} {g : Int → Int → Bool} (h : OpR X (compareOp op) (rI0 fun i j => .bl (g i j))) (e : ∀ a b S, cmpB o a b S = ordEv o a b) (eg : ∀ i j, cmpI o i j = some (g i j)) : OpR X (compareOp op) (rB X.K (cmpEv o)) := by
  refine cmp_of h fun φ S H x y a b c Q rs ra rb e2 q => ?_
  rw [e] at e2
  cases ra <;> first | (cases e2; done) | skip
  cases rb <;> first | (cases e2; done) | skip
  have e3 : cmpI o _ _ = some c := e2
  rw [eg] at e3
  cases e3
  exact ⟨_, _, rfl, rfl, q⟩
theorem z_cmp (hu : X.A.units + 65 < cLine) (op : Cop) : OpR X (compareOp (copOp op)) (rB X.K (cmpEv op)) := by
  cases op with
  | eq =>
    refine cmp_of (op_eqD (X := X) (by omega)) fun φ S H x y a b c Q rs ra rb e q => ?_
    obtain ⟨d, f, h1, h2, h3, h4, rfl⟩ := eqEv_at rs ra rb e
    exact ⟨d, f, h1, h2, h3, h4, q⟩
  | ne =>
    refine cmp_of (op_neD (X := X) (by omega)) fun φ S H x y a b c Q rs ra rb e q => ?_
    obtain ⟨d, f, h1, h2, h3, h4, e5⟩ := eqEv_at rs ra rb (map_not e)
    refine ⟨d, f, h1, h2, h3, h4, ?_⟩
    rw [← e5, Bool.not_not]
    exact q
  | lt => exact ord_of op_lt (fun _ _ _ => rfl) fun _ _ => rfl
  | le => exact ord_of op_le (fun _ _ _ => rfl) fun _ _ => rfl
  | gt => exact ord_of op_gt (fun _ _ _ => rfl) fun _ _ => rfl
  | ge => exact ord_of op_ge (fun _ _ _ => rfl) fun _ _ => rfl
  | is =>
    refine cmp_of ((op_isN (X := X)).or (op_isBl (X := X))) fun φ S H x y a b c Q rs ra rb e q => ?_
    rcases isEv_at ra rb e with ⟨h1, rfl⟩ | ⟨p, r, h1, h2, rfl⟩
    · exact .inl ⟨h1, q⟩
    · exact .inr ⟨p, r, h1, h2, q⟩
  | isnot =>
    refine cmp_of ((op_notN (X := X)).or (op_notBl (X := X))) fun φ S H x y a b c Q rs ra rb e q => ?_
    rcases isEv_at ra rb (map_not e) with ⟨h1, e2⟩ | ⟨p, r, h1, h2, e2⟩
    · exact .inl ⟨h1, by rw [← e2, Bool.not_not]; exact q⟩
    · exact .inr ⟨p, r, h1, h2, by rw [← e2, Bool.not_not]; exact q⟩
  | isin =>
    refine cmp_of (((op_in_seq (X := X)).or (op_inD (X := X) hu)).or (op_inK (X := X) (by omega))) fun φ S H x y a b c Q rs ra rb e q => ?_
    rcases inD_of rs ra rb e with e | ⟨p, xs, k, h1, h2, h3, rfl⟩
    · rcases rIn_of rs ra rb e with ⟨p, xs, h1, h2, h3, h4, rfl⟩ | ⟨d, ds, h1, h2, h3, h4, rfl⟩
      · exact .inl (.inl ⟨p, xs, h1, .inr h2, h3, h4, q⟩)
      · exact .inl (.inr ⟨d, ds, h1, h2, h3, h4, q⟩)
    · exact .inr ⟨p, xs, k, h1, h2, h3, q⟩
  | notin =>
    refine cmp_of (((op_notIn_seq (X := X)).or (op_notInD (X := X) hu)).or (op_notInK (X := X) (by omega))) fun φ S H x y a b c Q rs ra rb e q => ?_
    rcases inD_of rs ra rb (map_not e) with e | ⟨p, xs, k, h1, h2, h3, e2⟩
    · rcases rIn_of rs ra rb e with ⟨p, xs, h1, h2, h3, h4, e2⟩ | ⟨d, ds, h1, h2, h3, h4, e2⟩
      · exact .inl (.inl ⟨p, xs, h1, .inr h2, h3, h4, by rw [← e2]; simpa using q⟩)
      · exact .inl (.inr ⟨d, ds, h1, h2, h3, h4, by rw [← e2]; simpa using q⟩)
    · exact .inr ⟨p, xs, k, h1, h2, h3, by rw [← e2, Bool.not_not]; exact q⟩
/-! ### subscripts -/
theorem atI_rv {K : PySem.W.Frag} {φ : Phi} {H : Hp} {vs : List V} {ds : List D} {i : Int} {d : D} (r : Rvs K φ H vs ds) (h : atI ds i = some d) : ∃ v, atI vs i = some v ∧ Rv K φ H v d := by
  unfold atI at h ⊢
  rw [r.len]
  cases e : ixN ds.length i with
  | none => rw [e] at h; cases h
  | some j =>
    rw [e] at h
    exact r.get h
theorem ix_dk (hu : X.A.units + 1 < cLine) : IxR X (fun x y H Q => ∃ a kvs k v, x = .ref a ∧ H a = some (.dK kvs) ∧ y = kV k ∧ valV kvs k = some v ∧ Q v H) := by
  intro value slice pins s σ H x y v u Q I rx ry h hs
  obtain ⟨a, kvs, k, z, rfl, e, rfl, l, q⟩ := h
  have g : DGet H a (kV k) (some z) := by rw [← l]; exact DGet.k e
  cases rx
  exact tail_any (dict_typeIs I g) PySem.F.slot_dict_getitem.lookup (d_getItem hu I g ry fun w' s' I' rw' => ⟨z, H, I', rw', q⟩) hs
theorem z_ix (hu : X.A.units + 1 < cLine) : IxR X (rB X.K idxEv) := by
  have h := ((ix_list (X := X)).or (ix_tup (X := X))).or (ix_dk hu)
  intro value slice pins s σ H x y v u Q I rx ry q hs
  obtain ⟨φ, S, a, b, rs, ra, rb, q⟩ := q
  refine h value slice pins s σ H x y v u Q I rx ry ?_ hs
  unfold idxEv at q
  cases e0 : dkOf S a with
  | some kvs =>
    simp only [e0] at q
    cases e1 : keyOf b with
    | none => simp only [e1, Option.bind_none] at q; exact q.elim
    | some k =>
      simp only [e1, Option.bind_some] at q
      cases e2 : valD kvs k with
      | none => simp only [e2] at q; exact q.elim
      | some d =>
        simp only [e2] at q
        obtain ⟨p, w, xs, rfl, rfl, q1, q2, q3, q4, q5⟩ := dk_at rs ra e0
        obtain ⟨z, hz, rz⟩ := (val_at q4 q5).1 d e2
        exact .inr ⟨w, xs, k, z, rfl, q3, key_at rb e1, hz, OV.same q rs rz⟩
  | none =>
    simp only [e0] at q
    cases rb with
    | int i =>
      cases e : seqOf S a with
      | none => simp only [e] at q; exact q.elim
      | some ds =>
        simp only [e] at q
        cases e2 : atI ds i with
        | none => simp only [e2] at q; exact q.elim
        | some d =>
          simp only [e2] at q
          obtain ⟨p, xs, rfl, hq, rr⟩ := seqOf_at rs ra e
          obtain ⟨w, hw, rw'⟩ := atI_rv rr e2
          rcases hq with hq | hq
          · exact .inl (.inl ⟨p, xs, i, w, rfl, rfl, hq, hw, OV.same q rs rw'⟩)
          · exact .inl (.inr ⟨p, xs, i, w, rfl, rfl, hq, hw, OV.same q rs rw'⟩)
    | _ => exact q.elim
theorem cut_rv {K : PySem.W.Frag} {φ : Phi} {H : Hp} {vs : List V} {ds : List D} (r : Rvs K φ H vs ds) (lo hi : Option Int) : Rvs K φ H (cutV vs lo hi) (cutD ds lo hi) := by
  unfold cutV cutD
  rw [r.len]
  exact (r.drop _).take _
theorem cutD_whole {ds : List D} {lo hi : Option Int} (h : HT.sIx ds.length 0 lo = 0 ∧ HT.sIx ds.length ds.length hi = ds.length) : cutD ds lo hi = ds := by
  unfold cutD
  rw [h.1, h.2]
  simp
def rSlZ (K : PySem.W.Frag) : V → Option Int → Option Int → Hp → VK → Prop := fun x lo hi H Q => ∃ φ S a, Rs K φ S H ∧ Rv K φ H x a ∧ OV K φ S H (slEv a lo hi S) Q
theorem z_sl : SlR X (rSlZ X.K) := by
  have h := ((sl_list (X := X)).or (sl_tupA (X := X))).or (sl_str (X := X))
  intro pins s σ H x v vl vu lo hi sl Q I rx hs pl pu q
  obtain ⟨φ, S, a, rs, ra, q⟩ := q
  refine h pins s σ H x v vl vu lo hi sl Q I rx hs pl pu ?_
  have lst : ∀ {b : D}, Rv X.K φ H x b → OV X.K φ S H ((seqL S b).map fun ds => .lst (cutD ds lo hi)) Q → rSlL X.K x lo hi H Q := fun {b} rb q => by
    cases e : seqL S b with
    | none => simp only [e] at q; exact q.elim
    | some ds =>
      simp only [e] at q
      obtain ⟨p, xs, rfl, hq, rr⟩ := seqL_at rs rb e
      exact ⟨p, xs, rfl, SqL.of hq, fun l hl => OV.newL q rs (cut_rv rr lo hi) hl⟩
  cases ra with
  | str z =>
    right
    by_cases hz : z.length ≤ sizeLine
    · have q' : OV X.K φ S H (if z.length ≤ sizeLine then some (.str (L2.cutS z lo hi)) else none) Q := q
      rw [if_pos hz] at q'
      exact ⟨z, rfl, hz, OV.same q' rs (.str _)⟩
    · have q' : OV X.K φ S H (if z.length ≤ sizeLine then some (.str (L2.cutS z lo hi)) else none) Q := q
      rw [if_neg hz] at q'
      exact q'.elim
  | @tup p xs ds t r =>
    left
    right
    have q' : OV X.K φ S H (some (.tup (cutD ds lo hi))) Q := q
    refine ⟨p, xs, rfl, t.sq, fun w => ?_, fun w l hl => OV.new q' rs (cut_rv r lo hi) hl⟩
    rw [r.len] at w
    rw [cutD_whole w] at q'
    exact OV.same q' rs (.tup t r)
  | @scr p xs ds h1 r =>
    have q' : OV X.K φ S H (some (.lst (cutD ds lo hi))) Q := q
    exact .inl (.inl ⟨p, xs, rfl, h1.sq, fun l hl => OV.newL q' rs (cut_rv r lo hi) hl⟩)
  | lst h1 h2 h3 => exact .inl (.inl (lst (.lst h1 h2 h3) q))
  | ref h1 h2 => exact .inl (.inl (lst (.ref h1 h2) q))
  | _ => exact q.elim
/-! ### builtins -/
def rBl (K : PySem.W.Frag) (b : Blt) : List V → Hp → VK → Prop := fun xs H Q => ∃ φ S ds, Rs K φ S H ∧ Rvs K φ H xs ds ∧ OV K φ S H (bltEv b ds S) Q
theorem CallR.imp {f : Value} {r r' : List V → Hp → VK → Prop} (h : CallR X f r) (k : ∀ xs H Q, r' xs H Q → r xs H Q) : CallR X f r' := fun pins s σ H xs us Q I rx q => h pins s σ H xs us Q I rx (k _ _ _ q)
theorem CallR.or {f : Value} {r r' : List V → Hp → VK → Prop} (h : CallR X f r) (h' : CallR X f r') : CallR X f (fun xs H Q => r xs H Q ∨ r' xs H Q) := fun pins s σ H xs us Q I rx q => by
  rcases q with q | q
  · exact h pins s σ H xs us Q I rx q
  · exact h' pins s σ H xs us Q I rx q
theorem Rvs.one {K : PySem.W.Frag} {φ : Phi} {H : Hp} {xs : List V} {d : D} (r : Rvs K φ H xs [d]) : ∃ x, xs = [x] ∧ Rv K φ H x d := by
  cases r with
  | cons r1 r2 => cases r2; exact ⟨_, rfl, r1⟩
theorem Rvs.two {K : PySem.W.Frag} {φ : Phi} {H : Hp} {xs : List V} {d e : D} (r : Rvs K φ H xs [d, e]) : ∃ x y, xs = [x, y] ∧ Rv K φ H x d ∧ Rv K φ H y e := by
  cases r with
  | cons r1 r2 =>
    obtain ⟨y, rfl, r3⟩ := r2.one
    exact ⟨_, _, rfl, r1, r3⟩
theorem rBl_one {K : PySem.W.Frag} {b : Blt} {xs : List V} {H : Hp} {Q : VK} (h : rBl K b xs H Q) (k : ∀ ds S, bltEv b ds S ≠ none → ∃ d, ds = [d]) :
    ∃ φ S d x, Rs K φ S H ∧ xs = [x] ∧ Rv K φ H x d ∧ OV K φ S H (bltEv b [d] S) Q := by
  obtain ⟨φ, S, ds, rs, r, q⟩ := h
  obtain ⟨d, rfl⟩ := k ds S fun e => by rw [e] at q; exact q
  obtain ⟨x, rfl, r1⟩ := r.one
  exact ⟨φ, S, d, x, rs, rfl, r1, q⟩
theorem rBl_two {K : PySem.W.Frag} {b : Blt} {xs : List V} {H : Hp} {Q : VK} (h : rBl K b xs H Q) (k : ∀ ds S, bltEv b ds S ≠ none → ∃ d e, ds = [d, e]) :
    ∃ φ S d e x y, Rs K φ S H ∧ xs = [x, y] ∧ Rv K φ H x d ∧ Rv K φ H y e ∧ OV K φ S H (bltEv b [d, e] S) Q := by
  obtain ⟨φ, S, ds, rs, r, q⟩ := h
  obtain ⟨d, e, rfl⟩ := k ds S fun e => by rw [e] at q; exact q
  obtain ⟨x, y, rfl, r1, r2⟩ := r.two
  exact ⟨φ, S, d, e, x, y, rs, rfl, r1, r2, q⟩
theorem OV.none {K : PySem.W.Frag} {φ : Phi} {S : Store} {H : Hp} {Q : VK} {o : Option D} {C : Prop} (q : OV K φ S H o Q) (e : o = none) : C := by
  subst e
  exact False.elim q
theorem z_len : CallR X (.builtin "len") (rBl X.K .len) := by
  refine CallR.imp (CallR.or (call_len_seq (X := X)) (call_len_str (X := X))) fun xs H Q h => ?_
  obtain ⟨φ, S, d, x, rs, rfl, r, q⟩ := rBl_one h fun ds S h => match ds, h with
    | [d], _ => ⟨d, rfl⟩
    | [], h => absurd rfl h
    | _ :: _ :: _, h => absurd rfl h
  have q' : OV X.K φ S H (lenEv S d) Q := q
  unfold lenEv at q'
  cases e : seqOf S d with
  | some es =>
    simp only [e] at q'
    obtain ⟨p, ys, rfl, hq, rr⟩ := seqOf_at rs r e
    rw [← rr.len] at q'
    exact .inl ⟨p, ys, rfl, hq, OV.same q' rs (.int _)⟩
  | none =>
    simp only [e] at q'
    cases r with
    | str z =>
      by_cases hz : z.length ≤ sizeLine
      · simp only [if_pos hz] at q'
        exact .inr ⟨z, rfl, hz, OV.same q' rs (.int _)⟩
      · simp only [if_neg hz] at q'
        exact OV.none q' rfl
    | _ => exact OV.none q' rfl
theorem z_abs : CallR X (.builtin "abs") (rBl X.K .abs) := by
  refine CallR.imp (call_abs (X := X)) fun xs H Q h => ?_
  obtain ⟨φ, S, d, x, rs, rfl, r, q⟩ := rBl_one h fun ds S h => match ds, h with
    | [d], _ => ⟨d, rfl⟩
    | [], h => absurd rfl h
    | _ :: _ :: _, h => absurd rfl h
  cases r with
  | int i => exact ⟨i, rfl, OV.same q rs (.int _)⟩
  | _ => exact OV.none q rfl
theorem z_int : CallR X (.type "int") (rBl X.K .int) := by
  refine CallR.imp (call_int1 (X := X)) fun xs H Q h => ?_
  obtain ⟨φ, S, d, x, rs, rfl, r, q⟩ := rBl_one h fun ds S h => match ds, h with
    | [d], _ => ⟨d, rfl⟩
    | [], h => absurd rfl h
    | _ :: _ :: _, h => absurd rfl h
  cases r with
  | int i => exact .inl ⟨i, rfl, OV.same q rs (.int _)⟩
  | bl i => exact .inr ⟨i, rfl, OV.same q rs (.int _)⟩
  | _ => exact OV.none q rfl
theorem z_str : CallR X (.type "str") (rBl X.K .str) := by
  refine CallR.imp (call_str_int (X := X)) fun xs H Q h => ?_
  obtain ⟨φ, S, d, x, rs, rfl, r, q⟩ := rBl_one h fun ds S h => match ds, h with
    | [d], _ => ⟨d, rfl⟩
    | [], h => absurd rfl h
    | _ :: _ :: _, h => absurd rfl h
  cases r with
  | int i =>
    have q' : OV X.K φ S H (if i.natAbs.log2 < 1920 then some (.str (toString i)) else none) Q := q
    by_cases hz : i.natAbs.log2 < 1920
    · rw [if_pos hz] at q'
      exact ⟨i, rfl, hz, OV.same q' rs (.str _)⟩
    · rw [if_neg hz] at q'
      exact OV.none q' rfl
  | _ => exact OV.none q rfl
theorem z_tuple : CallR X (.type "tuple") (rBl X.K .tuple) := by
  refine CallR.imp (call_tuple_of (X := X)) fun xs H Q h => ?_
  obtain ⟨φ, S, d, x, rs, rfl, r, q⟩ := rBl_one h fun ds S h => match ds, h with
    | [d], _ => ⟨d, rfl⟩
    | [], h => absurd rfl h
    | _ :: _ :: _, h => absurd rfl h
  have q' : OV X.K φ S H ((seqOf S d).map .tup) Q := q
  cases r with
  | tup t r =>
    have q2 : OV X.K φ S H (some (.tup _)) Q := q'
    exact ⟨_, _, rfl, .inr ⟨t.sq, OV.same q2 rs (.tup t r)⟩⟩
  | lst h1 h2 h3 =>
    have q2 : OV X.K φ S H (some (.tup _)) Q := q'
    exact ⟨_, _, rfl, .inl ⟨SqL.of h1, fun l hl => OV.new q2 rs h3 hl⟩⟩
  | scr h1 h3 =>
    have q2 : OV X.K φ S H (some (.tup _)) Q := q'
    exact ⟨_, _, rfl, .inl ⟨h1.sq, fun l hl => OV.new q2 rs h3 hl⟩⟩
  | ref h1 h2 =>
    rename_i a i o
    cases e : seqL S (.ref i) with
    | none =>
      rw [show seqOf S (.ref i) = seqL S (.ref i) from rfl, e] at q'
      exact OV.none q' rfl
    | some es =>
      rw [show seqOf S (.ref i) = seqL S (.ref i) from rfl, e] at q'
      obtain ⟨p, ys, e1, hq, rr⟩ := seqL_at rs (.ref h1 h2) e
      cases e1
      exact ⟨_, _, rfl, .inl ⟨SqL.of hq, fun l hl => OV.new q' rs rr hl⟩⟩
  | _ => exact OV.none q' rfl
theorem z_list : CallR X (.type "list") (rBl X.K .list) := by
  refine CallR.imp (call_list_of (X := X)) fun xs H Q h => ?_
  obtain ⟨φ, S, d, x, rs, rfl, r, q⟩ := rBl_one h fun ds S h => match ds, h with
    | [d], _ => ⟨d, rfl⟩
    | [], h => absurd rfl h
    | _ :: _ :: _, h => absurd rfl h
  have q' : OV X.K φ S H ((seqOf S d).map .lst) Q := q
  cases e : seqOf S d with
  | none => rw [e] at q'; exact OV.none q' rfl
  | some es =>
    rw [e] at q'
    obtain ⟨p, ys, rfl, hq, rr⟩ := seqOf_at rs r e
    exact ⟨p, ys, rfl, hq, fun l hl => OV.newL q' rs rr hl⟩
theorem bls_at {K : PySem.W.Frag} {φ : Phi} {S : Store} {H : Hp} {v : V} {d : D} {bs : List Bool} (rs : Rs K φ S H) (r : Rv K φ H v d) (h : (seqL S d).bind bls? = some bs) : ∃ a, v = .ref a ∧ SqL K H a (bs.map V.bl) := by
  cases e : seqL S d with
  | none => rw [e] at h; cases h
  | some ds =>
    rw [e] at h
    obtain ⟨a, xs, rfl, h1, r1⟩ := seqL_at rs r e
    rw [← r1.bls (show bls? ds = some bs from h)]
    exact ⟨a, rfl, SqL.of h1⟩
theorem ints_at {K : PySem.W.Frag} {φ : Phi} {S : Store} {H : Hp} {v : V} {d : D} {bs : List Int} (rs : Rs K φ S H) (r : Rv K φ H v d) (h : (seqL S d).bind ints? = some bs) : ∃ a, v = .ref a ∧ SqL K H a (bs.map V.int) := by
  cases e : seqL S d with
  | none => rw [e] at h; cases h
  | some ds =>
    rw [e] at h
    obtain ⟨a, xs, rfl, h1, r1⟩ := seqL_at rs r e
    rw [← r1.ints (show ints? ds = some bs from h)]
    exact ⟨a, rfl, SqL.of h1⟩
theorem z_all (hc : X.calm = true) : CallR X (.builtin "all") (rBl X.K .all) := by
  refine CallR.imp (cr_all (X := X) hc) fun xs H Q h => ?_
  obtain ⟨φ, S, d, x, rs, rfl, r, q⟩ := rBl_one h fun ds S h => match ds, h with
    | [d], _ => ⟨d, rfl⟩
    | [], h => absurd rfl h
    | _ :: _ :: _, h => absurd rfl h
  have q' : OV X.K φ S H (((seqL S d).bind bls?).map fun bs => .bl (bs.all id)) Q := q
  cases e : (seqL S d).bind bls? with
  | none => rw [e] at q'; exact OV.none q' rfl
  | some bs =>
    rw [e] at q'
    obtain ⟨a, rfl, hb⟩ := bls_at rs r e
    exact ⟨a, bs, rfl, hb, OV.same q' rs (.bl _)⟩
theorem z_any (hc : X.calm = true) : CallR X (.builtin "any") (rBl X.K .any) := by
  refine CallR.imp (cr_any (X := X) hc) fun xs H Q h => ?_
  obtain ⟨φ, S, d, x, rs, rfl, r, q⟩ := rBl_one h fun ds S h => match ds, h with
    | [d], _ => ⟨d, rfl⟩
    | [], h => absurd rfl h
    | _ :: _ :: _, h => absurd rfl h
  have q' : OV X.K φ S H (((seqL S d).bind bls?).map fun bs => .bl (bs.any id)) Q := q
  cases e : (seqL S d).bind bls? with
  | none => rw [e] at q'; exact OV.none q' rfl
  | some bs =>
    rw [e] at q'
    obtain ⟨a, rfl, hb⟩ := bls_at rs r e
    exact ⟨a, bs, rfl, hb, OV.same q' rs (.bl _)⟩
theorem z_sum (hc : X.calm = true) : CallR X (.builtin "sum") (rBl X.K .sum) := by
  refine CallR.imp (cr_sum (X := X) hc) fun xs H Q h => ?_
  obtain ⟨φ, S, d, x, rs, rfl, r, q⟩ := rBl_one h fun ds S h => match ds, h with
    | [d], _ => ⟨d, rfl⟩
    | [], h => absurd rfl h
    | _ :: _ :: _, h => absurd rfl h
  have q' : OV X.K φ S H (((seqL S d).bind ints?).map fun ns => .int ns.sum) Q := q
  cases e : (seqL S d).bind ints? with
  | none => rw [e] at q'; exact OV.none q' rfl
  | some bs =>
    rw [e] at q'
    obtain ⟨a, rfl, hb⟩ := ints_at rs r e
    exact ⟨a, bs, rfl, hb, OV.same q' rs (.int _)⟩
theorem z_sorted (hc : X.calm = true) : CallR X (.builtin "sorted") (rBl X.K .sorted) := by
  refine CallR.imp (CallR.or (call_sortedDI (X := X) hc) (cr_sortedI (X := X))) fun xs H Q h => ?_
  obtain ⟨φ, S, d, x, rs, rfl, r, q⟩ := rBl_one h fun ds S h => match ds, h with
    | [d], _ => ⟨d, rfl⟩
    | [], h => absurd rfl h
    | _ :: _ :: _, h => absurd rfl h
  have q' : OV X.K φ S H (match dkOf S d with
    | some kvs => (keysI kvs).bind fun ks => if ks.length < 64 then some (.lst ((sortI ks).map .int)) else none
    | none => ((seqL S d).bind ints?).map fun ns => .lst ((sortI ns).map .int)) Q := q
  have hint : ∀ (H : Hp) (ns : List Int), Rvs X.K φ H (ns.map V.int) (ns.map D.int) := fun H ns => by
    induction ns with
    | nil => exact .nil
    | cons n ns ih => exact .cons (.int n) ih
  cases e : dkOf S d with
  | some kvs =>
    simp only [e] at q'
    cases e2 : keysI kvs with
    | none => simp only [e2] at q'; exact OV.none q' rfl
    | some ks =>
      simp only [e2, Option.bind_some] at q'
      by_cases hl : ks.length < 64
      · rw [if_pos hl] at q'
        obtain ⟨p, w, zs, rfl, rfl, q1, q2, q3, q4, q5⟩ := dk_at rs r e
        refine .inl ⟨w, zs, ks, rfl, .inl q3, by rw [q4, keysI_at e2], hl, fun ys l p1 s1 hl => ?_⟩
        rw [sort_uniq p1 s1]
        exact OV.newL q' rs (hint H _) hl
      · rw [if_neg hl] at q'
        exact OV.none q' rfl
  | none =>
    simp only [e] at q'
    cases e2 : (seqL S d).bind ints? with
    | none => rw [e2] at q'; exact OV.none q' rfl
    | some ns =>
      rw [e2] at q'
      obtain ⟨a, rfl, hb⟩ := ints_at rs r e2
      refine .inr ⟨a, ns, rfl, hb, fun ys l p1 s1 hl => ?_⟩
      rw [sort_uniq p1 s1]
      exact OV.newL q' rs (hint H _) hl
theorem z_min (hc : X.calm = true) : CallR X (.builtin "min") (rBl X.K .min) := by
  refine CallR.imp (call_min2 (X := X) hc) fun xs H Q h => ?_
  obtain ⟨φ, S, d, e, x, y, rs, rfl, r1, r2, q⟩ := rBl_two h fun ds S h => match ds, h with
    | [d, e], _ => ⟨d, e, rfl⟩
    | [], h => absurd rfl h
    | [_], h => absurd rfl h
    | _ :: _ :: _ :: _, h => absurd rfl h
  cases r1 with
  | int i =>
    cases r2 with
    | int j => exact ⟨i, j, rfl, OV.same q rs (.int _)⟩
    | _ => exact OV.none q rfl
  | _ => exact OV.none q rfl
theorem z_max (hc : X.calm = true) : CallR X (.builtin "max") (rBl X.K .max) := by
  refine CallR.imp (call_max2 (X := X) hc) fun xs H Q h => ?_
  obtain ⟨φ, S, d, e, x, y, rs, rfl, r1, r2, q⟩ := rBl_two h fun ds S h => match ds, h with
    | [d, e], _ => ⟨d, e, rfl⟩
    | [], h => absurd rfl h
    | [_], h => absurd rfl h
    | _ :: _ :: _ :: _, h => absurd rfl h
  cases r1 with
  | int i =>
    cases r2 with
    | int j => exact ⟨i, j, rfl, OV.same q rs (.int _)⟩
    | _ => exact OV.none q rfl
  | _ => exact OV.none q rfl
/-! ### isinstance -/
def tyName : Ty → String
  | .int => "int"
  | .bool => "bool"
  | .str => "str"
  | .tup => "tuple"
  | .lst => "list"
  | .dict => "dict"
  | .own _ => ""
/-- the type's name of a thing -/
def tyOfD (S : Store) : D → Option String
  | .non => some "NoneType"
  | .bl _ => some "bool"
  | .int _ => some "int"
  | .str _ => some "str"
  | .tup _ => some "tuple"
  | .lst _ => some "list"
  | .scr _ => some "list"
  | .edic => some "dict"
  | .ref i => match S[i]? with
    | some (.lst _) => some "list"
    | some (.dk _) => some "dict"
    | some (.dt _) => some "dict"
    | _ => none
  | .exc _ _ => none
theorem tyOf_at {K : PySem.W.Frag} {φ : Phi} {S : Store} {H : Hp} {v : V} {d : D} {n : String} (rs : Rs K φ S H) (r : Rv K φ H v d) (h : tyOfD S d = some n) : TyX K H v (.type n) := by
  cases r with
  | non => cases h; exact .base .non
  | bl b => cases h; exact .base (.bl b)
  | int b => cases h; exact .base (.int b)
  | str b => cases h; exact .base (.str b)
  | tup t _ =>
    cases h
    rcases t with ⟨h1, _⟩ | ⟨o, its, n, h1, h2, _⟩
    · exact .base (.tup h1)
    · exact .kTuple h1 h2
  | lst h1 _ _ => cases h; exact .base (.lst h1)
  | scr h1 _ =>
    cases h
    rcases h1 with ⟨⟨o, h1⟩, _⟩ | ⟨o, its, n, h1, h2, _⟩
    · exact .base (.frz h1)
    · exact .kList h1 h2
  | edic h1 _ => cases h; exact .base (.dK h1)
  | ref h1 h2 =>
    rename_i a i o
    unfold tyOfD at h
    cases e : S[i]? with
    | none => simp [e] at h
    | some c =>
      have rc := rs.cell i c e
      rw [h1] at rc
      cases c with
      | lst es =>
        simp [e] at h
        subst h
        obtain ⟨b, xs, e1, e2, _⟩ := rc
        cases e1
        rcases h2 with h2 | h2 <;> cases h2
        exact .base (.lst e2)
      | dk es =>
        simp [e] at h
        subst h
        obtain ⟨b, xs, e1, e2, _⟩ := rc
        cases e1
        rcases h2 with h2 | h2 <;> cases h2
        exact .base (.dK e2)
      | dt es =>
        simp [e] at h
        subst h
        obtain ⟨b, xs, e1, e2, _⟩ := rc
        cases e1
        rcases h2 with h2 | h2 <;> cases h2
        exact .base (.dT e2)
      | gone => simp [e] at h
theorem isi_tab {t : Ty} {n : String} (hn : n = "NoneType" ∨ n = "bool" ∨ n = "int" ∨ n = "str" ∨ n = "tuple" ∨ n = "list" ∨ n = "dict") (ht : ∀ c, t ≠ .own c) :
    kitB n (tyName t) = some (n == tyName t || (n == "bool" && tyName t == "int")) := by
  cases t with
  | own c => exact absurd rfl (ht c)
  | _ => rcases hn with h | h | h | h | h | h | h <;> subst h <;> decide +kernel
theorem isiEv_at {d : D} {t : Ty} {S : Store} {b : Bool} (h : isiEv d t S = some b) :
    (∀ c, t ≠ .own c) ∧ ∃ n, tyOfD S d = some n ∧ (n = "NoneType" ∨ n = "bool" ∨ n = "int" ∨ n = "str" ∨ n = "tuple" ∨ n = "list" ∨ n = "dict") ∧ b = (n == tyName t || (n == "bool" && tyName t == "int")) := by
  have ht : ∀ c, t ≠ .own c := fun c e => by
    subst e
    unfold isiEv at h
    cases h
  refine ⟨ht, ?_⟩
  cases d with
  | ref i =>
    unfold tyOfD
    cases e : S[i]? with
    | none => cases t <;> (unfold isiEv at h; simp [e] at h)
    | some c =>
      cases c with
      | lst es => refine ⟨"list", by simp [e], by simp, ?_⟩; cases t <;> (unfold isiEv at h; simp [e] at h; try (subst h; decide +kernel))
      | dk es => refine ⟨"dict", by simp [e], by simp, ?_⟩; cases t <;> (unfold isiEv at h; simp [e] at h; try (subst h; decide +kernel))
      | dt es => refine ⟨"dict", by simp [e], by simp, ?_⟩; cases t <;> (unfold isiEv at h; simp [e] at h; try (subst h; decide +kernel))
      | gone => cases t <;> (unfold isiEv at h; simp [e] at h)
  | exc c a => cases t <;> (unfold isiEv at h; cases h)
  | non => exact ⟨"NoneType", rfl, by simp, by cases t <;> (unfold isiEv at h; cases h; try decide +kernel)⟩
  | bl _ => exact ⟨"bool", rfl, by simp, by cases t <;> (unfold isiEv at h; cases h; try decide +kernel)⟩
  | int _ => exact ⟨"int", rfl, by simp, by cases t <;> (unfold isiEv at h; cases h; try decide +kernel)⟩
  | str _ => exact ⟨"str", rfl, by simp, by cases t <;> (unfold isiEv at h; cases h; try decide +kernel)⟩
  | tup _ => exact ⟨"tuple", rfl, by simp, by cases t <;> (unfold isiEv at h; cases h; try decide +kernel)⟩
  | lst _ => exact ⟨"list", rfl, by simp, by cases t <;> (unfold isiEv at h; cases h; try decide +kernel)⟩
  | scr _ => exact ⟨"list", rfl, by simp, by cases t <;> (unfold isiEv at h; cases h; try decide +kernel)⟩
  | edic => exact ⟨"dict", rfl, by simp, by cases t <;> (unfold isiEv at h; cases h; try decide +kernel)⟩
def rIsiZ (K : PySem.W.Frag) (t : Ty) : List V → Hp → VK → Prop := fun xs H Q => ∃ φ S d x b, Rs K φ S H ∧ xs = [x, .ty (tyName t)] ∧ Rv K φ H x d ∧ isiEv d t S = some b ∧ Q (.bl b) H
theorem z_isi (t : Ty) : CallR X (.builtin "isinstance") (rIsiZ X.K t) := by
  refine CallR.imp (call_isi (X := X)) fun xs H Q ⟨φ, S, d, x, b, rs, e, r, hb, q⟩ => ?_
  obtain ⟨ht, n, h1, h2, h3⟩ := isiEv_at hb
  subst h3
  exact ⟨x, .ty (tyName t), .type n, .type (tyName t), _, e, .ty _, tyOf_at rs r h1, kit_ty (isi_tab h2 ht), q⟩
/-! ### stores -/
def rSetZ (K : PySem.W.Frag) : TSet := fun o i v H Q => ∃ φ S a b c, Rs K φ S H ∧ Rv K φ H o a ∧ Rv K φ H i b ∧ Rv K φ H v c ∧ (match setEv a b c S with
  | some S' => ∀ H', Ext φ H φ H' → Rs K φ S' H' → Q H'
  | none => False)
theorem cell_at {K : PySem.W.Frag} {φ : Phi} {S : Store} {H : Hp} {v : V} {p : Nat} {ds : List D} (rs : Rs K φ S H) (r : Rv K φ H v (.ref p)) (e : S[p]? = some (.lst ds)) :
    ∃ a xs, v = .ref a ∧ φ.c[p]? = some (some a) ∧ H a = some (.lst xs) ∧ Rvs K φ H xs ds := by
  cases r with
  | ref h1 h2 =>
    obtain ⟨b, xs, e1, e2, e3⟩ := rs.cell p _ e
    rw [h1] at e1
    cases e1
    rcases h2 with h2 | h2 <;> cases h2
    exact ⟨_, xs, rfl, h1, e2, e3⟩
theorem set_dk (hu : X.A.units + 1 < cLine) : PSet X (fun o i v H Q => ∃ a kvs k, o = .ref a ∧ H a = some (.dK kvs) ∧ i = kV k ∧ kvs.length < sizeLine ∧ Q (upd H a (.dK (putK kvs k v)))) := by
  intro pins s σ H o i v ov iv u Q I ro ri rv q
  obtain ⟨a, kvs, k, rfl, e, rfl, hl, q⟩ := q
  cases ro
  exact d_setItem hu I (DPut.k e hl) ri rv fun s' I' => ⟨_, I', q⟩
theorem PSet.or {t t' : TSet} (h : PSet X t) (h' : PSet X t') : PSet X (fun o i v H Q => t o i v H Q ∨ t' o i v H Q) := fun pins s σ H o i v ov iv u Q I ro ri rv q => by
  rcases q with q | q
  · exact h pins s σ H o i v ov iv u Q I ro ri rv q
  · exact h' pins s σ H o i v ov iv u Q I ro ri rv q
theorem z_set (hu : X.A.units + 1 < cLine) : PSet X (rSetZ X.K) := by
  intro pins s σ H o i v ov iv u Q I ro ri rv q
  obtain ⟨φ, S, a, b, c, rs, ra, rb, rc, q⟩ := q
  refine (PSet.or (set_list (X := X)) (set_dk hu)) pins s σ H o i v ov iv u Q I ro ri rv ?_
  unfold setEv at q
  cases a <;> first | (exact q.elim) | skip
  rename_i p
  cases e : S[p]? with
  | none => simp only [e] at q
  | some cl =>
    cases cl with
    | lst ds =>
      simp only [e] at q
      cases b <;> first | (exact q.elim) | skip
      rename_i k
      cases rb
      cases e2 : ixN ds.length k with
      | none => simp only [e2, Option.map_none] at q
      | some j =>
        simp only [e2, Option.map_some] at q
        obtain ⟨x, xs, rfl, h1, h2, h3⟩ := cell_at rs ra e
        refine .inl ⟨x, xs, k, j, rfl, rfl, h2, by rw [h3.len]; exact e2, q _ (Ext.write rs h1) (rs.write h1 ⟨x, _, rfl, upd_same, ?_⟩)⟩
        exact (h3.set rc j).ext (Ext.write rs h1)
    | dk kvs =>
      simp only [e] at q
      cases e2 : keyOf b with
      | none => simp only [e2, Option.bind_none] at q
      | some k =>
        simp only [e2, Option.bind_some] at q
        by_cases hl : kvs.length < sizeLine
        · rw [if_pos hl] at q
          obtain ⟨p', w, xs, e3, rfl, q1, q2, q3, q4, q5⟩ := dk_at (kvs := kvs) rs ra (by unfold dkOf; simp [e])
          cases e3
          have hlen : xs.length = kvs.length := by simpa using congrArg List.length q4
          obtain ⟨m1, m2⟩ := put_at (k := k) (rc.ext (Ext.write rs q2)) q4 (q5.ext (Ext.write (o := .dK (putK xs k v)) rs q2))
          exact .inr ⟨w, xs, k, rfl, q3, key_at rb e2, by rw [hlen]; exact hl, q _ (Ext.write rs q2) (rs.write q2 ⟨w, _, rfl, upd_same, m1, m2⟩)⟩
        · rw [if_neg hl] at q
          exact q.elim
    | _ => simp only [e] at q
def rMt (K : PySem.W.Frag) (m : Mth) : V → List V → Hp → VK → Prop := fun x xs H Q => ∃ φ S a ds, Rs K φ S H ∧ Rv K φ H x a ∧ Rvs K φ H xs ds ∧ (match mthEv m a ds S with
  | some (d, S') => ∀ v H', Ext φ H φ H' → Rs K φ S' H' → Rv K φ H' v d → Q v H'
  | none => False)
theorem MtR.imp {id : String} {r r' : V → List V → Hp → VK → Prop} (h : MtR X id r) (k : ∀ x xs H Q, r' x xs H Q → r x xs H Q) : MtR X id r' := fun pins s σ H x xs v us Q I rx rxs q => h pins s σ H x xs v us Q I rx rxs (k _ _ _ _ q)
theorem mth_ref {m : Mth} {a : D} {ds : List D} {S : Store} (hm : m ≠ .cat) (h : mthEv m a ds S ≠ none) : ∃ p es, a = .ref p ∧ S[p]? = some (.lst es) := by
  unfold mthEv at h
  split at h <;> first | exact absurd rfl hm | (split at h <;> first | (exact ⟨_, _, rfl, by assumption⟩) | exact absurd rfl h) | exact absurd rfl h
theorem rMt_ref {K : PySem.W.Frag} {m : Mth} {x : V} {xs : List V} {H : Hp} {Q : VK} (h : rMt K m x xs H Q) (hm : m ≠ .cat := by intro z; cases z) : ∃ φ S p a ds es ys, Rs K φ S H ∧ x = .ref a ∧ S[p]? = some (.lst es) ∧ φ.c[p]? = some (some a) ∧ H a = some (.lst ys) ∧ Rvs K φ H ys es ∧ Rvs K φ H xs ds ∧
    ∃ d S', mthEv m (.ref p) ds S = some (d, S') ∧ ∀ v H', Ext φ H φ H' → Rs K φ S' H' → Rv K φ H' v d → Q v H' := by
  obtain ⟨φ, S, a, ds, rs, ra, r, q⟩ := h
  cases e : mthEv m a ds S with
  | none => rw [e] at q; exact q.elim
  | some o =>
    obtain ⟨d, S'⟩ := o
    obtain ⟨p, es, rfl, e2⟩ := mth_ref hm (by rw [e]; exact fun z => nomatch z)
    rw [e] at q
    obtain ⟨w, ys, rfl, h1, h2, h3⟩ := cell_at rs ra e2
    exact ⟨φ, S, p, w, ds, es, ys, rs, rfl, e2, h1, h2, h3, r, d, S', e, q⟩
theorem z_append : MtR X "list.append" (rMt X.K .append) := by
  refine MtR.imp (X := X) mt_append fun x xs H Q h => ?_
  obtain ⟨φ, S, p, a, ds, es, ys, rs, rfl, e, h1, h2, h3, r, d, S', e2, q⟩ := rMt_ref h
  match ds, r, e2 with
  | [y], r0, e2 =>
    obtain ⟨w, rfl, r1⟩ := Rvs.one r0
    have e3 : (match S[p]? with
      | some (.lst ds) => if ds.length < sizeLine then some (D.non, S.set p (.lst (ds ++ [y]))) else none
      | _ => none) = some (d, S') := e2
    rw [e] at e3
    dsimp only at e3
    by_cases hz : es.length < sizeLine
    · rw [if_pos hz] at e3
      cases e3
      refine ⟨a, ys, w, rfl, rfl, h2, by rw [h3.len]; exact hz, q _ _ (Ext.write rs h1) (rs.write h1 ⟨a, _, rfl, upd_same, ?_⟩) .non⟩
      exact (h3.app (.cons r1 .nil)).ext (Ext.write rs h1)
    · rw [if_neg hz] at e3
      cases e3
  | [], _, e2 => cases e2
  | _ :: _ :: _, _, e2 => cases e2
theorem z_reverse : MtR X "list.reverse" (rMt X.K .reverse) := by
  refine MtR.imp (X := X) mt_reverse fun x xs H Q h => ?_
  obtain ⟨φ, S, p, a, ds, es, ys, rs, rfl, e, h1, h2, h3, r, d, S', e2, q⟩ := rMt_ref h
  match ds, r, e2 with
  | [], r0, e2 =>
    cases r0
    have e3 : (match S[p]? with
      | some (.lst ds) => some (D.non, S.set p (.lst ds.reverse))
      | _ => none) = some (d, S') := e2
    rw [e] at e3
    cases e3
    refine ⟨a, ys, rfl, rfl, h2, q _ _ (Ext.write rs h1) (rs.write h1 ⟨a, _, rfl, upd_same, ?_⟩) .non⟩
    exact h3.rev.ext (Ext.write rs h1)
  | _ :: _, _, e2 => cases e2
theorem z_pop : MtR X "list.pop" (rMt X.K .pop) := by
  refine MtR.imp (X := X) mt_pop fun x xs H Q h => ?_
  obtain ⟨φ, S, p, a, ds, es, ys, rs, rfl, e, h1, h2, h3, r, d, S', e2, q⟩ := rMt_ref h
  match ds, r, e2 with
  | [], r0, e2 =>
    cases r0
    have e3 : (match S[p]? with
      | some (.lst ds) => (ds[ds.length - 1]?).map fun y => (y, S.set p (.lst ds.dropLast))
      | _ => none) = some (d, S') := e2
    rw [e] at e3
    dsimp only at e3
    cases e4 : es[es.length - 1]? with
    | none => rw [e4] at e3; cases e3
    | some y =>
      rw [e4] at e3
      cases e3
      obtain ⟨w, hw, rw'⟩ := h3.get e4
      refine ⟨a, ys, w, rfl, rfl, h2, by rw [h3.len]; exact hw, q _ _ (Ext.write rs h1) (rs.write h1 ⟨a, _, rfl, upd_same, ?_⟩) (rw'.ext (Ext.write rs h1))⟩
      exact h3.dropLast.ext (Ext.write rs h1)
  | _ :: _, _, e2 => cases e2
end
end Z

/-! Z, part R: t[::-1] of tuples. -/
namespace Z
theorem fmap_congr0 {α β : Type} {f g : α → Option β} : ∀ {l : List α}, (∀ x ∈ l, f x = g x) → l.filterMap f = l.filterMap g
  | [], _ => rfl
  | x :: xs, h => by
    rw [List.filterMap_cons, List.filterMap_cons, h x List.mem_cons_self, fmap_congr0 (l := xs) fun y hy => h y (List.mem_cons_of_mem _ hy)]
end Z
namespace HT
open PySem PySem.Spec PyProof.Rows
section
variable {prog : Program} {w : World} {A : Around} {E : Value → Shared → Prop} {s : Shared}
theorem zrev_applied {sl : Addr} {vs : Value} {n : Nat} {Q : Int × Int × Nat → Shared → Prop} (hs : s.heap.IsSliceOf sl .none .none vs) (ps : IsPart vs (some (-1)))
    (h : Q ((n : Int) - 1, -1, n) s) : wpAny (model prog w) A (Builtin.Slice.sliceApplied (.ref sl) (pure (n : Int))) Q E s := by
  obtain ⟨os, hos, hcs, hds⟩ := id hs
  unfold Builtin.Slice.sliceApplied Builtin.Slice.sliceFields
  refine wpAny_bind (wpAny_bind (wpAny_field hos hds (x := .none) rfl (wpAny_bind (wpAny_field hos hds (x := .none) rfl (wpAny_bind (wpAny_field hos hds (x := vs) rfl (wpAny_pure ?_)))))))
  refine wpAny_bind (slicePart_ ps ?_)
  show wpAny _ _ (if ((-1 : Int) == 0) = true then _ else _) _ _ s
  rw [if_neg (by decide)]
  refine wpAny_bind (slicePart_none (wpAny_bind (slicePart_none (wpAny_bind (wpAny_pure ?_)))))
  show wpAny _ _ (match Builtin.Slice.sliceAdjust none none (-1) (n : Int) with | (lo, hi) => pure (lo, (-1 : Int), Builtin.Slice.slicePlaces lo hi (-1))) _ _ s
  have e : Builtin.Slice.sliceAdjust none none (-1) (n : Int) = ((n : Int) - 1, -1) := by
    unfold Builtin.Slice.sliceAdjust
    simp
  rw [e]
  show wpAny _ _ (pure ((n : Int) - 1, (-1 : Int), Builtin.Slice.slicePlaces ((n : Int) - 1) (-1) (-1))) _ _ s
  have e2 : Builtin.Slice.slicePlaces ((n : Int) - 1) (-1) (-1) = n := by
    unfold Builtin.Slice.slicePlaces
    have h1 : ¬ ((-1 : Int) > 0) := by decide
    simp only [h1, if_false]
    by_cases hn : n = 0
    · subst hn; rfl
    · have h2 : (n : Int) - 1 > -1 := by omega
      simp only [h2, if_true, show (- -1 : Int) = 1 by decide, Int.ediv_one]
      omega
  rw [e2]
  exact wpAny_pure h
theorem zrev_pick (xs : Array Value) : ((List.range xs.size).filterMap fun (k : Nat) => xs[((xs.size : Int) - 1 + (k : Int) * -1).toNat]?).toArray = xs.toList.reverse.toArray := by
  apply congrArg
  apply List.ext_getElem?
  intro i
  have e : ((List.range xs.size).filterMap fun (k : Nat) => xs[((xs.size : Int) - 1 + (k : Int) * -1).toNat]?) = (List.range xs.size).map fun k => xs.toList.reverse.getD k .none := by
    rw [← List.filterMap_eq_map]
    apply Z.fmap_congr0
    intro k hk
    have hk := List.mem_range.mp hk
    have e1 : ((xs.size : Int) - 1 + (k : Int) * -1).toNat = xs.size - 1 - k := by omega
    rw [e1]
    have hl : k < xs.toList.reverse.length := by simpa using hk
    simp only [Function.comp]
    rw [List.getD_eq_getElem?_getD, List.getElem?_eq_getElem hl, Array.getElem?_eq_getElem (by omega)]
    simp
  rw [e]
  by_cases hi : i < xs.size
  · rw [List.getElem?_map, List.getElem?_range hi]
    have hl : i < xs.toList.reverse.length := by simpa using hi
    simp only [Option.map_some]
    rw [List.getD_eq_getElem?_getD, List.getElem?_eq_getElem hl]
    rfl
  · rw [List.getElem?_eq_none (by simp; omega), List.getElem?_eq_none (by simp; omega)]
theorem zrev_get {t sl : Addr} {items : Array Value} {vs : Value} {Q : Value → Shared → Prop} (ht : IsTup s.heap t items) (hs : s.heap.IsSliceOf sl .none .none vs) (ps : IsPart vs (some (-1)))
    (h : Q (.ref s.heap.objs.size) { s with heap := s.heap.push { cls := .type "tuple", data := .seq items.toList.reverse.toArray } })
    (hsz : items.size ≤ sizeLine) : wpAny (model prog w) A (getItem (.ref t) (.ref sl)) Q E s := by
  have hok : sizeOk (.seq items.toList.reverse.toArray) := by
    show items.toList.reverse.toArray.size ≤ sizeLine
    simpa using hsz
  obtain ⟨os, hos, hcs, hds⟩ := id hs
  have hTs : s.TypeIs (.ref sl) "slice" := ⟨os, hos, hcs⟩
  unfold getItem
  try with_reducible refine wpAny_holding ?_
  first | refine wpAny_bind (wpAny_pure ?_) | skip
  refine wpAny_bind (wpAny_sequenceKey ht.typeIs (by decide) ?_)
  refine wpAny_bind (wpAny_callSpecial?_slot (name := Str.ofString "__getitem__") ht.typeIs PyProof.Rows.slot_tuple_getitem
    (wpAny_call_entry PyProof.Rows.slot_tuple_getitem ht.typeIs entry_tuple_getitem ?_ (args_tuple_getitem _ _)))
  show wpAny _ _ (Builtin.Tuple.tupleItemsOf (.ref t) >>= _) _ _ s
  refine wpAny_bind (tupleItemsOf_ ht ?_)
  refine wpAny_bind (wpAny_typeOf hTs ?_)
  rw [if_pos (by decide)]
  refine wpAny_bind (zrev_applied hs ps ?_)
  have hno : ¬ ((((items.size : Int) - 1) == 0 && (-1 : Int) == 1 && items.size == items.size) = true) := by
    have e : ((-1 : Int) == 1) = false := by decide
    rw [e]
    simp
  show wpAny _ _ (if ((((items.size : Int) - 1) == 0 && (-1 : Int) == 1 && items.size == items.size) = true) then _ else _) _ _ s
  rw [if_neg hno, zrev_pick]
  first
    | exact wpAny_bind (m := Builtin.Tuple.tupleExact _) (wpAny_newObj_type (wpAny_pure ⟨_, rfl, wpAny_pure h⟩) hok)
    | exact wpAny_bind (m := Builtin.Tuple.tupleExact _) (wpAny_newObj_type (wpAny_bind (wpAny_pure (wpAny_pure ⟨_, rfl, wpAny_pure h⟩))) hok)
    | exact wpAny_bind (wpAny_bind (m := Builtin.Tuple.tupleExact _) (wpAny_newObj_type (wpAny_pure (wpAny_pure ⟨_, rfl, wpAny_pure h⟩)) hok))
    | exact wpAny_bind (wpAny_bind (m := Builtin.Tuple.tupleExact _) (wpAny_newObj_type (wpAny_pure ⟨_, rfl, wpAny_pure h⟩) hok))
end
end HT
namespace Z
open PySem PySem.Spec PyProof.Rows L2
section
variable {X : Cx}
def tRevZ (K : PySem.W.Frag) (te : TE) : TE := fun σ H Q => te σ H fun x H1 => ∃ a xs, x = .ref a ∧ ((SqL K H1 a xs ∧ ∀ p, H1 p = none → Q (.ref p) (upd H1 p (.lst xs.reverse))) ∨ (SqT K H1 a xs ∧ ∀ p, H1 p = none → Q (.ref p) (upd H1 p (.tup xs.reverse))))
theorem pe_revZ {e : Expr} {te : TE} {k : Nat} {p1 p2 p3 pos : Pos} (he : PE X e te) : PE X (.Subscript e (.Slice none none (some (.UnaryOp .USub (.Constant (.int 1) k p1) p2)) p3) pos) (tRevZ X.K te) := by
  refine ⟨fun pins s σ H Q I h => ?_⟩
  refine Subscript_ (thn (he.run pins s σ H _ I h) fun v s1 ⟨x, H1, I1, r1, q1⟩ => ?_)
  obtain ⟨a, xs, ex, q⟩ := q1
  subst ex
  cases r1
  have hst : PO X (some (.UnaryOp .USub (.Constant (.int 1) k p1) p2)) (tPart (tUn (rU fun i => .int (-i)) (tC (.int 1)))) := po_some (pe_un un_neg pe_int)
  refine wpAny_Slice (thn (po_none.run pins s1 σ H1 (fun o H2 => o = none ∧ H2 = H1) I1 ⟨rfl, rfl⟩) fun vl s2 ⟨l, H2, I2, pl, el, e2⟩ => ?_)
  subst el e2
  refine thn (po_none.run pins s2 σ H2 (fun o H3 => o = none ∧ H3 = H2) I2 ⟨rfl, rfl⟩) fun vu s3 ⟨u, H3, I3, pu, eu, e3⟩ => ?_
  subst eu e3
  refine thn (hst.run pins s3 σ H3 (fun o H4 => o = some (-1) ∧ H4 = H3) I3 ⟨1, rfl, -1, rfl, rfl, rfl⟩) fun vs s4 ⟨o, H4, I4, ps, eo, e4⟩ => ?_
  subst eo e4
  have I5 : Inv X pins σ H4 { s4 with heap := s4.heap.push { cls := .type "slice", data := .fields #[vl, vu, vs] } } := I4.kept (t' := s4.toks) fun b ob q => Heap.get?_push_of_some _ q
  show wpAny (model X.prog X.w) X.A (subscriptTail e (.Slice none none (some (.UnaryOp .USub (.Constant (.int 1) k p1) p2)) p3) (.ref a) (.ref s4.heap.objs.size)) (EP X pins σ Q) X.xe { s4 with heap := s4.heap.push { cls := .type "slice", data := .fields #[vl, vu, vs] } }
  rcases q with ⟨hx, q⟩ | ⟨hx, q⟩
  · obtain ⟨its, r, ht, hz⟩ := I5.list hx
    have hlen := r.length
    refine tail_any (ops := [.ref a, .ref s4.heap.objs.size]) ht.isList.typeIs (PySem.slot_list_getitem.lookup) ?_ (by with_unfolding_all rfl)
    refine wpAny_getItem_list_slice ht.isList (Heap.IsSliceOf.new _ vl vu vs) pl pu ps (by decide) ?_ (by rw [List.size_toArray]; omega)
    rw [PySem.W.krv_pick]
    refine ⟨.ref _, _, I5.laid (t' := s4.toks) (o := .lst xs.reverse) (fun b ob q => Heap.get?_push_of_some _ q) (Nat.le_refl _) ?_, rfl, q _ (I5.hok.fresh (Nat.le_refl _))⟩
    exact ⟨by rw [List.length_reverse]; exact hz, _, 0, r.reverse, Heap.get?_push_size _ rfl⟩
  · obtain ⟨its, r, ht, hz⟩ := I5.tuple hx
    have hlen := r.length
    cases pl
    cases pu
    refine tail_any (ops := [.ref a, .ref s4.heap.objs.size]) ht.typeIs (PyProof.Rows.slot_tuple_getitem.lookup) ?_ (by with_unfolding_all rfl)
    refine HT.zrev_get ht (Heap.IsSliceOf.new _ .none .none vs) ps ?_ (by rw [List.size_toArray]; omega)
    refine ⟨.ref _, _, I5.laid (t' := s4.toks) (o := .tup xs.reverse) (fun b ob q => Heap.get?_push_of_some _ q) (Nat.le_refl _) ?_, rfl, q _ (I5.hok.fresh (Nat.le_refl _))⟩
    exact ⟨by rw [List.length_reverse]; exact hz, _, r.reverse, IsTup.new _ _⟩
end
end Z

/-! Z, part E: the constructs of expressions. -/
namespace Z
open PySem PySem.Spec PyProof.Rows L2
section
variable {X : Cx} {ec : Nat → Value} {F : Fn} {W : WX} {a b c e : Expr} {es rest : List Expr} {ca cb cc ce : CE} {pos : Pos}
theorem out_ok {K : PySem.W.Frag} {σ : St} {φ : Phi} {S : Store} {H : Hp} {d : D} {v : V} {Q : VK} (h : OutG (Rv K) K ec W σ φ H (.ok d S) Q) (rs : Rs K φ S H) (r : Rv K φ H v d) : Q v H := h φ v H (Ext.refl _ _) rs r
theorem g_var {i : Nat} {x : Str} (hN : X.N[i]? = some x) (hv : Vis X.env.scope x) (hd : (x == ("__debug__" : Str)) = false) (hcd : (x == ("__classdict__" : Str)) = false) : GE X ec F W (.Name x pos) (.var i) := by
  refine PE.imp (pe_var hN hv hd hcd) fun σ H Q ⟨φ, δ, S, rs, re, h⟩ => ?_
  unfold ev at h
  cases e : δ[i]? with
  | none => simp only [e] at h; exact h.elim
  | some o =>
    cases o with
    | none => simp only [e] at h; exact h.elim
    | some d =>
      simp only [e] at h
      obtain ⟨v, h1, h2⟩ := re.2 i d e
      exact ⟨v, h1, out_ok h rs h2⟩
theorem ev_con (d : D) (δ : Env) (S : Store) : ev F (.con d) δ S = .ok d S := by unfold ev; rfl
theorem g_int {i j} : GE X ec F W (.Constant (.int i) j pos) (.con (.int i)) := PE.imp pe_int fun _ _ _ ⟨_, _, _, rs, _, h⟩ => out_ok (by rw [ev_con] at h; exact h) rs (.int i)
theorem g_bl {i j} : GE X ec F W (.Constant (.bool i) j pos) (.con (.bl i)) := PE.imp pe_bl fun _ _ _ ⟨_, _, _, rs, _, h⟩ => out_ok (by rw [ev_con] at h; exact h) rs (.bl i)
theorem g_str {i j} : GE X ec F W (.Constant (.str i) j pos) (.con (.str i)) := PE.imp pe_str fun _ _ _ ⟨_, _, _, rs, _, h⟩ => out_ok (by rw [ev_con] at h; exact h) rs (.str i)
theorem g_non {j} : GE X ec F W (.Constant .none j pos) (.con .non) := PE.imp pe_non fun _ _ _ ⟨_, _, _, rs, _, h⟩ => out_ok (by rw [ev_con] at h; exact h) rs .non
/-- a constant of the module -/
theorem g_glob {x : Str} {d : D} {u : Value} {v : V} (hg : Gl X x) (hm : X.mg x = some u) (r : RelV v u) (hd : (x == ("__debug__" : Str)) = false) (k : ∀ φ H, Rv X.K φ H v d) : GE X ec F W (.Name x pos) (.con d) :=
  PE.imp (pe_glob hg hm r hd) fun _ _ _ ⟨_, _, _, rs, _, h⟩ => out_ok (by rw [ev_con] at h; exact h) rs (k _ _)
/-! ### several -/
theorem g_nil : GA X ec F W [] .nil := PA.imp pa_nil fun σ H Q ⟨φ, δ, S, rs, re, h⟩ => by
  unfold evs at h
  exact h φ [] H (Ext.refl _ _) rs .nil
theorem starEach_of (e : Expr) (es : List Expr) (env : PySem.Env) (h : ∀ x p, e ≠ .Starred x p) : starEach (e :: es) env = (false, eval e env) :: starEach es env := by
  cases e <;> first | rfl | exact absurd rfl (h _ _)
theorem g_cons (hs : ∀ x p, e ≠ .Starred x p) (he : GE X ec F W e ce) (hr : GA X ec F W es cb) : GA X ec F W (e :: es) (.cons ce cb) := by
  refine PA.imp (pa_cons he hr (starEach_of e es X.env hs)) fun σ H Q ⟨φ, δ, S, rs, re, h⟩ => ?_
  unfold evs at h
  refine ⟨φ, δ, S, rs, re, h.bind.mono fun v H1 ⟨φ1, x, S1, e1, rs1, r1, h1⟩ => ?_⟩
  refine ⟨φ1, δ, S1, rs1, re.ext e1, h1.bind.mono fun vs H2 ⟨φ2, xs, S2, e2, rs2, r2, h2⟩ => ?_⟩
  exact h2 φ2 (v :: vs) H2 (Ext.refl _ _) rs2 (.cons (r1.ext e2) r2)
theorem Rvs_size {K : PySem.W.Frag} {φ : Phi} {H : Hp} : True := trivial
/-- displays: of written items, few -/
def esLen : CE → Nat
  | .cons _ es => esLen es + 1
  | _ => 0
theorem evs_len : ∀ {c : CE} {δ : Env} {S : Store} {ds : List D} {S' : Store}, evs F c δ S = .ok ds S' → ds.length = esLen c
  | .nil, _, _, _, _, h => by
    unfold evs at h
    cases h
    rfl
  | .cons e es, δ, S, ds, S', h => by
    unfold evs at h
    cases h1 : ev F e δ S with
    | ok d S1 =>
      rw [h1, R.bind_ok] at h
      cases h2 : evs F es δ S1 with
      | ok d2 S2 =>
        rw [h2, R.bind_ok] at h
        cases h
        rw [List.length_cons, evs_len h2]
        rfl
      | exc c a S2 => rw [h2, R.bind_exc] at h; cases h
      | stuck => rw [h2, R.bind_stuck] at h; cases h
    | exc c a S2 => rw [h1, R.bind_exc] at h; cases h
    | stuck => rw [h1, R.bind_stuck] at h; cases h
  | .var _, _, _, _, _, h => by unfold evs at h; cases h
  | .con _, _, _, _, _, h => by unfold evs at h; cases h
  | .edic, _, _, _, _, h => by unfold evs at h; cases h
  | .one _, _, _, _, _, h => by unfold evs at h; cases h
  | .tup _, _, _, _, _, h => by unfold evs at h; cases h
  | .lst _, _, _, _, _, h => by unfold evs at h; cases h
  | .mlst _, _, _, _, _, h => by unfold evs at h; cases h
  | .mdk, _, _, _, _, h => by unfold evs at h; cases h
  | .mdt, _, _, _, _, h => by unfold evs at h; cases h
  | .bin _ _ _, _, _, _, _, h => by unfold evs at h; cases h
  | .neg _, _, _, _, _, h => by unfold evs at h; cases h
  | .cmp _ _ _, _, _, _, _, h => by unfold evs at h; cases h
  | .chain _ _ _ _ _, _, _, _, _, h => by unfold evs at h; cases h
  | .not _, _, _, _, _, h => by unfold evs at h; cases h
  | .and _ _, _, _, _, _, h => by unfold evs at h; cases h
  | .or _ _, _, _, _, _, h => by unfold evs at h; cases h
  | .ife _ _ _, _, _, _, _, h => by unfold evs at h; cases h
  | .idx _ _, _, _, _, _, h => by unfold evs at h; cases h
  | .sl _ _ _, _, _, _, _, h => by unfold evs at h; cases h
  | .rev _, _, _, _, _, h => by unfold evs at h; cases h
  | .call _ _, _, _, _, _, h => by unfold evs at h; cases h
  | .blt _ _, _, _, _, _, h => by unfold evs at h; cases h
  | .isi _ _, _, _, _, _, h => by unfold evs at h; cases h
  | .mth _ _ _, _, _, _, _, h => by unfold evs at h; cases h
  | .rng _ _, _, _, _, _, h => by unfold evs at h; cases h
  | .rgl _ _, _, _, _, _, h => by unfold evs at h; cases h
  | .setd _ _ _, _, _, _, _, h => by unfold evs at h; cases h
  | .comp _ _ _ _ _ _, _, _, _, _, h => by unfold evs at h; cases h
theorem small_of {n : Nat} (h : n ≤ 1000) : n ≤ sizeLine := by rw [sizeLine_eq]; omega
/-- .. with the length told -/
theorem GA.len (h : GA X ec F W es ca) : PA X es fun σ H Q => ∃ φ δ S, Rs X.K φ S H ∧ RE X.K φ H δ σ ∧ OutG (fun φ H vs ds => Rvs X.K φ H vs ds ∧ ds.length = esLen ca) X.K ec W σ φ H (evs F ca δ S) Q := by
  refine PA.imp h fun σ H Q ⟨φ, δ, S, rs, re, q⟩ => ⟨φ, δ, S, rs, re, ?_⟩
  cases e : evs F ca δ S with
  | ok ds S' =>
    rw [e] at q
    exact fun φ' v H' e' rs' r' => q φ' v H' e' rs' ⟨r', evs_len e⟩
  | exc c a S' => rw [e] at q; exact q
  | stuck => rw [e] at q; exact q
theorem g_tup {k} (hl : esLen ca ≤ 1000) (h : GA X ec F W es ca) : GE X ec F W (.Tuple es k pos) (.tup ca) := by
  refine PE.imp (pe_tup (GA.len h)) fun σ H Q ⟨φ, δ, S, rs, re, h⟩ => ?_
  unfold ev at h
  refine ⟨φ, δ, S, rs, re, h.bind.mono fun vs H1 ⟨φ1, xs, S1, e1, rs1, ⟨r1, l1⟩, h1⟩ => ⟨by rw [r1.len, l1]; exact small_of hl, fun p hp => ?_⟩⟩
  exact h1 φ1 _ _ (Ext.fresh hp) (rs1.fresh hp) (.tup (.inl ⟨upd_same, rs1.free hp⟩) (r1.ext (Ext.fresh hp)))
theorem g_lst (hl : esLen ca ≤ 1000) (h : GA X ec F W es ca) : GE X ec F W (.List es pos) (.lst ca) := by
  refine PE.imp (pe_lst (GA.len h)) fun σ H Q ⟨φ, δ, S, rs, re, h⟩ => ?_
  unfold ev at h
  refine ⟨φ, δ, S, rs, re, h.bind.mono fun vs H1 ⟨φ1, xs, S1, e1, rs1, ⟨r1, l1⟩, h1⟩ => ⟨by rw [r1.len, l1]; exact small_of hl, fun p hp => ?_⟩⟩
  exact h1 φ1 _ _ (Ext.fresh hp) (rs1.fresh hp) (.lst upd_same (rs1.free hp) (r1.ext (Ext.fresh hp)))
theorem g_mlst (hl : esLen ca ≤ 1000) (h : GA X ec F W es ca) : GE X ec F W (.List es pos) (.mlst ca) := by
  refine PE.imp (pe_lst (GA.len h)) fun σ H Q ⟨φ, δ, S, rs, re, h⟩ => ?_
  unfold ev at h
  refine ⟨φ, δ, S, rs, re, h.bind.mono fun vs H1 ⟨φ1, xs, S1, e1, rs1, ⟨r1, l1⟩, h1⟩ => ⟨by rw [r1.len, l1]; exact small_of hl, fun p hp => ?_⟩⟩
  refine h1 (φ1.add p) _ _ (Ext.alloc hp) (rs1.alloc hp ⟨p, vs, rfl, upd_same, r1.ext (Ext.alloc hp)⟩) (.ref (o := some p) ?_ (.inr rfl))
  show (φ1.c ++ [some p])[S1.length]? = _
  rw [← rs1.len, List.getElem?_append_right (Nat.le_refl _), Nat.sub_self]
  rfl
/-! ### operators -/
theorem rB_of {K : PySem.W.Frag} {σ : St} {φ : Phi} {H : Hp} {δ : Env} {S : Store} {Q : VK} {f : D → D → Store → Option D} (rs : Rs K φ S H) (re : RE K φ H δ σ)
    (h : OutG (Rv K) K ec W σ φ H ((ev F ca δ S).bind fun x S1 => (ev F cb δ S1).bind fun y S2 => R.opt (f x y S2) S2) Q) : tOp (rB K f) (rdE K ec F W ca) (rdE K ec F W cb) σ H Q := by
  refine ⟨φ, δ, S, rs, re, h.bind.mono fun v H1 ⟨φ1, x, S1, e1, rs1, r1, h1⟩ => ?_⟩
  refine ⟨φ1, δ, S1, rs1, re.ext e1, h1.bind.mono fun u H2 ⟨φ2, y, S2, e2, rs2, r2, h2⟩ => ?_⟩
  exact ⟨φ2, S2, x, y, rs2, r1.ext e2, r2, h2.ov⟩
theorem g_bin (hs : Seer X) (op : Bop) (ha : GE X ec F W a ca) (hb : GE X ec F W b cb) : GE X ec F W (.BinOp a (bopOp op) b pos) (.bin op ca cb) := by
  refine PE.imp (pe_op (z_bin hs op) ha hb) fun σ H Q ⟨φ, δ, S, rs, re, h⟩ => ?_
  unfold ev at h
  exact rB_of rs re h
/-- a sum of lists that will change -/
theorem g_cat (ha : GE X ec F W a ca) (hb : GE X ec F W b cb) : GE X ec F W (.BinOp a .Add b pos) (.mth .cat ca (.cons cb .nil)) := by
  refine PE.imp (pe_op op_cat ha hb) fun σ H Q ⟨φ, δ, S, rs, re, h⟩ => ?_
  unfold ev at h
  refine ⟨φ, δ, S, rs, re, h.bind.mono fun v H1 ⟨φ1, x, S1, e1, rs1, r1, h1⟩ => ?_⟩
  cases es : seqL S1 x with
  | none => simp only [es] at h1; exact (show False from h1).elim
  | some xs0 =>
    simp only [es] at h1
    have h1' : OutG (Rv X.K) X.K ec W σ φ1 H1 ((ev F cb δ S1).bind fun y S2 => R.opt2 (mthEv .cat x [y] S2)) Q := by
      cases e3 : ev F cb δ S1 with
      | ok d S3 =>
        have e4 : evs F (.cons cb .nil) δ S1 = .ok [d] S3 := by unfold evs; rw [e3, R.bind_ok]; unfold evs; rfl
        rw [e4] at h1
        exact h1
      | exc c2 d S3 =>
        have e4 : evs F (.cons cb .nil) δ S1 = .exc c2 d S3 := by unfold evs; rw [e3]; rfl
        rw [e4] at h1
        exact h1
      | stuck =>
        have e4 : evs F (.cons cb .nil) δ S1 = .stuck := by unfold evs; rw [e3]; rfl
        rw [e4] at h1
        exact h1
    refine ⟨φ1, δ, S1, rs1, re.ext e1, h1'.bind.mono fun u H2 ⟨φ2, y, S2, e2, rs2, r2, h2⟩ => ?_⟩
    have r3 := r1.ext e2
    cases q1 : seqL S2 x with
    | none => simp only [mthEv, q1] at h2; exact (show False from h2).elim
    | some xs =>
      cases q2 : seqL S2 y with
      | none => simp only [mthEv, q1, q2] at h2; exact (show False from h2).elim
      | some ys =>
        by_cases hz : xs.length + ys.length ≤ sizeLine
        · simp only [mthEv, q1, q2, if_pos hz] at h2
          obtain ⟨l, vs, rfl, g1, t1⟩ := seqL_at rs2 r3 q1
          obtain ⟨m, ws, rfl, g2, t2⟩ := seqL_at rs2 r2 q2
          have h3 : ∀ φ' v H', Ext φ2 H2 φ' H' → Rs X.K φ' (S2 ++ [.lst (xs ++ ys)]) H' → Rv X.K φ' H' v (.ref S2.length) → Q v H' := h2
          refine ⟨l, m, vs, ws, rfl, rfl, g1, g2, by rw [t1.len, t2.len]; exact hz, fun p hp => ?_⟩
          refine h3 (φ2.add p) _ _ (Ext.alloc hp) (rs2.alloc hp ⟨p, vs ++ ws, rfl, upd_same, (t1.app t2).ext (Ext.alloc hp)⟩) (.ref (o := some p) ?_ (.inr rfl))
          show (φ2.c ++ [some p])[S2.length]? = _
          rw [← rs2.len, List.getElem?_append_right (Nat.le_refl _), Nat.sub_self]
          rfl
        · simp only [mthEv, q1, q2, if_neg hz] at h2
          exact (show False from h2).elim
theorem g_cmp (hu : X.A.units + 65 < cLine) (op : Cop) (ha : GE X ec F W a ca) (hb : GE X ec F W b cb) (hm : behindInMarks (copOp op) b = false) : GE X ec F W (.Compare a [copOp op] [b] pos) (.cmp op ca cb) := by
  refine PE.imp (pe_cmpR (z_cmp hu op) ha hb hm) fun σ H Q ⟨φ, δ, S, rs, re, h⟩ => ?_
  unfold ev at h
  exact rB_of rs re h
theorem g_neg (ha : GE X ec F W a ca) : GE X ec F W (.UnaryOp .USub a pos) (.neg ca) := by
  refine PE.imp (pe_un un_neg ha) fun σ H Q ⟨φ, δ, S, rs, re, h⟩ => ?_
  unfold ev at h
  refine ⟨φ, δ, S, rs, re, h.bind.mono fun v H1 ⟨φ1, x, S1, e1, rs1, r1, h1⟩ => ?_⟩
  cases r1 with
  | int i => exact ⟨i, rfl, out_ok h1 rs1 (.int _)⟩
  | _ => exact h1.elim
theorem g_idx (hu : X.A.units + 65 < cLine) (hs : PlainIx b) (ha : GE X ec F W a ca) (hb : GE X ec F W b cb) : GE X ec F W (.Subscript a b pos) (.idx ca cb) := by
  refine PE.imp (pe_ix (z_ix (by omega)) ha hb hs) fun σ H Q ⟨φ, δ, S, rs, re, h⟩ => ?_
  unfold ev at h
  exact rB_of rs re h
theorem g_ife {t : Expr} {ct : CE} (ht : GT X ec F W t ct) (ha : GE X ec F W a ca) (hb : GE X ec F W b cb) : GE X ec F W (.IfExp t a b pos) (.ife ct ca cb) := by
  refine PE.imp (pe_ifExp ht ha hb) fun σ H Q ⟨φ, δ, S, rs, re, h⟩ => ?_
  unfold ev at h
  refine ⟨φ, δ, S, rs, re, fun d S' e => ?_, ?_⟩
  · rw [e, R.bind_ok] at h
    cases d with
    | bl b => exact ⟨b, rfl⟩
    | _ => exact h.elim
  · refine (OutG.bind (rel := relB) h).mono fun v H1 ⟨φ1, x, S1, e1, rs1, r1, h1⟩ => ?_
    cases r1
    cases v with
    | true => exact ⟨φ1, δ, S1, rs1, re.ext e1, h1⟩
    | false => exact ⟨φ1, δ, S1, rs1, re.ext e1, h1⟩
/-! ### tests -/
/-- a value that is a truth, as a test -/
theorem t_val (h : GE X ec F W e ce) (he : ∀ whole, isTrue e X.env whole = (do let v ← whole; standAt e.pos; holding [v] (truthy v))) : GT X ec F W e ce := by
  refine PT.imp (pt_val h he) fun σ H Q ⟨φ, δ, S, rs, re, hb, h⟩ => ⟨φ, δ, S, rs, re, ?_⟩
  cases e1 : ev F ce δ S with
  | ok d S' =>
    rw [e1] at h
    obtain ⟨b, rfl⟩ := hb d S' e1
    intro φ' v H' e' rs' r'
    cases r'
    exact ⟨b, rfl, h φ' b H' e' rs' rfl⟩
  | exc c a S' => rw [e1] at h; exact h
  | stuck => rw [e1] at h; exact h
theorem rdT_E {K : PySem.W.Frag} {c : CE} {σ : St} {H : Hp} {Q : Bool → Hp → Prop} (h : rdT K ec F W c σ H Q) : rdE K ec F W c σ H fun x H' => ∃ k, x = .bl k ∧ Q k H' := by
  obtain ⟨φ, δ, S, rs, re, hb, h⟩ := h
  refine ⟨φ, δ, S, rs, re, ?_⟩
  cases e1 : ev F c δ S with
  | ok d S' =>
    rw [e1] at h
    obtain ⟨b, rfl⟩ := hb d S' e1
    intro φ' v H' e' rs' r'
    cases r'
    exact ⟨b, rfl, h φ' b H' e' rs' rfl⟩
  | exc c a S' => rw [e1] at h; exact h
  | stuck => rw [e1] at h; exact h
theorem t_cmp (hu : X.A.units + 65 < cLine) (op : Cop) (ha : GE X ec F W a ca) (hb : GE X ec F W b cb) (hm : behindInMarks (copOp op) b = false) : GT X ec F W (.Compare a [copOp op] [b] pos) (.cmp op ca cb) := by
  refine PT.imp (pt_cmpR (z_cmp hu op) ha hb hm) fun σ H Q h => ?_
  obtain ⟨φ, δ, S, rs, re, h⟩ := rdT_E h
  unfold ev at h
  exact rB_of rs re h
theorem t_not (ha : GT X ec F W a ca) : GT X ec F W (.UnaryOp .Not a pos) (.not ca) := by
  refine PT.imp (pt_not ha) fun σ H Q ⟨φ, δ, S, rs, re, hb, h⟩ => ?_
  unfold ev at h
  refine ⟨φ, δ, S, rs, re, fun d S' e => ?_, ?_⟩
  · rw [e, R.bind_ok] at h
    cases d with
    | bl b => exact ⟨b, rfl⟩
    | _ => exact h.elim
  · refine (OutG.bind (rel := relB) h).mono fun v H1 ⟨φ1, x, S1, e1, rs1, r1, h1⟩ => ?_
    cases r1
    exact h1 φ1 _ H1 (Ext.refl _ _) rs1 rfl
theorem g_not (ha : GE X ec F W a ca) : GE X ec F W (.UnaryOp .Not a pos) (.not ca) := by
  refine PE.imp (pe_not ha) fun σ H Q ⟨φ, δ, S, rs, re, h⟩ => ?_
  unfold ev at h
  refine ⟨φ, δ, S, rs, re, h.bind.mono fun v H1 ⟨φ1, x, S1, e1, rs1, r1, h1⟩ => ?_⟩
  cases r1 with
  | bl b => exact ⟨b, rfl, out_ok h1 rs1 (.bl _)⟩
  | _ => exact h1.elim
/-- and, or as values: all but the last truths -/
theorem g_one {op} (ha : GE X ec F W a ca) : GE X ec F W (.BoolOp op [a] pos) ca := pe_one ha
theorem g_and (ha : GE X ec F W a ca) (hb : GE X ec F W (.BoolOp .And (b :: rest) pos) cb) : GE X ec F W (.BoolOp .And (a :: b :: rest) pos) (.and ca cb) := by
  refine PE.imp (pe_and ha hb) fun σ H Q ⟨φ, δ, S, rs, re, h⟩ => ?_
  unfold ev at h
  refine ⟨φ, δ, S, rs, re, h.bind.mono fun v H1 ⟨φ1, x, S1, e1, rs1, r1, h1⟩ => ?_⟩
  cases r1 with
  | bl b =>
    refine ⟨b, rfl, ?_⟩
    cases b with
    | true => exact ⟨φ1, δ, S1, rs1, re.ext e1, h1⟩
    | false => exact out_ok h1 rs1 (.bl _)
  | _ => exact h1.elim
theorem g_or (ha : GE X ec F W a ca) (hb : GE X ec F W (.BoolOp .Or (b :: rest) pos) cb) : GE X ec F W (.BoolOp .Or (a :: b :: rest) pos) (.or ca cb) := by
  refine PE.imp (pe_or ha hb) fun σ H Q ⟨φ, δ, S, rs, re, h⟩ => ?_
  unfold ev at h
  refine ⟨φ, δ, S, rs, re, h.bind.mono fun v H1 ⟨φ1, x, S1, e1, rs1, r1, h1⟩ => ?_⟩
  cases r1 with
  | bl b =>
    refine ⟨b, rfl, ?_⟩
    cases b with
    | false => exact ⟨φ1, δ, S1, rs1, re.ext e1, h1⟩
    | true => exact out_ok h1 rs1 (.bl _)
  | _ => exact h1.elim
/-- .. as tests, whatever the whole is -/
def GW (X : Cx) (ec : Nat → Value) (F : Fn) (W : WX) (e : Expr) (c : CE) : Prop := PW X e (rdT X.K ec F W c)
theorem w_and1 (ha : GT X ec F W a ca) : GW X ec F W (.BoolOp .And [a] pos) ca := pw_and1 ha
theorem w_or1 (ha : GT X ec F W a ca) : GW X ec F W (.BoolOp .Or [a] pos) ca := pw_or1 ha
theorem w_and (ha : GT X ec F W a ca) (hb : GW X ec F W (.BoolOp .And (b :: rest) pos) cb) : GW X ec F W (.BoolOp .And (a :: b :: rest) pos) (.and ca cb) := by
  refine PW.imp (pw_and ha hb) fun σ H Q ⟨φ, δ, S, rs, re, hq, h⟩ => ?_
  unfold ev at h hq
  refine ⟨φ, δ, S, rs, re, fun d S' e => ?_, ?_⟩
  · rw [e, R.bind_ok] at h
    cases d with
    | bl b => exact ⟨b, rfl⟩
    | _ => exact h.elim
  · cases e1 : ev F ca δ S with
    | ok x S1 =>
      rw [e1, R.bind_ok] at h hq
      intro φ1 v H1 e2 rs1 r1
      cases r1
      cases v with
      | true => exact ⟨φ1, δ, S1, rs1, re.ext e2, hq, OutG.ext e2 h⟩
      | false => exact h φ1 false H1 e2 rs1 rfl
    | exc c a S1 => rw [e1] at h; exact h
    | stuck => rw [e1] at h; exact h
theorem w_or (ha : GT X ec F W a ca) (hb : GW X ec F W (.BoolOp .Or (b :: rest) pos) cb) : GW X ec F W (.BoolOp .Or (a :: b :: rest) pos) (.or ca cb) := by
  refine PW.imp (pw_or ha hb) fun σ H Q ⟨φ, δ, S, rs, re, hq, h⟩ => ?_
  unfold ev at h hq
  refine ⟨φ, δ, S, rs, re, fun d S' e => ?_, ?_⟩
  · rw [e, R.bind_ok] at h
    cases d with
    | bl b => exact ⟨b, rfl⟩
    | _ => exact h.elim
  · cases e1 : ev F ca δ S with
    | ok x S1 =>
      rw [e1, R.bind_ok] at h hq
      intro φ1 v H1 e2 rs1 r1
      cases r1
      cases v with
      | false => exact ⟨φ1, δ, S1, rs1, re.ext e2, hq, OutG.ext e2 h⟩
      | true => exact h φ1 true H1 e2 rs1 rfl
    | exc c a S1 => rw [e1] at h; exact h
    | stuck => rw [e1] at h; exact h
theorem GW.t (h : GW X ec F W e ce) : GT X ec F W e ce := PW.pt h
/-! ### chains -/
theorem chain_of {K : PySem.W.Frag} {σ : St} {φ : Phi} {H : Hp} {δ : Env} {S : Store} {Q : VK} {o1 o2 : Cop} (rs : Rs K φ S H) (re : RE K φ H δ σ)
    (h : OutG (Rv K) K ec W σ φ H (ev F (.chain o1 o2 ca cb cc) δ S) Q) : tChain (rB K (cmpEv o1)) (rB K (cmpEv o2)) (rdE K ec F W ca) (rdE K ec F W cb) (rdE K ec F W cc) σ H Q := by
  unfold ev at h
  refine ⟨φ, δ, S, rs, re, h.bind.mono fun v H1 ⟨φ1, x, S1, e1, rs1, r1, h1⟩ => ?_⟩
  refine ⟨φ1, δ, S1, rs1, re.ext e1, h1.bind.mono fun u H2 ⟨φ2, y, S2, e2, rs2, r2, h2⟩ => ?_⟩
  refine ⟨φ2, S2, x, y, rs2, r1.ext e2, r2, ?_⟩
  unfold cmpEv
  cases ec1 : cmpB o1 x y S2 with
  | none => simp only [ec1] at h2; exact h2.elim
  | some k =>
    simp only [ec1] at h2
    intro w H3 e3 rs3 r3
    cases r3
    refine ⟨k, rfl, ?_⟩
    cases k with
    | false => exact h2 φ2 _ H3 e3 rs3 (.bl _)
    | true =>
      rw [if_pos rfl]
      refine ⟨φ2, δ, S2, rs3, (re.ext e1).ext (e2.trans e3), (OutG.ext e3 h2).bind.mono fun z H4 ⟨φ4, d4, S4, e4, rs4, r4, h4⟩ => ?_⟩
      exact ⟨φ4, S4, y, d4, rs4, r2.ext (e3.trans e4), r4, h4.ov⟩
theorem lastMarks2 {op op' : CmpOp} {b c : Expr} (h : behindInMarks op' c = false) : lastMarks [op, op'] [b, c] = false := h
theorem g_chain (hu : X.A.units + 65 < cLine) (o1 o2 : Cop) (ha : GE X ec F W a ca) (hb : GE X ec F W b cb) (hc : GE X ec F W c cc) (hm : behindInMarks (copOp o2) c = false) : GE X ec F W (.Compare a [copOp o1, copOp o2] [b, c] pos) (.chain o1 o2 ca cb cc) :=
  PE.imp (pe_chain (z_cmp hu o1) (z_cmp hu o2) ha hb hc (lastMarks2 hm)) fun σ H Q ⟨φ, δ, S, rs, re, h⟩ => chain_of rs re h
theorem t_chain (hu : X.A.units + 65 < cLine) (o1 o2 : Cop) (ha : GE X ec F W a ca) (hb : GE X ec F W b cb) (hc : GE X ec F W c cc) (hm : behindInMarks (copOp o2) c = false) : GT X ec F W (.Compare a [copOp o1, copOp o2] [b, c] pos) (.chain o1 o2 ca cb cc) :=
  PT.imp (pt_chain (z_cmp hu o1) (z_cmp hu o2) ha hb hc (lastMarks2 hm)) fun σ H Q h => by
    obtain ⟨φ, δ, S, rs, re, h⟩ := rdT_E h
    exact chain_of rs re h
/-! ### slices -/
def GO (X : Cx) (ec : Nat → Value) (F : Fn) (W : WX) (o : Option Expr) (c : CE) : Prop := PO X o fun σ H Q => ∃ φ δ S, Rs X.K φ S H ∧ RE X.K φ H δ σ ∧ OutG (fun _ _ o d => o = d) X.K ec W σ φ H (evo F c δ S) Q
theorem PO.imp {o : Option Expr} {t t' : TO} (h : PO X o t) (k : ∀ σ H Q, t' σ H Q → t σ H Q) : PO X o t' := ⟨fun pins s σ H Q I q => h.run pins s σ H Q I (k σ H Q q)⟩
theorem o_none : GO X ec F W none .nil := PO.imp po_none fun σ H Q ⟨φ, δ, S, rs, re, h⟩ => by
  unfold evo at h
  exact h φ none H (Ext.refl _ _) rs rfl
theorem o_some (h : GE X ec F W e ce) : GO X ec F W (some e) (.one ce) := PO.imp (po_some h) fun σ H Q ⟨φ, δ, S, rs, re, h⟩ => by
  unfold evo at h
  refine ⟨φ, δ, S, rs, re, h.bind.mono fun v H1 ⟨φ1, x, S1, e1, rs1, r1, h1⟩ => ?_⟩
  cases r1 with
  | int i => exact ⟨i, rfl, h1 φ1 _ H1 (Ext.refl _ _) rs1 rfl⟩
  | _ => exact h1.elim
theorem g_sl {lo hi : Option Expr} {cl ch : CE} {p2 : Pos} (ha : GE X ec F W a ca) (hl : GO X ec F W lo cl) (hh : GO X ec F W hi ch) : GE X ec F W (.Subscript a (.Slice lo hi none p2) pos) (.sl ca cl ch) := by
  refine PE.imp (pe_slice z_sl ha hl hh) fun σ H Q ⟨φ, δ, S, rs, re, h⟩ => ?_
  unfold ev at h
  refine ⟨φ, δ, S, rs, re, h.bind.mono fun v H1 ⟨φ1, x, S1, e1, rs1, r1, h1⟩ => ?_⟩
  refine ⟨φ1, δ, S1, rs1, re.ext e1, (OutG.bind (rel := fun _ _ o d => o = d) h1).mono fun l H2 ⟨φ2, l', S2, e2, rs2, r2, h2⟩ => ?_⟩
  subst r2
  refine ⟨φ2, δ, S2, rs2, (re.ext e1).ext e2, (OutG.bind (rel := fun _ _ o d => o = d) h2).mono fun u H3 ⟨φ3, u', S3, e3, rs3, r3, h3⟩ => ?_⟩
  subst r3
  exact ⟨φ3, S3, x, rs3, r1.ext (e2.trans e3), h3.ov⟩
theorem g_rev {k : Nat} {p1 p2 p3 : Pos} (ha : GE X ec F W a ca) : GE X ec F W (.Subscript a (.Slice none none (some (.UnaryOp .USub (.Constant (.int 1) k p1) p2)) p3) pos) (.rev ca) := by
  refine PE.imp (pe_revZ ha) fun σ H Q ⟨φ, δ, S, rs, re, h⟩ => ?_
  unfold ev at h
  refine ⟨φ, δ, S, rs, re, h.bind.mono fun x H1 ⟨φ1, d, S1, e1, rs1, r1, h1⟩ => ?_⟩
  have q := OutG.ov h1
  have lst : ∀ {b : D}, Rv X.K φ1 H1 x b → OV X.K φ1 S1 H1 ((seqL S1 b).map fun ds => .lst ds.reverse) Q → ∃ a xs, x = .ref a ∧ ((SqL X.K H1 a xs ∧ ∀ p, H1 p = none → Q (.ref p) (upd H1 p (.lst xs.reverse))) ∨ (SqT X.K H1 a xs ∧ ∀ p, H1 p = none → Q (.ref p) (upd H1 p (.tup xs.reverse)))) := fun {b} rb q => by
    cases e : seqL S1 b with
    | none => simp only [e] at q; exact q.elim
    | some ds =>
      simp only [e] at q
      obtain ⟨p, xs, rfl, hq, rr⟩ := seqL_at rs1 rb e
      exact ⟨p, xs, rfl, .inl ⟨SqL.of hq, fun l hl => OV.newL q rs1 rr.rev hl⟩⟩
  cases r1 with
  | tup t r => exact ⟨_, _, rfl, .inr ⟨t.sq, fun l hl => OV.new q rs1 r.rev hl⟩⟩
  | lst g1 g2 g3 => exact lst (.lst g1 g2 g3) q
  | ref g1 g2 => exact lst (.ref g1 g2) q
  | _ => exact q.elim
/-- {} that nobody changes -/
theorem g_edic : GE X ec F W (.Dict [] [] pos) .edic := PE.imp pe_dnewK fun σ H Q ⟨φ, δ, S, rs, re, h⟩ => by
  unfold ev at h
  exact fun p hp => h φ _ _ (Ext.fresh hp) (rs.fresh hp) (.edic upd_same (rs.free hp))
/-- {} that will change -/
theorem g_mdk : GE X ec F W (.Dict [] [] pos) .mdk := PE.imp pe_dnewK fun σ H Q ⟨φ, δ, S, rs, re, h⟩ => by
  unfold ev at h
  refine fun p hp => h (φ.add p) _ _ (Ext.alloc hp) (rs.alloc hp ⟨p, [], rfl, upd_same, rfl, .nil⟩) (.ref (o := some p) ?_ (.inr rfl))
  show (φ.c ++ [some p])[S.length]? = some (some p)
  rw [← rs.len, List.getElem?_append_right (Nat.le_refl _), Nat.sub_self]
  rfl
end
end Z

/-! Z, part F: calls, loops' walks, comprehensions. -/
namespace Z
open PySem PySem.Spec PyProof.Rows L2
def noStar : Expr → Bool
  | .Starred _ _ => false
  | _ => true
def noStars (es : List Expr) : Bool := es.all noStar
theorem noStar_of {e : Expr} (h : noStar e = true) : ∀ x p, e ≠ .Starred x p := fun x p z => by
  subst z
  cases h
theorem starEach_plain (env : PySem.Env) : ∀ {es : List Expr}, noStars es = true → starEach es env = es.map fun e => (false, eval e env)
  | [], _ => rfl
  | e :: es, h => by
    have h' : (noStar e && noStars es) = true := h
    rw [Bool.and_eq_true] at h'
    rw [starEach_of e es env (noStar_of h'.1), starEach_plain env h'.2]
    rfl
theorem plain_any (env : PySem.Env) (pos : Pos) {es : List Expr} (h : noStars es = true) : (backTo pos (starEach es env)).any (·.1) = false := by
  rw [starEach_plain env h]
  unfold backTo
  induction es with
  | nil => rfl
  | cons e es ih =>
    have h' : (noStar e && noStars es) = true := h
    rw [Bool.and_eq_true] at h'
    rw [List.map_cons, List.map_cons, List.any_cons, ih h'.2]
    rfl
theorem plain_all (env : PySem.Env) (pos : Pos) {es : List Expr} (h : noStars es = true) : (backTo pos (starEach es env)).all (fun x => !x.1) = true := by
  rw [starEach_plain env h]
  unfold backTo
  induction es with
  | nil => rfl
  | cons e es ih =>
    have h' : (noStar e && noStars es) = true := h
    rw [Bool.and_eq_true] at h'
    rw [List.map_cons, List.map_cons, List.all_cons, ih h'.2]
    rfl
section
variable {X : Cx} {ec : Nat → Value} {F : Fn} {W : WX} {a b c e o : Expr} {es rest : List Expr} {ca cb cc ce co : CE} {pos p apos : Pos}
/-! ### built-in functions -/
def bltName : Blt → Str
  | .len => "len" | .abs => "abs" | .int => "int" | .str => "str" | .tuple => "tuple" | .list => "list" | .all => "all" | .any => "any" | .sum => "sum" | .min => "min" | .max => "max" | .sorted => "sorted" | .repr => "repr"
def bltOk : Blt → Bool
  | .repr => false
  | _ => true
theorem rBl_of {K : PySem.W.Frag} {σ : St} {φ : Phi} {H : Hp} {δ : Env} {S : Store} {Q : VK} {t : Blt} (rs : Rs K φ S H) (re : RE K φ H δ σ) (h : OutG (Rv K) K ec W σ φ H (ev F (.blt t ca) δ S) Q) :
    tCB (rBl K t) (rdA K ec F W ca) σ H Q := by
  unfold ev at h
  refine ⟨φ, δ, S, rs, re, h.bind.mono fun v H1 ⟨φ1, x, S1, e1, rs1, r1, h1⟩ => ?_⟩
  exact ⟨φ1, S1, x, rs1, r1, h1.ov⟩
theorem g_blt (t : Blt) (ok : bltOk t = true) (hc : X.calm = true) (hg : Gl X (bltName t)) (hm : X.mg (bltName t) = none) (hs : noStars (e :: es) = true) (ha : GA X ec F W (e :: es) ca) : GE X ec F W (.Call (.Name (bltName t) p) (e :: es) [] pos) (.blt t ca) := by
  have h' : (noStar e && noStars es) = true := hs
  rw [Bool.and_eq_true] at h'
  have he := starEach_of e es X.env (noStar_of h'.1)
  have hp := plain_any X.env pos h'.2
  cases t with
  | len => exact PE.imp (pe_callB z_len hg hm PySem.boot_len ha (by decide) (by decide) he hp) fun σ H Q ⟨φ, δ, S, rs, re, h⟩ => rBl_of rs re h
  | abs => exact PE.imp (pe_callB z_abs hg hm (by decide +kernel) ha (by decide) (by decide) he hp) fun σ H Q ⟨φ, δ, S, rs, re, h⟩ => rBl_of rs re h
  | all => exact PE.imp (pe_callB (z_all hc) hg hm (by decide +kernel) ha (by decide) (by decide) he hp) fun σ H Q ⟨φ, δ, S, rs, re, h⟩ => rBl_of rs re h
  | any => exact PE.imp (pe_callB (z_any hc) hg hm (by decide +kernel) ha (by decide) (by decide) he hp) fun σ H Q ⟨φ, δ, S, rs, re, h⟩ => rBl_of rs re h
  | sum => exact PE.imp (pe_callB (z_sum hc) hg hm (by decide +kernel) ha (by decide) (by decide) he hp) fun σ H Q ⟨φ, δ, S, rs, re, h⟩ => rBl_of rs re h
  | min => exact PE.imp (pe_callB (z_min hc) hg hm (by decide +kernel) ha (by decide) (by decide) he hp) fun σ H Q ⟨φ, δ, S, rs, re, h⟩ => rBl_of rs re h
  | max => exact PE.imp (pe_callB (z_max hc) hg hm (by decide +kernel) ha (by decide) (by decide) he hp) fun σ H Q ⟨φ, δ, S, rs, re, h⟩ => rBl_of rs re h
  | int => exact PE.imp (pe_callTy z_int hg hm (by decide +kernel) ha (by decide) (by decide) he hp) fun σ H Q ⟨φ, δ, S, rs, re, h⟩ => rBl_of rs re h
  | str => exact PE.imp (pe_callTy z_str hg hm (by decide +kernel) ha (by decide) (by decide) he hp) fun σ H Q ⟨φ, δ, S, rs, re, h⟩ => rBl_of rs re h
  | tuple => exact PE.imp (pe_callTy z_tuple hg hm (by decide +kernel) ha (by decide) (by decide) he hp) fun σ H Q ⟨φ, δ, S, rs, re, h⟩ => rBl_of rs re h
  | list => exact PE.imp (pe_callTy z_list hg hm (by decide +kernel) ha (by decide) (by decide) he hp) fun σ H Q ⟨φ, δ, S, rs, re, h⟩ => rBl_of rs re h
  | sorted => exact PE.imp (pe_callB (z_sorted hc) hg hm (by decide +kernel) ha (by decide) (by decide) he hp) fun σ H Q ⟨φ, δ, S, rs, re, h⟩ => rBl_of rs re h
  | repr => cases ok
/-! ### isinstance(e, T) -/
def tyStr : Ty → Str
  | .int => "int" | .bool => "bool" | .str => "str" | .tup => "tuple" | .lst => "list" | .dict => "dict" | .own _ => ""
theorem g_isi {t : Ty} {p2 : Pos} (ht : ∀ c, t ≠ .own c) (hg : Gl X "isinstance") (hm : X.mg "isinstance" = none) (hg2 : Gl X (tyStr t)) (hm2 : X.mg (tyStr t) = none) (hs : noStar e = true) (he : GE X ec F W e ce) :
    GE X ec F W (.Call (.Name "isinstance" p) [e, .Name (tyStr t) p2] [] pos) (.isi ce t) := by
  have hb : bootBuiltins (tyStr t) = some (.type (tyName t)) := by
    cases t with
    | own c => exact absurd rfl (ht c)
    | _ => decide +kernel
  have hty : PE X (.Name (tyStr t) p2) (tC (.ty (tyName t))) := by
    cases t with
    | own c => exact absurd rfl (ht c)
    | _ => exact pe_bltn hg2 hm2 hb rfl (by decide) (by decide)
  have ha : PA X [e, .Name (tyStr t) p2] (tCons (rdE X.K ec F W ce) (tCons (tC (.ty (tyName t))) tNil)) := pa_cons he (pa_cons hty pa_nil) (starEach_of e _ X.env (noStar_of hs))
  refine PE.imp (pe_callB (z_isi t) hg hm (by decide +kernel) ha (by decide) (by decide) (starEach_of e _ X.env (noStar_of hs)) rfl) fun σ H Q ⟨φ, δ, S, rs, re, h⟩ => ?_
  unfold ev at h
  refine ⟨φ, δ, S, rs, re, h.bind.mono fun v H1 ⟨φ1, x, S1, e1, rs1, r1, h1⟩ => ?_⟩
  cases e2 : isiEv x t S1 with
  | none => rw [e2] at h1; exact h1.elim
  | some r =>
    rw [e2] at h1
    exact ⟨φ1, S1, x, v, r, rs1, rfl, r1, e2, out_ok h1 rs1 (.bl _)⟩
/-! ### calls of defs -/
/-- a def's promise by its run -/
def spF (K : PySem.W.Frag) (ec : Nat → Value) (F : Fn) (i : Nat) : Sp := fun vs H Q E => ∃ φ S ds, Rs K φ S H ∧ Rvs K φ H vs ds ∧ OutG (Rv K) K ec (fun cls d _ H' => E cls d H') [] φ H (F i ds S) Q
structure Callee (X : Cx) (ec : Nat → Value) (F : Fn) (n : Nat) (x : Str) (i : Nat) : Prop where
  ok : ∃ f fd ps, X.mg x = some (.ref f) ∧ PySem.W.keepIn X.K (.ref f) = true ∧ Binds X.K fd ps [] ∧ FnOk X.prog X.w X.K X.mg X.base (L2N.CX X.prog X.w) n f fd ps (spF X.K ec F i)
theorem out_W {K : PySem.W.Frag} {σ : St} {φ : Phi} {H : Hp} {r : R D} {Q : VK} (h : OutG (Rv K) K ec W σ φ H r Q) : OutG (Rv K) K ec (fun cls d _ H' => WE W σ cls d H') [] φ H r Q := by
  cases r with
  | ok d S => exact h
  | exc c a S => exact h
  | stuck => exact h
theorem g_call {n : Nat} {x : Str} {i : Nat} (C : Callee X ec F n x i) (hr : Room n X.A) (tk : L2N.Takes X W) (hg : Gl X x) (hd : (x == ("__debug__" : Str)) = false) (hs : noStars (e :: es) = true) (ha : GA X ec F W (e :: es) ca) :
    GE X ec F W (.Call (.Name x p) (e :: es) [] pos) (.call i ca) := by
  obtain ⟨f, fd, ps, hm, hk, hb, G⟩ := C.ok
  have h' : (noStar e && noStars es) = true := hs
  rw [Bool.and_eq_true] at h'
  refine PE.imp (pe_callS (E := WE W) G hr hg hm hk hb (L2N.passAt tk) ha hd (starEach_of e es X.env (noStar_of h'.1)) (plain_any X.env pos h'.2)) fun σ H Q ⟨φ, δ, S, rs, re, h⟩ => ?_
  unfold ev at h
  refine ⟨φ, δ, S, rs, re, h.bind.mono fun v H1 ⟨φ1, x, S1, e1, rs1, r1, h1⟩ => ?_⟩
  exact ⟨φ1, S1, x, rs1, r1, out_W h1⟩
theorem run_fnS0 {CX : CXT} {k : Nat} {f : Addr} {fd : FuncData} {ps : List Str} {sp : Sp} {E : L2.St → XK} {x : Str} (G : FnOk X.prog X.w X.K X.mg X.base CX k f fd ps sp) (hr : Room k X.A) (hg : Gl X x) (hm : X.mg x = some (.ref f)) (hk : PySem.W.keepIn X.K (.ref f) = true) (hb : Binds X.K fd ps []) (hx : ∀ σ, PassesAt CX X σ (E σ))
    (hdb : (x == ("__debug__" : Str)) = false) : PE X (.Call (.Name x p) [] [] pos) (tCallS sp E tNil) := by
  refine ⟨fun pins s σ H Q I h => ?_⟩
  refine wpAny_Call_Name_kw (ld_glob I hg hm ?_ hdb)
  exact PySem.W.callWith_K0 I.kIn hk (run_fnS (us := []) G hr hb (hx σ) I .nil h)
theorem g_call0 {n : Nat} {x : Str} {i : Nat} (C : Callee X ec F n x i) (hr : Room n X.A) (tk : L2N.Takes X W) (hg : Gl X x) (hd : (x == ("__debug__" : Str)) = false) : GE X ec F W (.Call (.Name x p) [] [] pos) (.call i .nil) := by
  obtain ⟨f, fd, ps, hm, hk, hb, G⟩ := C.ok
  refine PE.imp (run_fnS0 (E := WE W) G hr hg hm hk hb (L2N.passAt tk) hd) fun σ H Q ⟨φ, δ, S, rs, re, h⟩ => ?_
  unfold ev evs at h
  rw [R.bind_ok] at h
  exact ⟨φ, S, [], rs, .nil, out_W h⟩
/-! ### methods of lists -/
def mthName : Mth → Str
  | .append => "append" | .reverse => "reverse" | .pop => "pop" | .count => "count" | .index => "index" | .insert => "insert" | .extend => "extend" | .cat => ""
def plainBase : Expr → Bool
  | .Call _ _ _ _ => false
  | _ => true
theorem base_plain (f : Str) (env : PySem.Env) (w : Sem Value) {o : Expr} (h : plainBase o = true) : attributeBase o f env w = w := by
  cases o <;> first | rfl | cases h
theorem few_one (env : PySem.Env) (hs : noStar e = true) : ((backTo pos (starEach [e] env)).all (fun x => !x.1) && (backToKw pos (keywordEach [] env)).all (fun x => x.1.isSome) && decide ([e].length + ([] : List Keyword).length + (if ([] : List Keyword).isEmpty then 0 else 1) < 30)) = true := by
  rw [plain_all env pos (show noStars [e] = true by unfold noStars; simp [hs])]
  rfl
theorem rMt_of {K : PySem.W.Frag} {σ : St} {φ : Phi} {H : Hp} {δ : Env} {S : Store} {Q : VK} {m : Mth} (rs : Rs K φ S H) (re : RE K φ H δ σ) (h : OutG (Rv K) K ec W σ φ H (ev F (.mth m co ca) δ S) Q) :
    tBM K "list" (rMt K m) (rdE K ec F W co) (rdA K ec F W ca) σ H Q := by
  unfold ev at h
  refine ⟨φ, δ, S, rs, re, h.bind.mono fun v H1 ⟨φ1, x, S1, e1, rs1, r1, h1⟩ => ?_⟩
  cases e2 : seqL S1 x with
  | none => simp only [e2] at h1; exact h1.elim
  | some ls =>
    simp only [e2] at h1
    obtain ⟨q, ys, rfl, hq, _⟩ := seqL_at rs1 r1 e2
    refine ⟨.inl ⟨rfl, ys, SqL.of hq⟩, φ1, δ, S1, rs1, re.ext e1, h1.bind.mono fun us H2 ⟨φ2, ds, S2, e3, rs2, r2, h2⟩ => ?_⟩
    refine ⟨φ2, S2, x, ds, rs2, r1.ext e3, r2, ?_⟩
    cases e4 : mthEv m x ds S2 with
    | none => rw [e4] at h2; exact h2.elim
    | some o =>
      obtain ⟨d, S'⟩ := o
      rw [e4] at h2
      exact fun v H' ex rs' r' => h2 φ2 v H' ex rs' r'
theorem g_append (hb : plainBase o = true) (hl : (apos.endLine == pos.line) = true) (hs : noStar e = true) (ho : GE X ec F W o co) (ha : GA X ec F W [e] ca) : GE X ec F W (.Call (.Attribute o "append" apos) [e] [] pos) (.mth .append co ca) :=
  PE.imp (pe_bm PySem.F.plainAttrs_list PySem.F.slot_list_append PySem.F.type_list_append z_append ho ha (base_plain _ _ _ hb) (few_one X.env hs) hl (starEach_of e [] X.env (noStar_of hs)) rfl) fun σ H Q ⟨φ, δ, S, rs, re, h⟩ => rMt_of rs re h
theorem rMt0_of {K : PySem.W.Frag} {σ : St} {φ : Phi} {H : Hp} {δ : Env} {S : Store} {Q : VK} {m : Mth} (rs : Rs K φ S H) (re : RE K φ H δ σ) (h : OutG (Rv K) K ec W σ φ H (ev F (.mth m co .nil) δ S) Q) :
    tBM0 K "list" (rMt K m) (rdE K ec F W co) σ H Q := by
  unfold ev at h
  refine ⟨φ, δ, S, rs, re, h.bind.mono fun v H1 ⟨φ1, x, S1, e1, rs1, r1, h1⟩ => ?_⟩
  cases e2 : seqL S1 x with
  | none => simp only [e2] at h1; exact h1.elim
  | some ls =>
    simp only [e2] at h1
    unfold evs at h1
    rw [R.bind_ok] at h1
    obtain ⟨q, ys, rfl, hq, _⟩ := seqL_at rs1 r1 e2
    refine ⟨.inl ⟨rfl, ys, SqL.of hq⟩, φ1, S1, x, [], rs1, r1, .nil, ?_⟩
    cases e4 : mthEv m x [] S1 with
    | none => rw [e4] at h1; exact h1.elim
    | some o =>
      obtain ⟨d, S'⟩ := o
      rw [e4] at h1
      exact fun v H' ex rs' r' => h1 φ1 v H' ex rs' r'
theorem g_reverse (hb : plainBase o = true) (hl : (apos.endLine == pos.line) = true) (ho : GE X ec F W o co) : GE X ec F W (.Call (.Attribute o "reverse" apos) [] [] pos) (.mth .reverse co .nil) :=
  PE.imp (pe_bm0 PySem.F.plainAttrs_list PySem.F.slot_list_reverse PySem.F.type_list_reverse z_reverse ho (base_plain _ _ _ hb) hl) fun σ H Q ⟨φ, δ, S, rs, re, h⟩ => rMt0_of rs re h
theorem g_pop (hb : plainBase o = true) (hl : (apos.endLine == pos.line) = true) (ho : GE X ec F W o co) : GE X ec F W (.Call (.Attribute o "pop" apos) [] [] pos) (.mth .pop co .nil) :=
  PE.imp (pe_bm0 PySem.F.plainAttrs_list PySem.F.slot_list_pop PySem.F.type_list_pop z_pop ho (base_plain _ _ _ hb) hl) fun σ H Q ⟨φ, δ, S, rs, re, h⟩ => rMt0_of rs re h
/-! list(range(..)) -/
theorem rgV_rv {K : PySem.W.Frag} {φ : Phi} {H : Hp} (i j : Int) : Rvs K φ H (rgV i j) (rngD i j) := by
  unfold rgV rngD
  generalize (j - i).toNat = n
  have key : ∀ ks : List Nat, Rvs K φ H (ks.map fun k : Nat => V.int (i + (k : Int))) (ks.map fun k : Nat => D.int (i + (k : Int))) := fun ks => by
    induction ks with
    | nil => exact .nil
    | cons k ks ih => exact .cons (.int _) ih
  exact key _
theorem g_rgl2 {p p2 pos2 : Pos} (hc : X.calm = true) (hs : noStars [a, b] = true) (hg : Gl X "range") (hm : X.mg "range" = none) (hg2 : Gl X "list") (hm2 : X.mg "list" = none) (ha : GE X ec F W a ca) (hb : GE X ec F W b cb) : GE X ec F W (.Call (.Name "list" p2) [.Call (.Name "range" p) [a, b] [] pos2] [] pos) (.rgl ca cb) := by
  have h' : (noStar a && (noStar b && true)) = true := hs
  simp only [Bool.and_true, Bool.and_eq_true] at h'
  have s1 := starEach_of a [b] X.env (noStar_of h'.1)
  have s2 := starEach_of b [] X.env (noStar_of h'.2)
  refine PE.imp (pe_listRg hc hg2 hm2 (prg_2 hg hm ha hb s1 s2 (by rw [s2]; rfl)) rfl) fun σ H Q ⟨φ, δ, S, rs, re, h⟩ => ?_
  unfold ev at h
  refine ⟨φ, δ, S, rs, re, (OutG.bind (rel := Rv X.K) h).mono fun v H1 ⟨φ1, x, S1, e1, rs1, r1, h1⟩ => ?_⟩
  refine ⟨φ1, δ, S1, rs1, re.ext e1, (OutG.bind (rel := Rv X.K) h1).mono fun u H2 ⟨φ2, y, S2, e2, rs2, r2, h2⟩ => ?_⟩
  cases r1 with
  | int i =>
    cases r2 with
    | int j =>
      by_cases hz : small62 i ∧ small62 j ∧ (j - i).toNat ≤ 2 ^ 24
      · simp only [if_pos hz] at h2
        have h3 : ∀ φ' v H', Ext φ2 H2 φ' H' → Rs X.K φ' S2 H' → Rv X.K φ' H' v (.lst (rngD i j)) → Q v H' := h2
        exact ⟨i, j, rfl, rfl, ⟨hz.1.1, hz.1.2, hz.2.1.1, hz.2.1.2, hz.2.2⟩, fun q hq => h3 φ2 _ _ (Ext.fresh hq) (rs2.fresh hq) (.lst upd_same (rs2.free hq) ((rgV_rv i j).ext (Ext.fresh hq)))⟩
      · simp only [if_neg hz] at h2
        exact (show False from h2).elim
    | _ => exact (show False from h2).elim
  | _ => exact (show False from h2).elim
theorem setd_m {o a b : Expr} {apos : Pos} {m : Str} (h1 : plainBase o = true) (h2 : (apos.endLine == pos.line) = true) (hs : noStars [a, b] = true) : M2 X o m apos a b pos := by
  have h' : (noStar a && (noStar b && true)) = true := hs
  simp only [Bool.and_true, Bool.and_eq_true] at h'
  have s1 := starEach_of a [b] X.env (noStar_of h'.1)
  have s2 := starEach_of b [] X.env (noStar_of h'.2)
  refine ⟨base_plain _ _ _ h1, ?_, h2, ?_⟩
  · rw [plain_all X.env pos hs]
    rfl
  · rw [s1, s2]
    rfl
theorem g_setd {o e f : Expr} {co ce cf : CE} {apos : Pos} (m : M2 X o "setdefault" apos e f pos) (ho : GE X ec F W o co) (he : GE X ec F W e ce) (hf : GE X ec F W f cf) : GE X ec F W (.Call (.Attribute o "setdefault" apos) [e, f] [] pos) (.setd co ce cf) := by
  refine PE.imp (pe_dsetd ho he hf m) fun σ H Q ⟨φ, δ, S, rs, re, h⟩ => ?_
  unfold ev at h
  refine ⟨φ, δ, S, rs, re, (OutG.bind (rel := Rv X.K) h).mono fun v H1 ⟨φ1, x, S1, e1, rs1, r1, h1⟩ => ?_⟩
  cases d1 : dkOf S1 x with
  | none => simp only [d1] at h1; exact (show False from h1).elim
  | some kvs0 =>
    simp only [d1] at h1
    obtain ⟨p, a, xs0, rfl, rfl, _, _, ha0, _, _⟩ := dk_at rs1 r1 d1
    refine ⟨a, rfl, .inl ⟨xs0, .inl ha0⟩, φ1, δ, S1, rs1, re.ext e1, (OutG.bind (rel := Rv X.K) h1).mono fun u H2 ⟨φ2, y, S2, e2, rs2, r2, h2⟩ => ?_⟩
    refine ⟨φ2, δ, S2, rs2, (re.ext e1).ext e2, (OutG.bind (rel := Rv X.K) h2).mono fun w H3 ⟨φ3, z, S3, e3, rs3, r3, h3⟩ => ?_⟩
    have ra := (r1.ext e2).ext e3
    have ry := r2.ext e3
    unfold setdEv at h3
    cases c1 : S3[p]? with
    | none => simp only [c1] at h3; exact (show False from h3).elim
    | some cl =>
      cases cl with
      | dk kvs =>
        simp only [c1] at h3
        obtain ⟨p', a', xs, q1, q2, q3, q4, q5, q6, q7⟩ := dk_at (kvs := kvs) rs3 ra (by unfold dkOf; simp [c1])
        cases q1
        cases q2
        cases ek : keyOf y with
        | none => simp only [ek] at h3; exact (show False from h3).elim
        | some k =>
          simp only [ek] at h3
          by_cases hl : kvs.length < sizeLine
          · rw [if_pos hl] at h3
            have hlen : xs.length = kvs.length := by simpa using congrArg List.length q6
            obtain ⟨v1, v2⟩ := val_at (k := k) q6 q7
            refine ⟨xs, k, q5, key_at ry ek, by rw [hlen]; exact hl, fun v hv => ?_, fun hv => ?_⟩
            · cases ev0 : valD kvs k with
              | none => rw [hv, ev0] at v2; cases v2
              | some d =>
                simp only [ev0] at h3
                obtain ⟨v', hv', rv'⟩ := v1 d ev0
                rw [hv] at hv'
                cases hv'
                have h4 : ∀ φ' v H', Ext φ3 H3 φ' H' → Rs X.K φ' S3 H' → Rv X.K φ' H' v d → Q v H' := h3
                exact h4 φ3 _ H3 (Ext.refl _ _) rs3 rv'
            · cases ev0 : valD kvs k with
              | some d => rw [hv, ev0] at v2; cases v2
              | none =>
                simp only [ev0] at h3
                have h4 : ∀ φ' v H', Ext φ3 H3 φ' H' → Rs X.K φ' (S3.set p (.dk (putD kvs k z))) H' → Rv X.K φ' H' v z → Q v H' := h3
                obtain ⟨m1, m2⟩ := put_at (k := k) (r3.ext (Ext.write (o := .dK (putK xs k w)) rs3 q4)) q6 (q7.ext (Ext.write (o := .dK (putK xs k w)) rs3 q4))
                exact h4 φ3 w _ (Ext.write rs3 q4) (rs3.write q4 ⟨a, _, rfl, upd_same, m1, m2⟩) (r3.ext (Ext.write rs3 q4))
          · rw [if_neg hl] at h3
            exact (show False from h3).elim
      | lst _ => simp only [c1] at h3; exact (show False from h3).elim
      | dt _ => simp only [c1] at h3; exact (show False from h3).elim
      | gone => simp only [c1] at h3; exact (show False from h3).elim
/-! ### targets -/
def ctSlots : CT → List Nat
  | .nm i => [i]
  | .nil => []
  | .cons t ts => ctSlots t ++ ctSlots ts
  | .tp ts => ctSlots ts
/-- the slots but some are as they were -/
def Off (l : List Nat) (σ σ' : St) : Prop := σ'.length = σ.length ∧ ∀ j, j ∉ l → σ'[j]? = σ[j]?
theorem Off.set {l : List Nat} {σ σ' : St} {i : Nat} {v : Option V} (h : Off l σ σ') (hi : i ∈ l) : Off l σ (σ'.set i v) := ⟨by rw [List.length_set]; exact h.1, fun j hj => by
  rw [List.getElem?_set_ne (fun z => by subst z; exact hj hi)]
  exact h.2 j hj⟩
theorem Off.wipe {σ σ' : St} : ∀ {l own : List Nat}, Off l σ σ' → (∀ i ∈ l, i ∈ own) → L2.wipe σ' own = L2.wipe σ own := fun {l own} h k => by
  apply List.ext_getElem?
  intro j
  have go : ∀ (own : List Nat) (σ : St), (L2.wipe σ own)[j]? = if j ∈ own ∧ j < σ.length then some none else σ[j]? := fun own => by
    induction own with
    | nil => intro σ; simp [L2.wipe]
    | cons v vs ih =>
      intro σ
      unfold L2.wipe
      by_cases e : v = j
      · subst e
        by_cases hl : v < σ.length
        · rw [List.getElem?_set_self (by rw [L2.wipe_length]; exact hl), if_pos ⟨List.mem_cons_self, hl⟩]
        · rw [List.getElem?_eq_none (by rw [List.length_set, L2.wipe_length]; omega), if_neg (fun z => hl z.2), List.getElem?_eq_none (by omega)]
      · rw [List.getElem?_set_ne e, ih σ]
        simp [List.mem_cons, Ne.symm e]
  rw [go, go, h.1]
  by_cases hj : j ∈ own
  · by_cases hl : j < σ.length
    · rw [if_pos ⟨hj, hl⟩, if_pos ⟨hj, hl⟩]
    · rw [if_neg (fun z => hl z.2), if_neg (fun z => hl z.2), List.getElem?_eq_none (by rw [h.1]; omega), List.getElem?_eq_none (by omega)]
  · rw [if_neg (fun z => hj z.1), if_neg (fun z => hj z.1)]
    exact h.2 j (fun z => hj (k j z))
def rdG (K : PySem.W.Frag) (t : CT) : TG := fun v σ H Q => ∃ φ S d δ δ1, Rs K φ S H ∧ Rv K φ H v d ∧ RE K φ H δ σ ∧ stepT t d δ = some δ1 ∧ ∀ σ', RE K φ H δ1 σ' → Off (ctSlots t) σ σ' → Q σ' H
def GG (X : Cx) (tg : Expr) (t : CT) : Prop := PG X tg (rdG X.K t)
theorem PG.imp {tg : Expr} {t t' : TG} (h : PG X tg t) (k : ∀ v σ H Q, t' v σ H Q → t v σ H Q) : PG X tg t' := ⟨fun pins s σ H v u Q I r q => h.run pins s σ H v u Q I r (k v σ H Q q)⟩
theorem t_nm {i : Nat} {x : Str} (hN : X.N.Nodup) (hi : X.N[i]? = some x) (hx : Loc X.env.scope x) (hf : X.fn x = true ∨ X.env.scope.names.lookup x = some .local) : GG X (.Name x pos) (.nm i) := by
  refine PG.imp (pg_name hN hi hx hf) fun v σ H Q ⟨φ, S, d, δ, δ1, rs, r, re, h, k⟩ => ?_
  by_cases hl : i < δ.length
  · simp only [stepT, if_pos hl, Option.some.injEq] at h
    subst h
    exact k _ (re.set r) (Off.set ⟨rfl, fun _ _ => rfl⟩ (by simp [ctSlots]))
  · simp only [stepT, if_neg hl] at h
    cases h
/-- the parts of a tuple target -/
def rdGs (K : PySem.W.Frag) (t : CT) : TGs := fun vs σ H Q => ∃ φ S ds δ δ1, Rs K φ S H ∧ Rvs K φ H vs ds ∧ RE K φ H δ σ ∧ stepT.go t ds δ = some δ1 ∧ ∀ σ', RE K φ H δ1 σ' → Off (ctSlots t) σ σ' → Q σ' H
def GGs (X : Cx) (ts : List Expr) (t : CT) : Prop := PGs X ts (rdGs X.K t)
theorem PGs.imp {tg : List Expr} {t t' : TGs} (h : PGs X tg t) (k : ∀ v σ H Q, t' v σ H Q → t v σ H Q) : PGs X tg t' := ⟨fun pins s σ H v u Q I r q => h.run pins s σ H v u Q I r (k v σ H Q q)⟩
theorem ts_nil : GGs X [] .nil := PGs.imp pgs_nil fun vs σ H Q ⟨φ, S, ds, δ, δ1, rs, r, re, h, k⟩ => by
  cases r with
  | nil =>
    have h' : some δ = some δ1 := by simpa [stepT.go] using h
    cases h'
    exact ⟨rfl, k σ re ⟨rfl, fun _ _ => rfl⟩⟩
  | cons r rs => simp [stepT.go] at h
theorem assignEach_of (e : Expr) (es : List Expr) (env : PySem.Env) (h : ∀ x p, e ≠ .Starred x p) : assignEach (e :: es) env = (false, assign e env) :: assignEach es env := by
  cases e <;> first | rfl | exact absurd rfl (h _ _)
theorem ts_cons {i : Nat} {x : Str} {px : Pos} {ts : List Expr} {cts : CT} (h1 : GG X (.Name x px) (.nm i)) (h2 : GGs X ts cts) : GGs X (.Name x px :: ts) (.cons (.nm i) cts) := by
  refine PGs.imp (pgs_cons h1 h2 rfl) fun vs σ H Q ⟨φ, S, ds, δ, δ1, rs, r, re, h, k⟩ => ?_
  cases r with
  | nil => simp [stepT.go] at h
  | @cons v vs d ds r rr =>
    by_cases hl : i < δ.length
    · have h' : stepT.go cts ds (δ.set i (some d)) = some δ1 := by simpa [stepT.go, hl] using h
      refine ⟨v, vs, rfl, φ, S, d, δ, δ.set i (some d), rs, r, re, by simp [stepT, hl], fun σ' re' off => ?_⟩
      refine ⟨φ, S, ds, _, δ1, rs, rr, re', h', fun σ2 re2 off2 => k σ2 re2 ⟨off2.1.trans off.1, fun j hj => ?_⟩⟩
      have hj' : j ∉ ctSlots (.nm i) ∧ j ∉ ctSlots cts := by simpa [ctSlots] using hj
      rw [off2.2 j hj'.2, off.2 j hj'.1]
    · simp [stepT.go, hl] at h
def ctLen : CT → Nat
  | .cons _ ts => ctLen ts + 1
  | _ => 0
theorem go_len : ∀ {t : CT} {ds : List D} {δ δ1 : Env}, stepT.go t ds δ = some δ1 → ds.length = ctLen t
  | .nil, [], _, _, _ => rfl
  | .nil, _ :: _, _, _, h => by simp [stepT.go] at h
  | .nm _, [], _, _, h => by simp [stepT.go] at h
  | .nm _, _ :: _, _, _, h => by simp [stepT.go] at h
  | .tp _, [], _, _, h => by simp [stepT.go] at h
  | .tp _, _ :: _, _, _, h => by simp [stepT.go] at h
  | .cons _ _, [], _, _, h => by simp [stepT.go] at h
  | .cons (.nm i) ts, d :: ds, δ, δ1, h => by
    by_cases hl : i < δ.length
    · have h' : stepT.go ts ds (δ.set i (some d)) = some δ1 := by simpa [stepT.go, hl] using h
      rw [List.length_cons, go_len h']
      rfl
    · simp [stepT.go, hl] at h
  | .cons .nil _, _ :: _, _, _, h => by simp [stepT.go] at h
  | .cons (.cons _ _) _, _ :: _, _, _, h => by simp [stepT.go] at h
  | .cons (.tp _) _, _ :: _, _, _, h => by simp [stepT.go] at h
theorem t_tp {ts : List Expr} {cts : CT} {k : Nat} (hc : X.calm = true) (h : GGs X ts cts) (hn : (assignEach ts X.env).length = ctLen cts) (hst : (assignEach ts X.env).findIdx? (·.1) = none) : GG X (.Tuple ts k pos) (.tp cts) := by
  refine ⟨fun pins s σ H v u Q I rr ⟨φ, S, d, δ, δ1, rs, r, re, e, kk⟩ => ?_⟩
  cases r with
  | @tup a xs ds t r =>
    have h' : stepT.go cts ds δ = some δ1 := by simpa [stepT] using e
    exact (pg_tup hc h hn hst).run pins s σ H _ u Q I rr ⟨a, xs, rfl, t.sq, by rw [r.len, go_len h'], φ, S, ds, δ, δ1, rs, r, re, h', fun σ' re' off => kk σ' re' off⟩
  | @lst a xs ds t f r =>
    have h' : stepT.go cts ds δ = some δ1 := by simpa [stepT] using e
    exact (pg_unl hc h hn hst).run pins s σ H _ u Q I rr ⟨a, xs, rfl, .inl (.inl t), by rw [r.len, go_len h'], φ, S, ds, δ, δ1, rs, r, re, h', fun σ' re' off => kk σ' re' off⟩
  | _ => simp [stepT] at e
end
end Z

/-! Z, part G: what is walked; comprehensions; statements. -/
namespace Z
open PySem PySem.Spec PyProof.Rows L2 Classical
/-- the iterator J walks w as long as it stands -/
def WalkJ (K : PySem.W.Frag) (φ : Phi) (H : Hp) (J : It) (w : Wk) : Prop :=
  ∀ φ' S' H', Ext φ H φ' H' → Rs K φ' S' H' → w.At S' →
    (∀ (i : Nat) (d : D), w.items[i]? = some d → J.go i H' ∧ ∀ x H'', J.yld i H' x H'' → H'' = H' ∧ Rv K φ' H' x d) ∧ J.stop w.items.length H'
section
variable {X : Cx} {ec : Nat → Value} {F : Fn} {W : WX} {a b c e o tg it elt : Expr} {es rest : List Expr} {ca cb cc ce co : CE} {pos p apos : Pos}
def rdI (K : PySem.W.Frag) (ec : Nat → Value) (F : Fn) (W : WX) (c : CE) : TI := fun σ H R => ∃ φ δ S, Rs K φ S H ∧ RE K φ H δ σ ∧ OutG (fun φ H J w => WalkJ K φ H J w) K ec W σ φ H (evI F c δ S) R
def GI (X : Cx) (ec : Nat → Value) (F : Fn) (W : WX) (tg it : Expr) (c : CE) : Prop := PI X tg it (rdI X.K ec F W c)
theorem PI.imp {t t' : TI} (h : PI X tg it t) (k : ∀ σ H R, t' σ H R → t σ H R) : PI X tg it t' := ⟨fun pins s σ H R I q => h.run pins s σ H R I (k σ H R q)⟩
theorem PI.or {t t' : TI} (h : PI X tg it t) (h' : PI X tg it t') : PI X tg it (fun σ H R => t σ H R ∨ t' σ H R) := ⟨fun pins s σ H R I q => by
  rcases q with q | q
  · exact h.run pins s σ H R I q
  · exact h'.run pins s σ H R I q⟩
theorem walk_lst {K : PySem.W.Frag} {φ : Phi} {H : Hp} {a : Addr} {xs : List V} {ds : List D} {w : Wk} (hi : w.items = ds) (h : ∀ φ' S' H', Ext φ H φ' H' → Rs K φ' S' H' → w.At S' → H' a = some (.lst xs) ∧ Rvs K φ' H' xs ds) : WalkJ K φ H (Itl K a) w := fun φ' S' H' e rs at' => by
  obtain ⟨h1, h2⟩ := h φ' S' H' e rs at'
  rw [hi]
  refine ⟨fun i d hd => ?_, xs, SqL.of h1, by rw [h2.len]; exact Nat.le_refl _⟩
  obtain ⟨v, hv, rv⟩ := h2.get hd
  refine ⟨⟨xs, v, SqL.of h1, hv⟩, fun x H'' ⟨e1, k⟩ => ⟨e1, ?_⟩⟩
  have := k xs (SqL.of h1)
  rw [hv] at this
  cases this
  exact rv
theorem walk_tup {K : PySem.W.Frag} {φ : Phi} {H : Hp} {a : Addr} {xs : List V} {ds : List D} (t : TupAt K φ H a xs) (r : Rvs K φ H xs ds) : WalkJ K φ H (Itt K a) (.fix ds) := fun φ' S' H' e rs at' => by
  have t' : TupAt K φ' H' a xs := by
    rcases t with ⟨h, f⟩ | h
    · exact .inl (e.keep _ _ f h)
    · exact .inr h
  have r' := r.ext e
  refine ⟨fun i d hd => ?_, xs, t'.sq, by show xs.length ≤ ds.length; rw [r'.len]; exact Nat.le_refl _⟩
  obtain ⟨v, hv, rv⟩ := r'.get (show ds[i]? = some d from hd)
  refine ⟨⟨xs, v, t'.sq, hv⟩, fun x H'' ⟨e1, k⟩ => ⟨e1, ?_⟩⟩
  have := k xs t'.sq
  rw [hv] at this
  cases this
  exact rv
theorem walk_cel {K : PySem.W.Frag} {φ : Phi} {H : Hp} {a : Addr} {p : Nat} {ds : List D} (hp : φ.c[p]? = some (some a)) : WalkJ K φ H (Itl K a) (.cel p ds) := fun φ' S' H' e rs at' => by
  have at2 : S'[p]? = some (.lst ds) := at'
  obtain ⟨b, ys, f1, f2, f3⟩ := rs.cell p _ at2
  have eb : b = a := by
    rcases e.pre p _ hp with q | q
    · rw [q] at f1
      cases f1
      rfl
    · rw [q] at f1
      cases f1
  subst eb
  refine ⟨fun i d hd => ?_, ys, SqL.of f2, by show ys.length ≤ ds.length; rw [f3.len]; exact Nat.le_refl _⟩
  obtain ⟨v, hv, rv⟩ := f3.get (show ds[i]? = some d from hd)
  refine ⟨⟨ys, v, SqL.of f2, hv⟩, fun x H'' ⟨e1, k⟩ => ⟨e1, ?_⟩⟩
  have := k ys (SqL.of f2)
  rw [hv] at this
  cases this
  exact rv
theorem i_one (he : GE X ec F W it ce) : GI X ec F W tg it (.one ce) := by
  refine PI.imp (PI.or (pi_list he) (PI.or (pi_tup he) (pi_str he))) fun σ H R ⟨φ, δ, S, rs, re, h⟩ => ?_
  unfold evI at h
  cases e1 : ev F ce δ S with
  | stuck => rw [e1] at h; exact h.elim
  | exc c a S' =>
    rw [e1] at h
    refine .inl ⟨φ, δ, S, rs, re, ?_⟩
    rw [e1]
    exact h
  | ok d S' =>
    rw [e1, Z.R.bind_ok] at h
    have tupcase : ∀ ds, d = .tup ds → iTup X.K (rdE X.K ec F W ce) σ H R := fun ds ed => by
      subst ed
      refine ⟨φ, δ, S, rs, re, ?_⟩
      rw [e1]
      intro φ' v H' ex rs' r'
      cases r' with
      | @tup a xs ds t r =>
        exact ⟨a, rfl, ⟨xs, t.sq⟩, (show ∀ φ' J H', Ext φ H φ' H' → Rs X.K φ' S' H' → WalkJ X.K φ' H' J (.fix ds) → R J H' from h) φ' _ H' ex rs' (walk_tup t r)⟩
    cases d with
    | tup ds => exact .inr (.inl (tupcase ds rfl))
    | lst ds =>
      refine .inl ⟨φ, δ, S, rs, re, ?_⟩
      rw [e1]
      intro φ' v H' ex rs' r'
      cases r' with
      | @lst a xs ds h1 h2 r =>
        exact ⟨a, rfl, ⟨xs, SqL.of h1⟩, (show ∀ φ' J H', Ext φ H φ' H' → Rs X.K φ' S' H' → WalkJ X.K φ' H' J (.fix ds) → R J H' from h) φ' _ H' ex rs' (walk_lst rfl fun φ2 S2 H2 e2 rs2 _ => ⟨(e2.keep _ _ h2 h1).1, r.ext e2⟩)⟩
    | ref i =>
      have h0 := h
      unfold walkSeq at h0
      cases e2 : S'[i]? with
      | none => simp only [e2] at h0; exact h0.elim
      | some cl =>
        cases cl with
        | lst ds =>
          simp only [e2] at h0
          refine .inl ⟨φ, δ, S, rs, re, ?_⟩
          rw [e1]
          intro φ' v H' ex rs' r'
          obtain ⟨a, xs, rfl, h1, h2, h3⟩ := cell_at rs' r' e2
          exact ⟨a, rfl, ⟨xs, SqL.of h2⟩, (show ∀ φ' J H', Ext φ H φ' H' → Rs X.K φ' S' H' → WalkJ X.K φ' H' J (.cel i ds) → R J H' from h0) φ' _ H' ex rs' (walk_cel h1)⟩
        | dk _ => simp only [e2] at h0; exact (show False from h0).elim
        | dt _ => simp only [e2] at h0; exact (show False from h0).elim
        | gone => simp only [e2] at h0; exact (show False from h0).elim
    | str x =>
      right; right
      refine ⟨φ, δ, S, rs, re, ?_⟩
      rw [e1]
      intro φ' v H' ex rs' r'
      cases r'
      refine ⟨x, rfl, (show ∀ φ' J H', Ext φ H φ' H' → Rs X.K φ' S' H' → WalkJ X.K φ' H' J (.fix (x.cps.toList.map fun c => .str ⟨#[c]⟩)) → R J H' from h) φ' _ H' ex rs' ?_⟩
      intro φ2 S2 H2 _ _ _
      refine ⟨fun i d hd => ?_, by show x.cps.size ≤ _; simp [Wk.items]⟩
      have hd' : (x.cps.toList.map fun c => D.str ⟨#[c]⟩)[i]? = some d := hd
      rw [List.getElem?_map] at hd'
      obtain ⟨cc, hcc, rfl⟩ := Option.map_eq_some_iff.mp hd'
      have hlt : i < x.cps.size := by
        have := (List.getElem?_eq_some_iff.mp hcc).1
        simpa using this
      refine ⟨hlt, fun y H'' ⟨e4, cd, hcd, ey⟩ => ⟨e4, ?_⟩⟩
      subst ey
      have : x.cps.toList[i]? = some cd := by simpa using hcd
      rw [this] at hcc
      cases hcc
      exact .str _
    | _ => exact h.elim

theorem walk_rng {K : PySem.W.Frag} {φ : Phi} {H : Hp} (lo hi : Int) : WalkJ K φ H (Itr lo (hi - lo).toNat) (.fix (rngD lo hi)) := fun φ' S' H' e rs at' => by
  refine ⟨fun i d hd => ?_, by show (hi - lo).toNat ≤ _; simp [Wk.items, rngD]⟩
  have hd' : (rngD lo hi)[i]? = some d := hd
  unfold rngD at hd'
  rw [List.getElem?_map] at hd'
  obtain ⟨k, hk, rfl⟩ := Option.map_eq_some_iff.mp hd'
  obtain ⟨h1, h2⟩ := List.getElem?_eq_some_iff.mp hk
  rw [List.length_range] at h1
  rw [List.getElem_range] at h2
  subst h2
  exact ⟨h1, fun x H'' ⟨e1, e2⟩ => ⟨e1, by subst e2; exact .int _⟩⟩
theorem i_rng2 (hs : noStars [a, b] = true) (hg : Gl X "range") (hm : X.mg "range" = none) (ha : GE X ec F W a ca) (hb : GE X ec F W b cb) : GI X ec F W tg (.Call (.Name "range" p) [a, b] [] pos) (.rng ca cb) := by
  have h' : (noStar a && (noStar b && true)) = true := hs
  simp only [Bool.and_true, Bool.and_eq_true] at h'
  have s1 := starEach_of a [b] X.env (noStar_of h'.1)
  have s2 := starEach_of b [] X.env (noStar_of h'.2)
  refine PI.imp (pi_range2 hg hm (pa_cons ha (pa_cons hb pa_nil s2) s1) (by rw [s1, s2]; rfl) (by rw [s2]; rfl)) fun σ H R ⟨φ, δ, S, rs, re, h⟩ => ?_
  unfold evI at h
  refine ⟨φ, δ, S, rs, re, (OutG.bind (rel := Rv X.K) h).mono fun v H1 ⟨φ1, x, S1, e1, rs1, r1, h1⟩ => ?_⟩
  refine ⟨φ1, δ, S1, rs1, re.ext e1, (OutG.bind (rel := Rv X.K) h1).mono fun u H2 ⟨φ2, y, S2, e2, rs2, r2, h2⟩ => ?_⟩
  cases r1 with
  | int i =>
    cases r2 with
    | int j =>
      by_cases hz : small62 i ∧ small62 j
      · simp only [if_pos hz] at h2
        exact ⟨i, j, rfl, ⟨hz.1.1, hz.1.2, hz.2.1, hz.2.2⟩, h2 φ2 _ H2 (Ext.refl _ _) rs2 (walk_rng i j)⟩
      · simp only [if_neg hz] at h2
        exact (show False from h2).elim
    | _ => exact (show False from h2).elim
  | _ => exact (show False from h2).elim
theorem i_rng1 (hs : noStar b = true) (hg : Gl X "range") (hm : X.mg "range" = none) (hb : GE X ec F W b cb) : GI X ec F W tg (.Call (.Name "range" p) [b] [] pos) (.rng (.con (.int 0)) cb) := by
  have s2 := starEach_of b [] X.env (noStar_of hs)
  refine PI.imp (pi_range1 hg hm (pa_cons hb pa_nil s2) (by rw [s2]; rfl)) fun σ H R ⟨φ, δ, S, rs, re, h⟩ => ?_
  unfold evI at h
  rw [ev_con, Z.R.bind_ok] at h
  refine ⟨φ, δ, S, rs, re, (OutG.bind (rel := Rv X.K) h).mono fun u H2 ⟨φ2, y, S2, e2, rs2, r2, h2⟩ => ?_⟩
  cases r2 with
  | int j =>
    by_cases hz : small62 0 ∧ small62 j
    · simp only [if_pos hz] at h2
      have e0 : j.toNat = (j - 0).toNat := by rw [Int.sub_zero]
      refine ⟨j, rfl, hz.2.1, hz.2.2, ?_⟩
      rw [e0]
      exact h2 φ2 _ H2 (Ext.refl _ _) rs2 (walk_rng 0 j)
    · simp only [if_neg hz] at h2
      exact (show False from h2).elim
  | _ => exact (show False from h2).elim
/-! ### list comprehensions -/
theorem compEv_ok {elt cond : Env → Store → R D} {t : CT} {w : Wk} {δ : Env} {own : List Nat} : ∀ {ds acc : List D} {S : Store}, compEv elt cond t w δ own ds acc S ≠ .stuck → ∃ es S', compEv elt cond t w δ own ds acc S = .ok es S'
  | [], acc, S, h => by
    unfold compEv at h ⊢
    by_cases hw : w.At S
    · rw [if_pos hw]; exact ⟨_, _, rfl⟩
    · rw [if_neg hw] at h; exact absurd rfl h
  | d :: ds, acc, S, h => by
    unfold compEv at h ⊢
    by_cases hw : w.At S
    · simp only [if_pos hw] at h ⊢
      cases e1 : stepT t d (wipeD δ own) with
      | none => simp only [e1] at h; exact absurd rfl h
      | some δ1 =>
        simp only [e1] at h ⊢
        by_cases hz : acc.length < sizeLine
        · simp only [if_pos hz] at h ⊢
          cases e2 : cond δ1 S with
          | stuck => simp only [e2] at h; exact absurd rfl h
          | exc c a S1 => simp only [e2] at h; exact absurd rfl h
          | ok x S1 =>
            cases x with
            | bl b =>
              cases b with
              | true =>
                simp only [e2] at h ⊢
                cases e3 : elt δ1 S1 with
                | stuck => simp only [e3] at h; exact absurd rfl h
                | exc c a S1 => simp only [e3] at h; exact absurd rfl h
                | ok y S2 =>
                  simp only [e3] at h ⊢
                  exact compEv_ok h
              | false =>
                simp only [e2] at h ⊢
                exact compEv_ok h
            | _ => simp only [e2] at h; exact absurd rfl h
        · simp only [if_neg hz] at h
          exact absurd rfl h
    · simp only [if_neg hw] at h
      exact absurd rfl h
/-- no exception leaves a comprehension -/
abbrev W0 : WX := fun _ _ _ _ => False
/-- what a tests' list is -/
def GTs (X : Cx) (ec : Nat → Value) (F : Fn) (W : WX) (ifs : List Expr) (c : CE) : Prop := PTs X ifs (rdT X.K ec F W c)
theorem PTs.imp {ifs : List Expr} {t t' : TT} (h : PTs X ifs t) (k : ∀ σ H Q, t' σ H Q → t σ H Q) : PTs X ifs t' := ⟨fun pins s σ H Q I q => h.run pins s σ H Q I (k σ H Q q)⟩
theorem ifs_nil : GTs X ec F W [] (.con (.bl true)) := PTs.imp pts_nil fun σ H Q ⟨φ, δ, S, rs, re, _, h⟩ => by
  rw [ev_con] at h
  exact h φ true H (Ext.refl _ _) rs rfl
theorem ifs_one (h : GT X ec F W c cc) : GTs X ec F W [c] cc := pts_one h
theorem tLc_of {K : PySem.W.Frag} {ec : Nat → Value} {F : Fn} {W : WX} {ce cc ci : CE} {t : CT} {own : List Nat} {isM : Bool} {σ : St} {H : Hp} {Q : VK} (hsl : ∀ i ∈ ctSlots t, i ∈ own) (h : rdE K ec F W (.comp ce t ci cc own isM) σ H Q) :
    tLc (rdI K ec F W ci) (rdG K t) (rdT K ec F W0 cc) (rdE K ec F W0 ce) own σ H Q := by
  obtain ⟨φ, δ, S, rs, re, h⟩ := h
  unfold ev at h
  refine ⟨φ, δ, S, rs, re, (OutG.bind (rel := fun φ H J w => WalkJ K φ H J w) h).mono fun J H1 ⟨φ1, w, S1, e1, rs1, wj, h1⟩ => ?_⟩
  intro L hL
  have re1 := re.ext e1
  generalize hk : (fun (ds : List D) (S2 : Store) => if isM = true then Z.R.ok (D.ref S2.length) (S2 ++ [Cell.lst ds]) else Z.R.ok (D.lst ds) S2) = k at h1
  -- the list at L is being made
  let Ph : Nat → Hp → Prop := fun i H => ∃ φ' S' acc xs, Ext φ1 H1 φ' H ∧ Rs K φ' S' H ∧ L ∈ φ'.h ∧ H L = some (.lst xs) ∧ Rvs K φ' H xs acc ∧
    OutG (Rv K) K ec W σ φ1 H1 ((compEv (ev F ce) (ev F cc) t w δ own (w.items.drop i) acc S').bind k) Q
  refine ⟨fun i m H => m + i = w.items.length ∧ Ph i H, ⟨w.items.length, by omega, φ1.hide L, S1, [], [], Ext.hide hL, rs1.hide hL, List.mem_cons_self, upd_same, .nil, h1⟩, ?_⟩
  rintro i m H2 ⟨hm, φ2, S2, acc, xs, e2, rs2, lh, lx, racc, h2⟩
  have ns : compEv (ev F ce) (ev F cc) t w δ own (w.items.drop i) acc S2 ≠ .stuck := fun z => by
    rw [z] at h2
    exact h2
  by_cases hi : i < w.items.length
  · right
    have hd : w.items[i]? = some w.items[i] := by simp [hi]
    have hdr : w.items.drop i = w.items[i] :: w.items.drop (i + 1) := List.drop_eq_getElem_cons hi
    rw [hdr] at h2 ns
    generalize w.items[i] = d at hd h2 ns
    unfold compEv at h2 ns
    by_cases hw : w.At S2
    · simp only [if_pos hw] at h2 ns
      obtain ⟨hgo, hyd⟩ := (wj φ2 S2 H2 e2 rs2 hw).1 i d hd
      refine ⟨hgo, Ph (i + 1), fun H' q => ⟨m - 1, by omega, by omega, q⟩, fun x H3 y => ?_⟩
      obtain ⟨rfl, rx⟩ := hyd x H3 y
      cases e3 : stepT t d (wipeD δ own) with
      | none => simp only [e3] at ns; exact absurd rfl ns
      | some δ1 =>
        simp only [e3] at h2 ns
        by_cases hz : acc.length < sizeLine
        · simp only [if_pos hz] at h2 ns
          refine ⟨φ2, S2, d, wipeD δ own, δ1, rs2, rx, (re1.ext e2).wipe, e3, fun σ2 re2 off => ?_⟩
          refine ⟨?_, φ2, δ1, S2, rs2, re2, fun dd S' e => ?_, ?_⟩
          · have q := Off.wipe off hsl
            have ww : ∀ (own own' : List Nat) (σ : St), (∀ i ∈ own', i ∈ own) → L2.wipe (L2.wipe σ own) own' = L2.wipe σ own := fun own own' => by
              induction own' with
              | nil => intro σ _; rfl
              | cons v vs ih =>
                intro σ hs
                show (L2.wipe (L2.wipe σ own) vs).set v none = _
                rw [ih σ fun i hi => hs i (List.mem_cons_of_mem _ hi)]
                have hv := hs v List.mem_cons_self
                have gw : ∀ (own : List Nat), v ∈ own → (L2.wipe σ own).set v none = L2.wipe σ own := fun own => by
                  induction own with
                  | nil => intro z; cases z
                  | cons u us ih =>
                    intro z
                    show ((L2.wipe σ us).set u none).set v none = (L2.wipe σ us).set u none
                    rcases List.mem_cons.mp z with z | z
                    · subst z
                      exact List.set_set ..
                    · by_cases huv : u = v
                      · subst huv
                        exact List.set_set ..
                      · rw [List.set_comm _ _ huv, ih z]
                exact gw own hv
            rw [ww own own σ fun i hi => hi] at q
            exact q
          · rw [e] at ns
            cases dd with
            | bl b => exact ⟨b, rfl⟩
            | _ => exact absurd rfl ns
          · cases e4 : ev F cc δ1 S2 with
            | stuck => simp only [e4] at ns; exact absurd rfl ns
            | exc c a S3 => simp only [e4] at ns; exact absurd rfl ns
            | ok x1 S3 =>
              cases x1 with
              | bl bb =>
                intro φ4 b4 H4 e5 rs4 r4
                cases r4
                obtain ⟨lx4, lh4⟩ := e5.hid L _ lh lx
                cases bb with
                | false =>
                  rw [if_neg Bool.false_ne_true]
                  simp only [e4] at h2
                  exact ⟨φ4, S3, acc, xs, e2.trans e5, rs4, lh4, lx4, racc.ext e5, h2⟩
                | true =>
                  rw [if_pos rfl]
                  simp only [e4] at h2 ns
                  refine ⟨φ4, δ1, S3, rs4, re2.ext e5, ?_⟩
                  cases e6 : ev F ce δ1 S3 with
                  | stuck => simp only [e6] at ns; exact absurd rfl ns
                  | exc c a S3 => simp only [e6] at ns; exact absurd rfl ns
                  | ok y S5 =>
                    simp only [e6] at h2
                    intro φ5 v5 H5 e7 rs5 r5
                    obtain ⟨lx5, lh5⟩ := e7.hid L _ lh4 lx4
                    refine ⟨xs, lx5, by rw [racc.len]; exact hz, ?_⟩
                    refine ⟨φ5, S5, acc ++ [y], xs ++ [v5], ((e2.trans e5).trans e7).hwrite hL, rs5.hwrite lh5, lh5, upd_same, ?_, h2⟩
                    exact (((racc.ext e5).ext e7).app (.cons r5 .nil)).ext0 (Ext0.hwrite lh5)
              | _ => simp only [e4] at ns; exact absurd rfl ns
        · simp only [if_neg hz] at ns
          exact absurd rfl ns
    · simp only [if_neg hw] at ns
      exact absurd rfl ns
  · left
    have ei : i = w.items.length := by omega
    subst ei
    rw [List.drop_length] at h2 ns
    unfold compEv at h2 ns
    by_cases hw : w.At S2
    · simp only [if_pos hw] at h2 ns
      refine ⟨(wj φ2 S2 H2 e2 rs2 hw).2, ?_⟩
      rw [Z.R.bind_ok, ← hk] at h2
      dsimp only at h2
      cases isM with
      | true =>
        rw [if_pos rfl] at h2
        refine h2 (φ2.bareA L) (.ref L) H2 (e2.bareA hL lh) (rs2.bareA lh lx racc) (.ref (o := some L) ?_ (.inr rfl))
        show (φ2.c ++ [some L])[S2.length]? = _
        rw [← rs2.len, List.getElem?_append_right (Nat.le_refl _), Nat.sub_self]
        rfl
      | false =>
        rw [if_neg Bool.false_ne_true] at h2
        exact h2 (φ2.bare L) (.ref L) H2 (e2.bare hL) rs2.bare (.lst lx (free_bare rs2 lh) (racc.ext0 Ext0.bare))
    · simp only [if_neg hw] at ns
      exact absurd rfl ns

theorem g_comp {own : List (Str × Nat)} {ifs : List Expr} {scope : Scope} {t : CT} {isM : Bool} (hc : X.calm = true) (hN : X.N.Nodup) (hi : GI X ec F W tg it ca) (ok : BlkOk X.N X.env.scope scope own)
    (hg : ∀ (s : Shared) (H : Hp) (C : Addr) (cl : List (Str × Addr)) (fp : List Addr), GG (X.blk s H scope (compEnvC scope cl C X.env) fp) tg t)
    (ht : ∀ (s : Shared) (H : Hp) (C : Addr) (cl : List (Str × Addr)) (fp : List Addr), GTs (X.blk s H scope (compEnvC scope cl C X.env) fp) ec F W0 ifs cc)
    (he : ∀ (s : Shared) (H : Hp) (C : Addr) (cl : List (Str × Addr)) (fp : List Addr), GE (X.blk s H scope (compEnvC scope cl C X.env) fp) ec F W0 elt ce) (hs : ∀ x, foldedSetIterable it X.env x = pure x)
    (hsl : ∀ i ∈ ctSlots t, i ∈ own.map (·.2)) : GE X ec F W (.ListComp elt [⟨tg, it, ifs, 0⟩] scope pos) (.comp ce t ca cc (own.map (·.2)) isM) :=
  PE.imp (pe_lc (g := rdG X.K t) (tt := rdT X.K ec F W0 cc) (te := rdE X.K ec F W0 ce) hc hN hi ok hg ht he hs) fun _ _ _ h => tLc_of hsl h
/-! ### statements -/
def OutS (K : PySem.W.Frag) (ec : Nat → Value) (W : WX) (D : Ends) (φ : Phi) (H : Hp) (r : SR) : Prop := match r with
  | .nx δ' S' => ∀ φ' σ' H', Ext φ H φ' H' → Rs K φ' S' H' → RE K φ' H' δ' σ' → D.nx σ' H'
  | .rt d S' => ∀ φ' v H', Ext φ H φ' H' → Rs K φ' S' H' → Rv K φ' H' v d → D.rt v H'
  | .bk δ' S' => ∀ φ' σ' H', Ext φ H φ' H' → Rs K φ' S' H' → RE K φ' H' δ' σ' → D.bk σ' H'
  | .xc c a δ' S' => ∀ φ' σ' H' dd, Ext φ H φ' H' → Rs K φ' S' H' → RE K φ' H' δ' σ' → Xd K φ' H' a dd → W (ec c) dd σ' H'
  | .stuck => False
def rdS (K : PySem.W.Frag) (ec : Nat → Value) (F : Fn) (W : WX) (c : CS) : TS := fun D σ H => ∃ φ δ S, Rs K φ S H ∧ RE K φ H δ σ ∧ OutS K ec W D φ H (run F c δ S)
def GS (X : Cx) (ec : Nat → Value) (F : Fn) (W : WX) (s : Stmt) (c : CS) : Prop := PS X s (rdS X.K ec F W c)
def GSs (X : Cx) (ec : Nat → Value) (F : Fn) (W : WX) (s : List Stmt) (c : CS) : Prop := PSs X s (rdS X.K ec F W c)
section
variable {K : PySem.W.Frag} {D D' : Ends} {φ φ1 : Phi} {H H1 : Hp} {r : SR} {δ : Env} {σ : St}
theorem OutS.ext (e : Ext φ H φ1 H1) (h : OutS K ec W D φ H r) : OutS K ec W D φ1 H1 r := by
  cases r with
  | nx δ' S' => exact fun φ' v H' e' => h φ' v H' (e.trans e')
  | rt δ' S' => exact fun φ' v H' e' => h φ' v H' (e.trans e')
  | bk δ' S' => exact fun φ' v H' e' => h φ' v H' (e.trans e')
  | xc c a δ' S' => exact fun φ' v H' dd e' => h φ' v H' dd (e.trans e')
  | stuck => exact h
theorem OutS.st {α β : Type} {rel : Phi → Hp → β → α → Prop} {r : R α} {k : α → Store → SR} (re : RE K φ H δ σ) (h : OutS K ec W D φ H (r.st δ k)) :
    OutG rel K ec W σ φ H r fun v H1 => ∃ φ1 x S1, Ext φ H φ1 H1 ∧ Rs K φ1 S1 H1 ∧ rel φ1 H1 v x ∧ OutS K ec W D φ1 H1 (k x S1) := by
  cases r with
  | ok d S' => exact fun φ' v H' e' rs rv => ⟨φ', d, S', e', rs, rv, OutS.ext e' h⟩
  | exc c a S' => exact fun φ' H' dd e' rs x => h φ' σ H' dd e' rs (re.ext e') x
  | stuck => exact h
theorem nx_ok {S : Store} (h : OutS K ec W D φ H (.nx δ S)) (rs : Rs K φ S H) (re : RE K φ H δ σ) : D.nx σ H := h φ σ H (Ext.refl _ _) rs re
end
theorem PS.imp {s : Stmt} {t t' : TS} (h : PS X s t) (k : ∀ D σ H, t' D σ H → t D σ H) : PS X s t' := ⟨fun pins s σ H D I q => h.run pins s σ H D I (k D σ H q)⟩
theorem PSs.imp {s : List Stmt} {t t' : TS} (h : PSs X s t) (k : ∀ D σ H, t' D σ H → t D σ H) : PSs X s t' := ⟨fun pins s σ H D I q => h.run pins s σ H D I (k D σ H q)⟩
variable {st : Stmt} {sts body : List Stmt} {cs cr cb' : CS}
theorem s_pass : GS X ec F W (.Pass pos) .skip := PS.imp ps_pass fun D σ H ⟨φ, δ, S, rs, re, h⟩ => nx_ok h rs re
theorem s_doc {x j p'} : GS X ec F W (.Expr (.Constant (.str x) j p') pos) .skip := PS.imp ps_doc fun D σ H ⟨φ, δ, S, rs, re, h⟩ => nx_ok h rs re
theorem s_brk : GS X ec F W (.Break pos) .brk := PS.imp ps_break fun D σ H ⟨φ, δ, S, rs, re, h⟩ => h φ σ H (Ext.refl _ _) rs re
theorem ss_nil : GSs X ec F W [] .skip := PSs.imp pss_nil fun D σ H ⟨φ, δ, S, rs, re, h⟩ => nx_ok h rs re
theorem OutS.bind {K : PySem.W.Frag} {D : Ends} {φ : Phi} {H : Hp} {r : SR} {k : Env → Store → SR} {N : St → Hp → Prop} (h : OutS K ec W D φ H (r.bind k))
    (hN : ∀ φ' σ' H' δ' S', Ext φ H φ' H' → Rs K φ' S' H' → RE K φ' H' δ' σ' → OutS K ec W D φ' H' (k δ' S') → N σ' H') : OutS K ec W { D with nx := N } φ H r := by
  cases r with
  | nx δ' S' => exact fun φ' σ' H' e rs re => hN φ' σ' H' δ' S' e rs re (OutS.ext e h)
  | rt d S' => exact h
  | bk δ' S' => exact h
  | xc c a δ' S' => exact h
  | stuck => exact h
theorem ss_cons (h1 : GS X ec F W st cs) (h2 : GSs X ec F W sts cr) : GSs X ec F W (st :: sts) (.seq cs cr) := PSs.imp (pss_cons h1 h2) fun D σ H ⟨φ, δ, S, rs, re, h⟩ => by
  unfold run at h
  exact ⟨φ, δ, S, rs, re, OutS.bind h fun φ' σ' H' δ' S' e rs re h => ⟨φ', δ', S', rs, re, h⟩⟩
theorem ss_one (h1 : GS X ec F W st cs) : GSs X ec F W [st] cs := pss_one h1
theorem s_expr (he : GE X ec F W e ce) (hs : swapsWith e none pos.line X.env = pure false) : GS X ec F W (.Expr e pos) (.expr ce) := PS.imp (ps_expr he hs) fun D σ H ⟨φ, δ, S, rs, re, h⟩ => by
  unfold run at h
  refine ⟨φ, δ, S, rs, re, (OutS.st (rel := Rv X.K) re h).mono fun v H1 ⟨φ1, x, S1, e1, rs1, r1, h1⟩ => ?_⟩
  exact nx_ok h1 rs1 (re.ext e1)
theorem s_ret (he : GE X ec F W e ce) : GS X ec F W (.Return (some e) pos) (.ret ce) := PS.imp (ps_ret he) fun D σ H ⟨φ, δ, S, rs, re, h⟩ => by
  unfold run at h
  refine ⟨φ, δ, S, rs, re, (OutS.st (rel := Rv X.K) re h).mono fun v H1 ⟨φ1, x, S1, e1, rs1, r1, h1⟩ => ?_⟩
  exact h1 φ1 v H1 (Ext.refl _ _) rs1 r1
theorem s_retN : GS X ec F W (.Return none pos) (.ret (.con .non)) := PS.imp ps_retN fun D σ H ⟨φ, δ, S, rs, re, h⟩ => by
  unfold run at h
  rw [ev_con] at h
  exact h φ .non H (Ext.refl _ _) rs .non
theorem s_retF {i : Nat} {x : Str} {p' : Pos} (hN : X.N[i]? = some x) (hv : Vis X.env.scope x) (hd : (x == ("__debug__" : Str)) = false) (hcd : (x == ("__classdict__" : Str)) = false) : GS X ec F W (.Return (some (.Name x p')) pos) (.retF i) :=
  PS.imp (ps_ret (pe_var hN hv hd hcd)) fun D σ H ⟨φ, δ, S, rs, re, h⟩ => by
    unfold run at h
    cases e : δ[i]? with
    | none => simp only [e] at h; exact h.elim
    | some o =>
      cases o with
      | none => simp only [e] at h; exact h.elim
      | some d =>
        cases d with
        | ref q =>
          simp only [e] at h
          cases e2 : S[q]? with
          | none => simp only [e2] at h; exact h.elim
          | some cl =>
            cases cl with
            | lst ds =>
              simp only [e2] at h
              obtain ⟨v, h1, h2⟩ := re.2 i _ e
              obtain ⟨a, xs, rfl, h3, h4, h5⟩ := cell_at rs h2 e2
              exact ⟨_, h1, h (φ.cut q) (.ref a) H Ext.frz rs.frz (.lst h4 (free_frz rs h3) (h5.ext Ext.frz))⟩
            | dk _ => simp only [e2] at h; exact h.elim
            | dt _ => simp only [e2] at h; exact h.elim
            | gone => simp only [e2] at h; exact h.elim
        | _ => simp only [e] at h; exact h.elim
theorem s_asg {t : CT} (he : GE X ec F W e ce) (hg : GG X tg t) (hs : swapsWithSole [tg] e pos.line X.env = pure false) (hw : swappedStores [tg] e X.env = pure none) (h1 : (assignEach [tg] X.env).map (·.2) = [assign tg X.env]) :
    GS X ec F W (.Assign [tg] e pos) (.asg t ce) := PS.imp (ps_asg he hg hs hw h1) fun D σ H ⟨φ, δ, S, rs, re, h⟩ => by
  unfold run at h
  refine ⟨φ, δ, S, rs, re, (OutS.st (rel := Rv X.K) re h).mono fun v H1 ⟨φ1, x, S1, e1, rs1, r1, h1⟩ => ?_⟩
  cases e2 : stepT t x δ with
  | none => simp only [e2] at h1; exact h1.elim
  | some δ1 =>
    simp only [e2] at h1
    exact ⟨φ1, S1, x, δ, δ1, rs1, r1, re.ext e1, e2, fun σ' re' _ => nx_ok h1 rs1 re'⟩
/-- name = [.. for ..], on one line -/
theorem s_setLc {own : List (Str × Nat)} {ifs : List Expr} {scope : Scope} {t : CT} {isM : Bool} {i : Nat} {y : Str} {py : Pos} (hc : X.calm = true) (hN : X.N.Nodup) (hy : X.N[i]? = some y) (hyl : X.env.scope.names.lookup y = some .local)
    (hsw : swapsWith (.ListComp elt [⟨tg, it, ifs, 0⟩] scope p) (some (.Name y py)) pos.line X.env = pure true) (hi : GI X ec F W tg it ca) (ok : BlkOk X.N X.env.scope scope own)
    (hg : ∀ (s : Shared) (H : Hp) (C : Addr) (cl : List (Str × Addr)) (fp : List Addr), GG (X.blk s H scope (compEnvC scope cl C X.env) fp) tg t)
    (ht : ∀ (s : Shared) (H : Hp) (C : Addr) (cl : List (Str × Addr)) (fp : List Addr), GTs (X.blk s H scope (compEnvC scope cl C X.env) fp) ec F W0 ifs cc)
    (he : ∀ (s : Shared) (H : Hp) (C : Addr) (cl : List (Str × Addr)) (fp : List Addr), GE (X.blk s H scope (compEnvC scope cl C X.env) fp) ec F W0 elt ce) (hs : ∀ x, foldedSetIterable it X.env x = pure x)
    (hsl : ∀ i ∈ ctSlots t, i ∈ own.map (·.2)) : GS X ec F W (.Assign [.Name y py] (.ListComp elt [⟨tg, it, ifs, 0⟩] scope p) pos) (.asg (.nm i) (.comp ce t ca cc (own.map (·.2)) isM)) :=
  PS.imp (ps_setLc (g := rdG X.K t) (tt := rdT X.K ec F W0 cc) (te := rdE X.K ec F W0 ce) hc hN hy hyl hsw hi ok hg ht he hs) fun D σ H ⟨φ, δ, S, rs, re, h⟩ => by
    unfold run at h
    refine tLc_of (F := F) (ec := ec) (W := W) (isM := isM) hsl ⟨φ, δ, S, rs, re, (OutS.st (rel := Rv X.K) re h).mono fun v H1 ⟨φ1, x, S1, e1, rs1, r1, h1⟩ => ?_⟩
    by_cases hl : i < δ.length
    · simp only [stepT, if_pos hl] at h1
      exact nx_ok h1 rs1 ((re.ext e1).set r1)
    · simp only [stepT, if_neg hl] at h1
      exact h1.elim
/-- a, b = x, y with plain local names -/
theorem s_par {i j : Nat} {x y : Str} {px py pt : Pos} {kt k2 pt2} (hc : X.calm = true) (hN : X.N.Nodup) (hi : X.N[i]? = some x) (hj : X.N[j]? = some y) (hij : i ≠ j)
    (hx : X.env.scope.names.lookup x = some .local) (hy : X.env.scope.names.lookup y = some .local) (ha : GA X ec F W [a, b] ca)
    (hw : swappedStores [.Tuple [.Name x px, .Name y py] kt pt] (.Tuple [a, b] k2 pt2) X.env = pure (some [x, y])) (hs : swapsWithSole [.Tuple [.Name x px, .Name y py] kt pt] (.Tuple [a, b] k2 pt2) pos.line X.env = pure false) :
    GS X ec F W (.Assign [.Tuple [.Name x px, .Name y py] kt pt] (.Tuple [a, b] k2 pt2) pos) (.asg (.tp (.cons (.nm i) (.cons (.nm j) .nil))) (.tup ca)) :=
  PS.imp (ps_par hc hN hi hj hij hx hy ha hw hs) fun D σ H ⟨φ, δ, S, rs, re, h⟩ => by
    unfold run ev at h
    refine ⟨φ, δ, S, rs, re, ?_⟩
    cases e1 : evs F ca δ S with
    | stuck => rw [e1] at h; exact h
    | exc c a S1 => rw [e1] at h; exact fun φ' H' dd e' rs x => h φ' σ H' dd e' rs (re.ext e') x
    | ok ds S1 =>
      rw [e1, R.bind_ok, R.st_ok] at h
      intro φ1 vs H1 ex rs1 r1
      cases e2 : stepT (.tp (.cons (.nm i) (.cons (.nm j) .nil))) (.tup ds) δ with
      | none => rw [e2] at h; exact h.elim
      | some δ1 =>
        rw [e2] at h
        match ds, r1, e2 with
        | [d1, d2], r0, e2 =>
          obtain ⟨v, w, rfl, q1, q2⟩ := Rvs.two r0
          by_cases hl : i < δ.length
          · by_cases hl2 : j < δ.length
            · simp [stepT, stepT.go, hl, hl2] at e2
              subst e2
              exact ⟨v, w, rfl, h φ1 _ H1 ex rs1 (((re.ext ex).set q1).set q2)⟩
            · simp [stepT, stepT.go, hl, hl2] at e2
          · simp [stepT, stepT.go, hl] at e2
        | [], r0, e2 => simp [stepT, stepT.go] at e2
        | [d1], r0, e2 =>
          by_cases hl : i < δ.length <;> simp [stepT, stepT.go, hl] at e2
        | d1 :: d2 :: d3 :: dr, r0, e2 =>
          by_cases hl : i < δ.length <;> by_cases hl2 : j < δ.length <;> simp [stepT, stepT.go, hl, hl2] at e2
theorem Rvs.three {K : PySem.W.Frag} {φ : Phi} {H : Hp} {vs : List V} {a b c : D} (r : Rvs K φ H vs [a, b, c]) : ∃ u v w, vs = [u, v, w] ∧ Rv K φ H u a ∧ Rv K φ H v b ∧ Rv K φ H w c := by
  cases r with
  | cons r1 r => cases r with
    | cons r2 r => cases r with
      | cons r3 r => cases r with
        | nil => exact ⟨_, _, _, rfl, r1, r2, r3⟩
/-- a, b, c = x, y, z with plain local names -/
theorem s_par3 {i j l : Nat} {x y z : Str} {c : Expr} {px py pz pt : Pos} {kt k2 pt2} (hc : X.calm = true) (hN : X.N.Nodup) (hi : X.N[i]? = some x) (hj : X.N[j]? = some y) (hl : X.N[l]? = some z) (hij : i ≠ j) (hil : i ≠ l) (hjl : j ≠ l)
    (hx : X.env.scope.names.lookup x = some .local) (hy : X.env.scope.names.lookup y = some .local) (hz : X.env.scope.names.lookup z = some .local) (ha : GA X ec F W [a, b, c] ca)
    (hw : swappedStores [.Tuple [.Name x px, .Name y py, .Name z pz] kt pt] (.Tuple [a, b, c] k2 pt2) X.env = pure (some [x, y, z])) (hs : swapsWithSole [.Tuple [.Name x px, .Name y py, .Name z pz] kt pt] (.Tuple [a, b, c] k2 pt2) pos.line X.env = pure false) :
    GS X ec F W (.Assign [.Tuple [.Name x px, .Name y py, .Name z pz] kt pt] (.Tuple [a, b, c] k2 pt2) pos) (.asg (.tp (.cons (.nm i) (.cons (.nm j) (.cons (.nm l) .nil)))) (.tup ca)) :=
  PS.imp (ps_par3 hc hN hi hj hl hij hil hjl hx hy hz ha hw hs) fun D σ H ⟨φ, δ, S, rs, re, h⟩ => by
    unfold run ev at h
    refine ⟨φ, δ, S, rs, re, ?_⟩
    cases e1 : evs F ca δ S with
    | stuck => rw [e1] at h; exact h
    | exc c a S1 => rw [e1] at h; exact fun φ' H' dd e' rs x => h φ' σ H' dd e' rs (re.ext e') x
    | ok ds S1 =>
      rw [e1, R.bind_ok, R.st_ok] at h
      intro φ1 vs H1 ex rs1 r1
      cases e2 : stepT (.tp (.cons (.nm i) (.cons (.nm j) (.cons (.nm l) .nil)))) (.tup ds) δ with
      | none => rw [e2] at h; exact h.elim
      | some δ1 =>
        rw [e2] at h
        have e2' : stepT.go (.cons (.nm i) (.cons (.nm j) (.cons (.nm l) .nil))) ds δ = some δ1 := by simpa [stepT] using e2
        have hlen := go_len e2'
        match ds, r1, e2', hlen with
        | [d1, d2, d3], r0, e2, _ =>
          obtain ⟨v, w, u, rfl, q1, q2, q3⟩ := Rvs.three r0
          by_cases hl : i < δ.length
          · by_cases hl2 : j < δ.length
            · by_cases hl3 : l < δ.length
              · simp [stepT.go, hl, hl2, hl3] at e2
                subst e2
                exact ⟨v, w, u, rfl, h φ1 _ H1 ex rs1 ((((re.ext ex).set q1).set q2).set q3)⟩
              · simp [stepT.go, hl, hl2, hl3] at e2
            · simp [stepT.go, hl, hl2] at e2
          · simp [stepT.go, hl] at e2
/-- o[i] = e -/
theorem s_sub (hu : X.A.units + 65 < cLine) {i : Expr} {ci : CE} {p' : Pos} (he : GE X ec F W e ce) (ho : GE X ec F W o co) (hi : GE X ec F W i ci)
    (ha : ∀ v, assign (.Subscript o i p') X.env v = (do
      let ov ← holding [v] (eval o X.env)
      let iv ← holding [v, ov] (eval i X.env)
      standAt p'
      holding [v, ov, iv] (setItem ov iv v)
      release [v, ov, iv] [])) (hs : swapsWithSole [.Subscript o i p'] e pos.line X.env = pure false) (hw : swappedStores [.Subscript o i p'] e X.env = pure none) (h1 : (assignEach [.Subscript o i p'] X.env).map (·.2) = [assign (.Subscript o i p') X.env]) :
    GS X ec F W (.Assign [.Subscript o i p'] e pos) (.set co ci ce) := PS.imp (ps_asg he (pg_sub ho hi (z_set (by omega)) ha) hs hw h1) fun D σ H ⟨φ, δ, S, rs, re, h⟩ => by
  unfold run at h
  refine ⟨φ, δ, S, rs, re, (OutS.st (rel := Rv X.K) re h).mono fun v H1 ⟨φ1, x, S1, e1, rs1, r1, h1⟩ => ?_⟩
  refine ⟨φ1, δ, S1, rs1, re.ext e1, (OutS.st (rel := Rv X.K) (re.ext e1) h1).mono fun ov H2 ⟨φ2, y, S2, e2, rs2, r2, h2⟩ => ?_⟩
  refine ⟨φ2, δ, S2, rs2, (re.ext e1).ext e2, (OutS.st (rel := Rv X.K) ((re.ext e1).ext e2) h2).mono fun iv H3 ⟨φ3, z, S3, e3, rs3, r3, h3⟩ => ?_⟩
  refine ⟨φ3, S3, y, z, x, rs3, r2.ext e3, r3, r1.ext (e2.trans e3), ?_⟩
  cases e4 : setEv y z x S3 with
  | none => simp only [e4] at h3; exact h3.elim
  | some S4 =>
    simp only [e4] at h3
    exact fun H' ex rs' => h3 φ3 σ H' ex rs' ((((re.ext e1).ext e2).ext e3).ext ex)
theorem rdT_of {K : PySem.W.Frag} {φ : Phi} {H : Hp} {δ : Env} {S : Store} {σ : St} {D : Ends} {c : CE} {k1 k2 : Store → SR} (rs : Rs K φ S H) (re : RE K φ H δ σ) (h : OutS K ec W D φ H ((ev F c δ S).st δ fun x S1 => match x with
    | .bl true => k1 S1
    | .bl false => k2 S1
    | _ => .stuck)) : rdT K ec F W c σ H fun b H1 => ∃ φ1 S1, Rs K φ1 S1 H1 ∧ RE K φ1 H1 δ σ ∧ OutS K ec W D φ1 H1 (if b = true then k1 S1 else k2 S1) := by
  refine ⟨φ, δ, S, rs, re, fun d S' e => ?_, ?_⟩
  · rw [e, R.st_ok] at h
    cases d with
    | bl b => exact ⟨b, rfl⟩
    | _ => exact h.elim
  · refine (OutS.st (rel := relB) re h).mono fun v H1 ⟨φ1, x, S1, e1, rs1, r1, h1⟩ => ?_
    cases r1
    refine ⟨φ1, S1, rs1, re.ext e1, ?_⟩
    cases v with
    | true => rw [if_pos rfl]; exact h1
    | false => rw [if_neg Bool.false_ne_true]; exact h1
theorem s_if (hc : GT X ec F W c cc) (ha : GSs X ec F W sts cs) (hb : GSs X ec F W body cr) : GS X ec F W (.If c sts body pos) (.ife cc cs cr) := PS.imp (ps_if hc ha hb) fun D σ H ⟨φ, δ, S, rs, re, h⟩ => by
  unfold run at h
  obtain ⟨φ0, δ0, S0, q1, q2, q3, q4⟩ := rdT_of (k1 := fun S1 => run F cs δ S1) (k2 := fun S1 => run F cr δ S1) rs re h
  refine ⟨φ0, δ0, S0, q1, q2, q3, q4.mono fun b H1 ⟨φ1, S1, rs1, re1, h1⟩ => ?_⟩
  cases b with
  | true => rw [if_pos rfl] at h1 ⊢; exact ⟨φ1, δ, S1, rs1, re1, h1⟩
  | false => rw [if_neg Bool.false_ne_true] at h1 ⊢; exact ⟨φ1, δ, S1, rs1, re1, h1⟩
theorem s_while (hp : PassesOwn (model X.prog X.w) X.A X.env X.xe) (hc : GT X ec F W c cc) (hb : GSs X ec F W body cs) : GS X ec F W (.While c body [] pos) (.whl cc cs) := PS.imp (ps_while hp hc hb) fun D σ H ⟨φ, δ, S, rs, re, h⟩ => by
  unfold run at h
  have ns : loopW (wstep (ev F cc) (run F cs)) (δ, S) ≠ .stuck := fun z => by
    rw [z] at h
    exact h
  obtain ⟨n, hn⟩ := loopW_ended ns
  refine ⟨fun m σ' H' => ∃ φ' δ' S' r, Rs X.K φ' S' H' ∧ RE X.K φ' H' δ' σ' ∧ iterW (wstep (ev F cc) (run F cs)) m (δ', S') = some r ∧ OutS X.K ec W D φ' H' r, ⟨n, φ, δ, S, _, rs, re, hn, h⟩, ?_⟩
  rintro m σ1 H1 ⟨φ1, δ1, S1, r, rs1, re1, hm, h1⟩
  cases m with
  | zero => cases hm
  | succ m =>
    unfold iterW wstep at hm
    have bad : r ≠ .stuck := fun z => by
      subst z
      exact h1
    dsimp only at hm
    refine ⟨φ1, δ1, S1, rs1, re1, fun d S' e => ?_, ?_⟩
    · rw [e] at hm
      cases d with
      | bl b => exact ⟨b, rfl⟩
      | _ => cases hm; exact absurd rfl bad
    · cases e2 : ev F cc δ1 S1 with
      | stuck => rw [e2] at hm; cases hm; exact absurd rfl bad
      | exc c a S2 =>
        rw [e2] at hm
        cases hm
        exact fun φ' H' dd e' rs x => h1 φ' σ1 H' dd e' rs (re1.ext e') x
      | ok d S2 =>
        rw [e2] at hm
        intro φ2 b H2 ex2 rs2 r2
        cases r2
        have re2 := re1.ext ex2
        have h2 := OutS.ext ex2 h1
        cases b with
        | false =>
          rw [if_neg Bool.false_ne_true]
          cases hm
          exact nx_ok h2 rs2 re2
        | true =>
          rw [if_pos rfl]
          dsimp only at hm
          refine ⟨fun σ' H' => ∃ φ' δ' S', Rs X.K φ' S' H' ∧ RE X.K φ' H' δ' σ' ∧ iterW (wstep (ev F cc) (run F cs)) m (δ', S') = some r ∧ OutS X.K ec W D φ' H' r, fun σ' H' ⟨φ', δ', S', a1, a2, a3, a4⟩ => ⟨m, Nat.lt_succ_self m, φ', δ', S', r, a1, a2, a3, a4⟩, φ2, δ1, S2, rs2, re2, ?_⟩
          cases e3 : run F cs δ1 S2 with
          | nx δ3 S3 =>
            rw [e3] at hm
            exact fun φ' σ' H' e' rs' re' => ⟨φ', δ3, S3, rs', re', hm, OutS.ext e' h2⟩
          | bk δ3 S3 => rw [e3] at hm; cases hm; exact h2
          | rt d S3 => rw [e3] at hm; cases hm; exact h2
          | xc c a δ3 S3 => rw [e3] at hm; cases hm; exact h2
          | stuck => rw [e3] at hm; cases hm; exact absurd rfl bad
theorem s_for {t : CT} (hp : PassesOwn (model X.prog X.w) X.A X.env X.xe) (hc : X.calm = true) (hi : GI X ec F W tg it ca) (hg : GG X tg t) (hb : GSs X ec F W body cs) (hs : ∀ x, foldedSetIterable it X.env x = pure x) :
    GS X ec F W (.For tg it body [] pos) (.fr t ca cs) := PS.imp (ps_for hp hc hi hg hb hs) fun D σ H ⟨φ, δ, S, rs, re, h⟩ => by
  unfold run at h
  refine ⟨φ, δ, S, rs, re, (OutS.st (rel := fun φ H J w => WalkJ X.K φ H J w) re h).mono fun J H1 ⟨φ1, w, S1, e1, rs1, wj, h1⟩ => ?_⟩
  let Ph : Nat → St → Hp → Prop := fun i σ' H' => ∃ φ' δ' S', Ext φ1 H1 φ' H' ∧ Rs X.K φ' S' H' ∧ RE X.K φ' H' δ' σ' ∧ OutS X.K ec W D φ' H' (forEv (run F cs) t w (w.items.drop i) δ' S')
  refine ⟨fun i m σ' H' => m + i = w.items.length ∧ Ph i σ' H', ⟨w.items.length, by omega, φ1, δ, S1, Ext.refl _ _, rs1, re.ext e1, h1⟩, ?_⟩
  rintro i m σ2 H2 ⟨hm, φ2, δ2, S2, e2, rs2, re2, h2⟩
  have ns : forEv (run F cs) t w (w.items.drop i) δ2 S2 ≠ .stuck := fun z => by
    rw [z] at h2
    exact h2
  by_cases hi : i < w.items.length
  · right
    have hd : w.items[i]? = some w.items[i] := by simp [hi]
    have hdr : w.items.drop i = w.items[i] :: w.items.drop (i + 1) := List.drop_eq_getElem_cons hi
    rw [hdr] at h2 ns
    generalize w.items[i] = d at hd h2 ns
    unfold forEv at h2 ns
    by_cases hw : w.At S2
    · simp only [if_pos hw] at h2 ns
      obtain ⟨hgo, hyd⟩ := (wj φ2 S2 H2 e2 rs2 hw).1 i d hd
      refine ⟨hgo, Ph (i + 1), fun σ' H' q => ⟨m - 1, by omega, by omega, q⟩, fun x H3 y => ?_⟩
      obtain ⟨rfl, rx⟩ := hyd x H3 y
      cases e3 : stepT t d δ2 with
      | none => simp only [e3] at ns; exact absurd rfl ns
      | some δ3 =>
        simp only [e3] at h2 ns
        refine ⟨φ2, S2, d, δ2, δ3, rs2, rx, re2, e3, fun σ3 re3 off => ?_⟩
        refine ⟨φ2, δ3, S2, rs2, re3, ?_⟩
        cases e4 : run F cs δ3 S2 with
        | nx δ4 S4 =>
          simp only [e4] at h2
          exact fun φ' σ' H' e' rs' re' => ⟨φ', δ4, S4, e2.trans e', rs', re', OutS.ext e' h2⟩
        | bk δ4 S4 => simp only [e4] at h2; exact h2
        | rt d S4 => simp only [e4] at h2; exact h2
        | xc c a δ4 S4 => simp only [e4] at h2; exact h2
        | stuck => simp only [e4] at ns; exact absurd rfl ns
    · simp only [if_neg hw] at ns
      exact absurd rfl ns
  · left
    have ei : i = w.items.length := by omega
    subst ei
    rw [List.drop_length] at h2 ns
    unfold forEv at h2 ns
    by_cases hw : w.At S2
    · simp only [if_pos hw] at h2 ns
      exact ⟨(wj φ2 S2 H2 e2 rs2 hw).2, nx_ok h2 rs2 re2⟩
    · simp only [if_neg hw] at ns
      exact absurd rfl ns
end
end Z

/-! Z, part H: from the program's text to the small language. -/
namespace Z
open PySem PySem.Spec PyProof.Rows L2
/-! ### what is known of the names -/
structure Sc where
  N : List Str
  sc : Scope
  fn : Str → Bool
  mv : List Nat
  rm : Bool
structure Tab where
  fns : List (Str × Nat)
  cons : List (Str × D)
  bl : List Str
  ex : List (Str × Nat)
def visB (sc : Scope) (x : Str) : Bool := match sc.names.lookup x with
  | some .local => true
  | some .cell => true
  | some .free => true
  | _ => false
def locB (s : Sc) (x : Str) : Bool := match s.sc.names.lookup x with
  | some .local => true
  | some .cell => s.fn x
  | _ => false
def glB (sc : Scope) (x : Str) : Bool := match sc.names.lookup x with
  | some .globalImplicit => true
  | _ => false
def okName (x : Str) : Bool := !(x == ("__debug__" : Str)) && !(x == ("__classdict__" : Str))
def ixOf (N : List Str) (x : Str) : Option Nat := N.findIdx? (· == x)
theorem ixOf_at {N : List Str} {x : Str} {i : Nat} (h : ixOf N x = some i) : N[i]? = some x := by
  unfold ixOf at h
  rw [List.findIdx?_eq_some_iff_getElem] at h
  obtain ⟨hi, h1, _⟩ := h
  rw [List.getElem?_eq_getElem hi]
  exact congrArg some (beq_iff_eq.mp h1)
def unBop : Operator → Option Bop
  | .Add => some .add
  | .Sub => some .sub
  | .Mult => some .mul
  | .FloorDiv => some .fdiv
  | .Mod => some .mod
  | .Pow => some .pow
  | _ => none
theorem unBop_of {op : Operator} {b : Bop} (h : unBop op = some b) : op = bopOp b := by
  cases op <;> cases h <;> rfl
def unCop : CmpOp → Cop
  | .Eq => .eq | .NotEq => .ne | .Lt => .lt | .LtE => .le | .Gt => .gt | .GtE => .ge | .Is => .is | .IsNot => .isnot | .In => .isin | .NotIn => .notin
theorem unCop_of (op : CmpOp) : op = copOp (unCop op) := by cases op <;> rfl
def notSet : Expr → Bool
  | .Set _ _ _ => false
  | _ => true
theorem marks_of {op : CmpOp} {b : Expr} (h : notSet b = true) : behindInMarks op b = false := by
  cases b <;> first | rfl | cases h
theorem folded_of {e : Expr} (env : PySem.Env) (h : notSet e = true) : ∀ x, foldedSetIterable e env x = pure x := by
  intro x
  cases e <;> first | rfl | cases h
def plainIx : Expr → Bool
  | .Slice _ _ _ _ => false
  | _ => true
theorem plainIx_of {e : Expr} (h : plainIx e = true) : PlainIx e := fun o i => by
  cases e <;> first | rfl | cases h
def bltTab : List (Str × Blt) := [("len", .len), ("abs", .abs), ("int", .int), ("str", .str), ("tuple", .tuple), ("list", .list), ("all", .all), ("any", .any), ("sum", .sum), ("min", .min), ("max", .max), ("sorted", .sorted)]
def bltOf (x : Str) : Option Blt := bltTab.lookup x
theorem bltTab_ok : ∀ q ∈ bltTab, q.1 = bltName q.2 ∧ bltOk q.2 = true := by
  unfold bltTab
  repeat (refine List.forall_mem_cons.mpr ⟨⟨rfl, rfl⟩, ?_⟩)
  exact fun q h => by cases h
theorem bltOf_ok {x : Str} {b : Blt} (h : bltOf x = some b) : x = bltName b ∧ bltOk b = true := bltTab_ok (x, b) (PySem.mem_of_lookup h)
def tyOf (x : Str) : Option Ty :=
  if x == ("int" : Str) then some .int else if x == ("bool" : Str) then some .bool else if x == ("str" : Str) then some .str else if x == ("tuple" : Str) then some .tup else if x == ("list" : Str) then some .lst else if x == ("dict" : Str) then some .dict else none
theorem tyOf_ok {x : Str} {t : Ty} (h : tyOf x = some t) : x = tyStr t ∧ ∀ c, t ≠ .own c := by
  unfold tyOf at h
  repeat' (split at h <;> first | (cases h; rename_i e; exact ⟨beq_iff_eq.mp e, fun c z => by cases z⟩) | skip)
  cases h
/-- an expression that may stand as a test -/
def tstB : Expr → Bool
  | .IfExp _ _ _ _ => false
  | _ => true
/-- .. as a test it is its value's truth -/
def plainT : Expr → Bool
  | .IfExp _ _ _ _ => false
  | .UnaryOp .Not _ _ => false
  | .BoolOp _ _ _ => false
  | .Compare _ _ _ _ => false
  | _ => true
theorem plainT_of {e : Expr} (env : PySem.Env) (h : plainT e = true) : ∀ whole, isTrue e env whole = (do let v ← whole; standAt e.pos; holding [v] (truthy v)) := fun whole => by
  cases e <;> first | rfl | (cases h; done) | skip
  rename_i op _ _
  cases op <;> first | rfl | cases h
def starNo : Expr → Bool := noStar
def ownOf (N : List Str) (scope : Scope) : List (Str × Nat) := scope.names.filterMap fun (x, k) => match k with
  | .local => (ixOf N x).map fun i => (x, i)
  | .cell => (ixOf N x).map fun i => (x, i)
  | _ => none
def subB (a b : List Nat) : Bool := a.all fun i => b.any fun j => i == j
theorem subB_of {a b : List Nat} (h : subB a b = true) : ∀ i ∈ a, i ∈ b := fun i hi => by
  have h1 := List.all_eq_true.mp h i hi
  obtain ⟨j, hj, e⟩ := List.any_eq_true.mp h1
  rw [beq_iff_eq.mp e]
  exact hj
def blkSc (s : Sc) (scope : Scope) : Sc := { s with sc := relS scope s.sc, fn := fun x => scope.names.lookup x == some .cell }
/-- a target -/
def cTs (s : Sc) : List Expr → Option CT
  | [] => some .nil
  | .Name x _ :: ts => if locB s x then (match ixOf s.N x, cTs s ts with
    | some i, some t => some (.cons (.nm i) t)
    | _, _ => none) else none
  | _ :: _ => none
def cT (s : Sc) : Expr → Option CT
  | .Name x _ => if locB s x then (ixOf s.N x).map .nm else none
  | .Tuple ts _ _ => (cTs s ts).map .tp
  | _ => none
def isMut (s : Sc) (t : CT) : Bool := match t with
  | .nm i => s.mv.any fun j => i == j
  | _ => false
/-- displays that will change -/
def mkM : Nat → CE → CE
  | n + 1, .lst es => .mlst (mkMs n es)
  | _, c => c
where mkMs : Nat → CE → CE
  | n + 1, .cons e es => .cons (mkM n e) (mkMs n es)
  | _, c => c
def cList (f : Expr → CE) : List Expr → CE
  | [] => .nil
  | e :: es => .cons (f e) (cList f es)
def cBool (f : Expr → CE) (isAnd : Bool) : List Expr → CE
  | [] => .nil
  | [e] => f e
  | e :: es => if isAnd then .and (f e) (cBool f isAnd es) else .or (f e) (cBool f isAnd es)
def cOpt (f : Expr → CE) : Option Expr → CE
  | none => .nil
  | some e => .one (f e)
def few (c : CE) : Bool := decide (esLen c ≤ 1000)
mutual
def cE (T : Tab) : Nat → Sc → Expr → CE
  | 0, _, _ => .nil
  | n + 1, s, e => match e with
    | .Name x _ => if okName x then (if visB s.sc x then (match ixOf s.N x with
        | some i => .var i
        | none => .nil) else if glB s.sc x then (match T.cons.lookup x with
          | some d => .con d
          | none => .nil) else .nil) else .nil
    | .Constant (.int i) _ _ => .con (.int i)
    | .Constant (.bool b) _ _ => .con (.bl b)
    | .Constant (.str x) _ _ => .con (.str x)
    | .Constant .none _ _ => .con .non
    | .Tuple es _ _ => if noStars es && few (cList (cE T n s) es) then .tup (cList (cE T n s) es) else .nil
    | .List es _ => if noStars es && few (cList (cE T n s) es) then .lst (cList (cE T n s) es) else .nil
    | .BinOp a op b _ => match unBop op with
      | some o => .bin o (cE T n s a) (cE T n s b)
      | none => .nil
    | .UnaryOp .USub a _ => .neg (cE T n s a)
    | .UnaryOp .Not a _ => if tstB a then .not (cE T n s a) else .nil
    | .BoolOp op vs _ => if vs.all tstB then cBool (cE T n s) (match op with | .And => true | .Or => false) vs else .nil
    | .Compare a [op] [b] _ => if notSet b then .cmp (unCop op) (cE T n s a) (cE T n s b) else .nil
    | .Compare a [o1, o2] [b, c] _ => if notSet c then .chain (unCop o1) (unCop o2) (cE T n s a) (cE T n s b) (cE T n s c) else .nil
    | .IfExp t a b _ => if tstB t then .ife (cE T n s t) (cE T n s a) (cE T n s b) else .nil
    | .Dict [] [] _ => .edic
    | .Subscript a (.Slice none none (some (.UnaryOp .USub (.Constant (.int 1) _ _) _)) _) _ => .rev (cE T n s a)
    | .Subscript a (.Slice lo hi none _) _ => .sl (cE T n s a) (cOpt (cE T n s) lo) (cOpt (cE T n s) hi)
    | .Subscript a i _ => if plainIx i then .idx (cE T n s a) (cE T n s i) else .nil
    | .Call (.Name f _) args [] _ => if okName f && glB s.sc f && noStars args then (match T.fns.lookup f with
      | some i => .call i (cList (cE T n s) args)
      | none => if f == ("isinstance" : Str) then (match args with
          | [a, .Name t _] => (match tyOf t with
            | some ty => if T.bl.contains f && T.bl.contains t && glB s.sc t then .isi (cE T n s a) ty else .nil
            | none => .nil)
          | _ => .nil)
        else if f == ("list" : Str) then (if T.bl.contains f then (match args with
          | [.Call (.Name g _) [a, b] [] _] => if g == ("range" : Str) && (glB s.sc g && (T.bl.contains g && noStars [a, b])) then .rgl (cE T n s a) (cE T n s b) else .nil
          | _ :: _ => .blt .list (cList (cE T n s) args)
          | [] => .nil) else .nil)
        else match bltOf f, args with
          | some b, _ :: _ => if T.bl.contains f then .blt b (cList (cE T n s) args) else .nil
          | _, _ => .nil) else .nil
    | .Call (.Attribute o m apos) args [] pos => if plainBase o && (apos.endLine == pos.line) then (match args with
      | [a] => if m == ("append" : Str) && noStar a then .mth .append (cE T n s o) (.cons (cE T n s a) .nil) else .nil
      | [a, b] => if m == ("setdefault" : Str) && noStars [a, b] then .setd (cE T n s o) (cE T n s a) (cE T n s b) else .nil
      | [] => if m == ("reverse" : Str) then .mth .reverse (cE T n s o) .nil else if m == ("pop" : Str) then .mth .pop (cE T n s o) .nil else .nil
      | _ => .nil) else .nil
    | .ListComp elt [⟨tg, it, ifs, 0⟩] scope _ => cLc T n s elt tg it ifs scope false
    | _ => .nil
/-- what is walked -/
def cI (T : Tab) : Nat → Sc → Expr → CE
  | 0, _, _ => .nil
  | n + 1, s, it => match it with
    | .Call (.Name f _) [a] [] _ => if f == ("range" : Str) && okName f && glB s.sc f && T.bl.contains f && noStar a then .rng (.con (.int 0)) (cE T n s a) else .one (cE T n s it)
    | .Call (.Name f _) [a, b] [] _ => if f == ("range" : Str) && okName f && glB s.sc f && T.bl.contains f && noStars [a, b] then .rng (cE T n s a) (cE T n s b) else .one (cE T n s it)
    | e => .one (cE T n s e)
def cLc (T : Tab) : Nat → Sc → Expr → Expr → Expr → List Expr → Scope → Bool → CE
  | 0, _, _, _, _, _, _, _ => .nil
  | n + 1, s, elt, tg, it, ifs, scope, isM =>
    if notSet it && blkC s.N s.sc scope (ownOf s.N scope) then (match cT (blkSc s scope) tg with
      | some t => if subB (ctSlots t) ((ownOf s.N scope).map (·.2)) then (match ifs with
        | [] => .comp (cE T n (blkSc s scope) elt) t (cI T n s it) (.con (.bl true)) ((ownOf s.N scope).map (·.2)) isM
        | [c] => if tstB c then .comp (cE T n (blkSc s scope) elt) t (cI T n s it) (cE T n (blkSc s scope) c) ((ownOf s.N scope).map (·.2)) isM else .nil
        | _ => .nil) else .nil
      | none => .nil) else .nil
end
/-! ### it says what the text says -/
structure Xok (T : Tab) (ec : Nat → Value) (F : Fn) (W : WX) (r : Nat) (s : Sc) (X : Cx) : Prop where
  N : X.N = s.N
  nd : s.N.Nodup
  sc : X.env.scope = s.sc
  kind : s.sc.kind = .function
  fn : X.fn = s.fn
  calm : X.calm = true
  hu : X.A.units + 65 < cLine
  room : Room r X.A
  tk : L2N.Takes X W
  bl : ∀ x, T.bl.contains x = true → X.mg x = none
  fns : ∀ x i, T.fns.lookup x = some i → Callee X ec F r x i
  cons : ∀ x d, T.cons.lookup x = some d → ∃ u v, X.mg x = some u ∧ RelV v u ∧ ∀ φ H, Rv X.K φ H v d
  sx : SeerX X
theorem takesN0 {X : Cx} : L2N.Takes X W0 := fun _ _ x => by
  obtain ⟨_, _, _, _, _, _, _, _, _, _, _, _, _, _, _, _, z⟩ := x
  exact z.elim
section
variable {T : Tab} {ec : Nat → Value} {F : Fn} {W : WX} {r : Nat} {s : Sc} {X : Cx}
theorem Xok.vis (k : Xok T ec F W r s X) {x : Str} (h : visB s.sc x = true) : Vis X.env.scope x := by
  rw [k.sc]
  unfold visB at h
  unfold Vis
  cases e : s.sc.names.lookup x with
  | none => rw [e] at h; cases h
  | some q => cases q <;> simp [e] at h ⊢
theorem Xok.loc (k : Xok T ec F W r s X) {x : Str} (h : locB s x = true) : L2.Loc X.env.scope x ∧ (X.fn x = true ∨ X.env.scope.names.lookup x = some .local) := by
  rw [k.sc, k.fn]
  unfold locB at h
  unfold L2.Loc
  cases e : s.sc.names.lookup x with
  | none => rw [e] at h; cases h
  | some q => cases q <;> simp [e] at h ⊢; exact h
theorem Xok.gl (k : Xok T ec F W r s X) {x : Str} (h : glB s.sc x = true) : Gl X x := by
  unfold Gl Env.kindOf
  rw [k.sc]
  unfold glB at h
  cases e : s.sc.names.lookup x with
  | none => rw [e] at h; cases h
  | some q => cases q <;> simp [e] at h ⊢
theorem okName_of {x : Str} (h : okName x = true) : (x == ("__debug__" : Str)) = false ∧ (x == ("__classdict__" : Str)) = false := by
  unfold okName at h
  simpa using h
theorem Xok.blk (k : Xok T ec F W r s X) (scope : Scope) (hk : scope.kind = .function) (st : Shared) (H : Hp) (C : Addr) (cl : List (Str × Addr)) (fp : List Addr) : Xok T ec F W0 r (blkSc s scope) (X.blk st H scope (compEnvC scope cl C X.env) fp) where
  N := k.N
  nd := k.nd
  sc := by
    show relabel scope X.env = relS scope s.sc
    rw [← k.sc]
    rfl
  kind := hk
  fn := rfl
  calm := k.calm
  hu := k.hu
  room := k.room
  tk := takesN0
  bl := k.bl
  fns := fun x i h => ⟨(k.fns x i h).ok⟩
  cons := k.cons
  sx := ⟨k.sx.sk, k.sx.tree, k.sx.deep, k.sx.top⟩
theorem g_stuck {e : Expr} : GE X ec F W e .nil := ⟨fun _ _ _ _ _ _ ⟨φ, δ, S, rs, re, h⟩ => by
  unfold ev at h
  exact h.elim⟩
theorem t_stuck {e : Expr} : GT X ec F W e .nil := ⟨fun _ _ _ _ _ _ ⟨φ, δ, S, rs, re, _, h⟩ => by
  unfold ev at h
  exact h.elim⟩
theorem i_stuck {tg e : Expr} : GI X ec F W tg e .nil := ⟨fun _ _ _ _ _ _ ⟨φ, δ, S, rs, re, h⟩ => by
  unfold evI at h
  exact h.elim⟩
theorem a_list {f : Expr → CE} : ∀ {es : List Expr}, noStars es = true → (∀ e ∈ es, GE X ec F W e (f e)) → GA X ec F W es (cList f es)
  | [], _, _ => g_nil
  | e :: es, hs, h => by
    have h' : (noStar e && noStars es) = true := hs
    rw [Bool.and_eq_true] at h'
    exact g_cons (noStar_of h'.1) (h e List.mem_cons_self) (a_list h'.2 fun x hx => h x (List.mem_cons_of_mem _ hx))
theorem g_bools {f : Expr → CE} {op : BoolOp} {pos : Pos} : ∀ {es : List Expr}, (∀ e ∈ es, GE X ec F W e (f e)) → GE X ec F W (.BoolOp op es pos) (cBool f (match op with | .And => true | .Or => false) es)
  | [], _ => g_stuck
  | [e], h => g_one (h e List.mem_cons_self)
  | e :: e2 :: es, h => by
    have ih := g_bools (op := op) (pos := pos) (es := e2 :: es) fun x hx => h x (List.mem_cons_of_mem _ hx)
    cases op with
    | And => exact g_and (h e List.mem_cons_self) ih
    | Or => exact g_or (h e List.mem_cons_self) ih
theorem w_bools {f : Expr → CE} {op : BoolOp} {pos : Pos} : ∀ {es : List Expr}, es ≠ [] → (∀ e ∈ es, GT X ec F W e (f e)) → GW X ec F W (.BoolOp op es pos) (cBool f (match op with | .And => true | .Or => false) es)
  | [], hn, _ => absurd rfl hn
  | [e], _, h => by
    cases op with
    | And => exact w_and1 (h e List.mem_cons_self)
    | Or => exact w_or1 (h e List.mem_cons_self)
  | e :: e2 :: es, _, h => by
    have ih := w_bools (op := op) (pos := pos) (es := e2 :: es) (by simp) fun x hx => h x (List.mem_cons_of_mem _ hx)
    cases op with
    | And => exact w_and (h e List.mem_cons_self) ih
    | Or => exact w_or (h e List.mem_cons_self) ih
theorem g_opt {f : Expr → CE} {o : Option Expr} (h : ∀ e, o = some e → GE X ec F W e (f e)) : GO X ec F W o (cOpt f o) := by
  cases o with
  | none => exact o_none
  | some e => exact o_some (h e rfl)
theorem cTs_ok (k : Xok T ec F W r s X) : ∀ {ts : List Expr} {t : CT}, cTs s ts = some t → GGs X ts t ∧ (assignEach ts X.env).length = ctLen t ∧ (assignEach ts X.env).findIdx? (·.1) = none
  | [], t, h => by
    unfold cTs at h
    cases h
    exact ⟨ts_nil, rfl, rfl⟩
  | e :: ts, t, h => by
    cases e with
    | Name x p =>
      by_cases hl : locB s x = true
      · simp only [cTs, if_pos hl] at h
        cases e1 : ixOf s.N x with
        | none => rw [e1] at h; cases h
        | some i =>
          cases e2 : cTs s ts with
          | none => rw [e1, e2] at h; cases h
          | some t2 =>
            rw [e1, e2] at h
            cases h
            obtain ⟨g1, g2, g3⟩ := cTs_ok k e2
            obtain ⟨l1, l2⟩ := k.loc hl
            refine ⟨ts_cons (t_nm (by rw [k.N]; exact k.nd) (by rw [k.N]; exact ixOf_at e1) l1 l2) g1, ?_, ?_⟩
            · show (assignEach ts X.env).length + 1 = _
              rw [g2]
              rfl
            · show List.findIdx? (·.1) ((false, _) :: assignEach ts X.env) = none
              rw [List.findIdx?_cons, if_neg Bool.false_ne_true, g3]
              rfl
      · simp only [cTs, if_neg hl] at h
        cases h
    | _ => unfold cTs at h; cases h
theorem cT_ok (k : Xok T ec F W r s X) {tg : Expr} {t : CT} (h : cT s tg = some t) : GG X tg t := by
  cases tg with
  | Name x p =>
    by_cases hl : locB s x = true
    · simp only [cT, if_pos hl] at h
      cases e1 : ixOf s.N x with
      | none => rw [e1] at h; cases h
      | some i =>
        rw [e1] at h
        cases h
        obtain ⟨l1, l2⟩ := k.loc hl
        exact t_nm (by rw [k.N]; exact k.nd) (by rw [k.N]; exact ixOf_at e1) l1 l2
    · simp only [cT, if_neg hl] at h
      cases h
  | Tuple ts k2 p =>
    simp only [cT] at h
    cases e1 : cTs s ts with
    | none => rw [e1] at h; cases h
    | some t2 =>
      rw [e1] at h
      cases h
      obtain ⟨g1, g2, g3⟩ := cTs_ok k e1
      exact t_tp k.calm g1 g2 g3
  | _ => unfold cT at h; cases h

theorem mem_all {α : Type} {p : α → Bool} {l : List α} (h : l.all p = true) : ∀ x ∈ l, p x = true := List.all_eq_true.mp h
theorem few_of {c : CE} (h : few c = true) : esLen c ≤ 1000 := of_decide_eq_true h
/-- all of expressions -/
structure COk (T : Tab) (ec : Nat → Value) (F : Fn) (r : Nat) (n : Nat) : Prop where
  e : ∀ {W : WX} {s : Sc} {X : Cx}, Xok T ec F W r s X → ∀ e, GE X ec F W e (cE T n s e)
  t : ∀ {W : WX} {s : Sc} {X : Cx}, Xok T ec F W r s X → ∀ e, tstB e = true → GT X ec F W e (cE T n s e)
  i : ∀ {W : WX} {s : Sc} {X : Cx}, Xok T ec F W r s X → ∀ tg it, GI X ec F W tg it (cI T n s it)
  lc : ∀ {W : WX} {s : Sc} {X : Cx}, Xok T ec F W r s X → ∀ elt tg it ifs scope isM pos, GE X ec F W (.ListComp elt [⟨tg, it, ifs, 0⟩] scope pos) (cLc T n s elt tg it ifs scope isM)
theorem ands {a b : Bool} (h : (a && b) = true) : a = true ∧ b = true := by rwa [Bool.and_eq_true] at h
theorem blkC_kind {N : List Str} {sc scope : Scope} {own : List (Str × Nat)} (h : blkC N sc scope own = true) : (relS scope sc).kind = .function := (blkOk_by h).kind
theorem c_e (ih : COk T ec F r n) (k : Xok T ec F W r s X) (e : Expr) : GE X ec F W e (cE T (n + 1) s e) := by
  unfold cE
  split
  · rename_i x p
    split
    · rename_i hn
      obtain ⟨hd, hcd⟩ := okName_of hn
      split
      · rename_i hv
        split
        · rename_i i hi
          exact g_var (by rw [k.N]; exact ixOf_at hi) (k.vis hv) hd hcd
        · exact g_stuck
      · split
        · rename_i hg
          split
          · rename_i d hc
            obtain ⟨u, v, hm, rv, hr⟩ := k.cons x d hc
            exact g_glob (k.gl hg) hm rv hd hr
          · exact g_stuck
        · exact g_stuck
    · exact g_stuck
  · exact g_int
  · exact g_bl
  · exact g_str
  · exact g_non
  · split
    · rename_i h
      obtain ⟨h1, h2⟩ := ands h
      exact g_tup (few_of h2) (a_list h1 fun x _ => ih.e k x)
    · exact g_stuck
  · split
    · rename_i h
      obtain ⟨h1, h2⟩ := ands h
      exact g_lst (few_of h2) (a_list h1 fun x _ => ih.e k x)
    · exact g_stuck
  · split
    · rename_i o ho
      rw [unBop_of ho]
      exact g_bin k.sx.seer o (ih.e k _) (ih.e k _)
    · exact g_stuck
  · exact g_neg (ih.e k _)
  · split
    · rename_i h
      exact g_not (ih.e k _)
    · exact g_stuck
  · split
    · exact g_bools fun x _ => ih.e k x
    · exact g_stuck
  · split
    · rename_i a op b pos h
      have h3 := g_cmp (pos := pos) (ec := ec) (F := F) (W := W) k.hu (unCop op) (ih.e k a) (ih.e k b) (marks_of h)
      rw [← unCop_of op] at h3
      exact h3
    · exact g_stuck
  · split
    · rename_i a o1 o2 b c pos h
      have h3 := g_chain (pos := pos) (ec := ec) (F := F) (W := W) k.hu (unCop o1) (unCop o2) (ih.e k a) (ih.e k b) (ih.e k c) (marks_of h)
      rw [← unCop_of o1, ← unCop_of o2] at h3
      exact h3
    · exact g_stuck
  · split
    · rename_i h
      exact g_ife (ih.t k _ h) (ih.e k _) (ih.e k _)
    · exact g_stuck
  · exact g_edic
  · exact g_rev (ih.e k _)
  · exact g_sl (ih.e k _) (g_opt fun x _ => ih.e k x) (g_opt fun x _ => ih.e k x)
  · split
    · rename_i h
      exact g_idx k.hu (plainIx_of h) (ih.e k _) (ih.e k _)
    · exact g_stuck
  · rename_i f p args pos
    split
    · rename_i h
      obtain ⟨h12, h3⟩ := ands h
      obtain ⟨h1, h2⟩ := ands h12
      have hd := (okName_of h1).1
      split
      · rename_i i hi
        cases args with
        | nil => exact g_call0 (k.fns f i hi) k.room k.tk (k.gl h2) hd
        | cons a as => exact g_call (k.fns f i hi) k.room k.tk (k.gl h2) hd h3 (a_list h3 fun x _ => ih.e k x)
      · split
        · rename_i hf
          have hf := beq_iff_eq.mp hf
          split
          · rename_i a t p2
            split
            · rename_i ty hty
              split
              · rename_i hc
                obtain ⟨hc12, hc3⟩ := ands hc
                obtain ⟨hc1, hc2⟩ := ands hc12
                obtain ⟨rfl, hown⟩ := tyOf_ok hty
                subst hf
                exact g_isi hown (k.gl h2) (k.bl _ hc1) (k.gl hc3) (k.bl _ hc2) (ands h3).1 (ih.e k a)
              · exact g_stuck
            · exact g_stuck
          · exact g_stuck
        · split
          · rename_i hf
            have hf := beq_iff_eq.mp hf
            split
            · rename_i hc
              split
              · rename_i g pg a b pos2
                split
                · rename_i hq
                  obtain ⟨q1, hq⟩ := ands hq
                  obtain ⟨q2, hq⟩ := ands hq
                  obtain ⟨q3, q4⟩ := ands hq
                  have q1 := beq_iff_eq.mp q1
                  subst hf
                  subst q1
                  exact g_rgl2 k.calm q4 (k.gl q2) (k.bl _ q3) (k.gl h2) (k.bl _ hc) (ih.e k a) (ih.e k b)
                · exact g_stuck
              · subst hf
                exact g_blt .list rfl k.calm (k.gl h2) (k.bl _ hc) h3 (a_list h3 fun x _ => ih.e k x)
              · exact g_stuck
            · exact g_stuck
          split
          · rename_i b _ _ hb
            split
            · rename_i hc
              obtain ⟨rfl, ok⟩ := bltOf_ok hb
              exact g_blt b ok k.calm (k.gl h2) (k.bl _ hc) h3 (a_list h3 fun x _ => ih.e k x)
            · exact g_stuck
          · exact g_stuck
    · exact g_stuck
  · rename_i o m apos args pos
    split
    · rename_i h
      obtain ⟨h1, h2⟩ := ands h
      split
      · split
        · rename_i hm
          obtain ⟨hm1, hm2⟩ := ands hm
          rw [beq_iff_eq.mp hm1]
          exact g_append h1 h2 hm2 (ih.e k _) (g_cons (noStar_of hm2) (ih.e k _) g_nil)
        · exact g_stuck
      · split
        · rename_i a b hm
          obtain ⟨hm1, hm2⟩ := ands hm
          rw [beq_iff_eq.mp hm1]
          exact g_setd (setd_m h1 h2 hm2) (ih.e k _) (ih.e k _) (ih.e k _)
        · exact g_stuck
      · split
        · rename_i hm
          rw [beq_iff_eq.mp hm]
          exact g_reverse h1 h2 (ih.e k _)
        · split
          · rename_i hm
            rw [beq_iff_eq.mp hm]
            exact g_pop h1 h2 (ih.e k _)
          · exact g_stuck
      · exact g_stuck
    · exact g_stuck
  · exact ih.lc k _ _ _ _ _ _ _
  · exact g_stuck
theorem c_t (ih : COk T ec F r n) (k : Xok T ec F W r s X) (e : Expr) (ht : tstB e = true) : GT X ec F W e (cE T (n + 1) s e) := by
  by_cases hp : plainT e = true
  · exact t_val (c_e ih k e) (plainT_of X.env hp)
  · cases e with
    | UnaryOp op a p =>
      cases op with
      | Not =>
        simp only [cE]
        split
        · rename_i h
          exact t_not (ih.t k _ h)
        · exact t_stuck
      | _ => exact absurd rfl hp
    | BoolOp op vs p =>
      simp only [cE]
      split
      · rename_i h
        cases vs with
        | nil => exact t_stuck
        | cons v vs => exact GW.t (w_bools (by simp) fun x hx => ih.t k x (mem_all h x hx))
      · exact t_stuck
    | Compare a ops bs p =>
      cases ops with
      | nil => exact t_stuck
      | cons o1 ops =>
        cases ops with
        | nil =>
          cases bs with
          | nil => exact t_stuck
          | cons b bs =>
            cases bs with
            | cons _ _ => exact t_stuck
            | nil =>
              simp only [cE]
              split
              · rename_i h
                have h3 := t_cmp (pos := p) (ec := ec) (F := F) (W := W) k.hu (unCop o1) (ih.e k a) (ih.e k b) (marks_of h)
                rw [← unCop_of o1] at h3
                exact h3
              · exact t_stuck
        | cons o2 ops =>
          cases ops with
          | cons _ _ => 
            cases bs with
            | nil => exact t_stuck
            | cons b bs =>
              cases bs with
              | nil => exact t_stuck
              | cons c bs => exact t_stuck
          | nil =>
            cases bs with
            | nil => exact t_stuck
            | cons b bs =>
              cases bs with
              | nil => exact t_stuck
              | cons c bs =>
                cases bs with
                | cons _ _ => exact t_stuck
                | nil =>
                  simp only [cE]
                  split
                  · rename_i h
                    have h3 := t_chain (pos := p) (ec := ec) (F := F) (W := W) k.hu (unCop o1) (unCop o2) (ih.e k a) (ih.e k b) (ih.e k c) (marks_of h)
                    rw [← unCop_of o1, ← unCop_of o2] at h3
                    exact h3
                  · exact t_stuck
    | IfExp _ _ _ _ => cases ht
    | _ => exact absurd rfl hp

theorem c_i (ih : COk T ec F r n) (k : Xok T ec F W r s X) (tg it : Expr) : GI X ec F W tg it (cI T (n + 1) s it) := by
  unfold cI
  split
  · rename_i f p a pos
    split
    · rename_i h
      obtain ⟨h, h5⟩ := ands h
      obtain ⟨h, h4⟩ := ands h
      obtain ⟨h, h3⟩ := ands h
      obtain ⟨h1, h2⟩ := ands h
      obtain rfl := beq_iff_eq.mp h1
      exact i_rng1 h5 (k.gl h3) (k.bl _ h4) (ih.e k a)
    · exact i_one (ih.e k _)
  · rename_i f p a b pos
    split
    · rename_i h
      obtain ⟨h, h5⟩ := ands h
      obtain ⟨h, h4⟩ := ands h
      obtain ⟨h, h3⟩ := ands h
      obtain ⟨h1, h2⟩ := ands h
      obtain rfl := beq_iff_eq.mp h1
      exact i_rng2 h5 (k.gl h3) (k.bl _ h4) (ih.e k a) (ih.e k b)
    · exact i_one (ih.e k _)
  · exact i_one (ih.e k _)
/-- a comprehension's parts -/
theorem lc_parts (ih : COk T ec F r n) (k : Xok T ec F W r s X) {scope : Scope} (hb : blkC s.N s.sc scope (ownOf s.N scope) = true) (st : Shared) (H : Hp) (C : Addr) (cl : List (Str × Addr)) (fp : List Addr) :
    Xok T ec F W0 r (blkSc s scope) (X.blk st H scope (compEnvC scope cl C X.env) fp) := k.blk scope (blkC_kind hb) st H C cl fp
theorem c_lc (ih : COk T ec F r n) (k : Xok T ec F W r s X) (elt tg it : Expr) (ifs : List Expr) (scope : Scope) (isM : Bool) (pos : Pos) : GE X ec F W (.ListComp elt [⟨tg, it, ifs, 0⟩] scope pos) (cLc T (n + 1) s elt tg it ifs scope isM) := by
  unfold cLc
  split
  · rename_i h
    obtain ⟨hs, hb⟩ := ands h
    split
    · rename_i t ht
      split
      · rename_i hsub
        have ok : BlkOk X.N X.env.scope scope (ownOf s.N scope) := by rw [k.N, k.sc]; exact blkOk_by hb
        split
        · exact g_comp k.calm (by rw [k.N]; exact k.nd) (ih.i k tg it) ok (fun st H C cl fp => cT_ok (lc_parts ih k hb st H C cl fp) ht) (fun st H C cl fp => ifs_nil) (fun st H C cl fp => ih.e (lc_parts ih k hb st H C cl fp) elt) (folded_of X.env hs) (subB_of hsub)
        · split
          · rename_i c hc
            exact g_comp k.calm (by rw [k.N]; exact k.nd) (ih.i k tg it) ok (fun st H C cl fp => cT_ok (lc_parts ih k hb st H C cl fp) ht) (fun st H C cl fp => ifs_one (ih.t (lc_parts ih k hb st H C cl fp) c hc)) (fun st H C cl fp => ih.e (lc_parts ih k hb st H C cl fp) elt) (folded_of X.env hs) (subB_of hsub)
          · exact g_stuck
        · exact g_stuck
      · exact g_stuck
    · exact g_stuck
  · exact g_stuck
theorem c_ok : ∀ n, COk T ec F r n
  | 0 => ⟨fun _ e => by unfold cE; exact g_stuck, fun _ e _ => by unfold cE; exact t_stuck, fun _ tg it => by unfold cI; exact i_stuck, fun _ _ _ _ _ _ _ _ => by unfold cLc; exact g_stuck⟩
  | n + 1 => ⟨fun k e => c_e (c_ok n) k e, fun k e h => c_t (c_ok n) k e h, fun k tg it => c_i (c_ok n) k tg it, fun k elt tg it ifs scope isM pos => c_lc (c_ok n) k elt tg it ifs scope isM pos⟩
end
end Z

/-! Z, part I: statements, from the text. -/
namespace Z
open PySem PySem.Spec PyProof.Rows L2
def compScope : Expr → Option Scope
  | .ListComp _ _ s _ => some s
  | .SetComp _ _ s _ => some s
  | .DictComp _ _ _ s _ => some s
  | _ => none
def swB (sc : Scope) (value : Expr) (target : Option Expr) (line : Nat) : Option Bool := match compScope value with
  | none => some false
  | some scope => match target with
    | none => if value.pos.line != line then none else some true
    | some (.Name t pos) => some (sc.names.lookup t == some .local && pos.line == value.pos.line && !(scope.names.any fun (n, k) => n == t && (k == .local || k == .cell)))
    | some _ => some false
theorem swB_of {sc : Scope} {env : PySem.Env} {value : Expr} {target : Option Expr} {line : Nat} {b : Bool} (hs : env.scope = sc) (hk : sc.kind = .function) (h : swB sc value target line = some b) : swapsWith value target line env = pure b := by
  have hk2 : env.scope.kind = .function := by rw [hs]; exact hk
  have hb : env.blockKind = .function := by
    unfold Env.blockKind
    rw [hk2]
    rfl
  have key : ∀ scope, compScope value = some scope → swapsWith value target line env = (do
      match target with
      | none =>
        if env.scope.kind == .class then unsupported "comprehension:value-dropped-in-a-class-body"
        if value.pos.line != line then unsupported "comprehension:value-dropped:on-another-line"
        return true
      | some (.Name t pos) =>
        return env.blockKind == .function && env.kindOf t == some .local && pos.line == value.pos.line
          && !(scope.names.any fun (n, k) => n == t && (k == .local || k == .cell))
      | some _ => return false) := fun scope hc => by
    unfold swapsWith
    cases value <;> first | (cases hc; rfl) | cases hc
  cases hc : compScope value with
  | none =>
    unfold swB at h
    rw [hc] at h
    cases h
    unfold swapsWith
    cases value <;> first | rfl | cases hc
  | some scope =>
    rw [key scope hc]
    unfold swB at h
    rw [hc] at h
    cases target with
    | none =>
      simp only at h
      rw [hk2]
      by_cases hl : (value.pos.line != line) = true
      · rw [if_pos hl] at h; cases h
      · rw [if_neg hl] at h
        cases h
        simp only [hl]
        rfl
    | some t =>
      cases t with
      | Name t p =>
        simp only [Option.some.injEq] at h
        subst h
        simp only [hb, Env.kindOf, hs]
        rfl
      | _ =>
        simp only [Option.some.injEq] at h
        subst h
        rfl
def pairsOf (targets : List Expr) (value : Expr) : Option (List Expr × List Expr) := match targets, value with
  | [.Tuple ts _ _], .Tuple vs _ _ => some (ts, vs)
  | [.List ts _], .Tuple vs _ _ => some (ts, vs)
  | _, _ => none
def swSt (sc : Scope) (targets : List Expr) (value : Expr) : Option (Option (List Str)) := match pairsOf targets value with
  | none => some none
  | some (ts, vs) =>
    if !(ts.length == 2 || ts.length == 3) || vs.length != ts.length then some none else
    if vs.any (fun e => match e with | .Starred .. => true | _ => false) then some none else
    let line := (ts.head?.map (·.pos.line)).getD 0
    let names := ts.filterMap fun e => match e with
      | .Name id pos => if sc.names.lookup id == some .local && pos.line == line then some id else none
      | _ => none
    if names.length != ts.length || names.eraseDups.length != names.length then some none else
    if vs.all (foldedForSure 8) then some none else
    if vs.all (constantsAlone 8) then none else some (some names)
theorem swSt_of {sc : Scope} {env : PySem.Env} {targets : List Expr} {value : Expr} {o : Option (List Str)} (hs : env.scope = sc) (hk : sc.kind = .function) (h : swSt sc targets value = some o) : swappedStores targets value env = pure o := by
  have hk2 : env.scope.kind = .function := by rw [hs]; exact hk
  have hb : env.blockKind = .function := by
    unfold Env.blockKind
    rw [hk2]
    rfl
  have key : swappedStores targets value env = (match pairsOf targets value with
    | none => (pure none : Sem (Option (List Str)))
    | some (ts, vs) => do
      if !(ts.length == 2 || ts.length == 3) || vs.length != ts.length || env.blockKind != .function then return none
      if vs.any fun | .Starred .. => true | _ => false then return none
      let line := (ts.head?.map (·.pos.line)).getD 0
      let names := ts.filterMap fun
        | .Name id pos => if env.kindOf id == some .local && pos.line == line then some id else none
        | _ => none
      if names.length != ts.length || names.eraseDups.length != names.length then return none
      if vs.all (foldedForSure 8) then return none
      if vs.all (constantsAlone 8) then unsupported "assign.tuple-of-constant-expressions:order-of-the-stores"
      return some names) := by
    unfold swappedStores
    split
    · rename_i heq
      have h2 : pairsOf targets value = some (_, _) := heq
      rw [h2]
      rfl
    · rename_i heq
      cases h2 : pairsOf targets value with
      | none => rfl
      | some q => exact absurd h2 (heq q.1 q.2)
  rw [key]
  unfold swSt at h
  cases hp : pairsOf targets value with
  | none =>
    rw [hp] at h
    cases h
    rfl
  | some q =>
    obtain ⟨ts, vs⟩ := q
    rw [hp] at h
    simp only [] at h
    simp only [Env.kindOf, hs, hb]
    by_cases h1 : (!(ts.length == 2 || ts.length == 3) || vs.length != ts.length) = true
    · rw [if_pos h1] at h
      cases h
      have h1' : (!(ts.length == 2 || ts.length == 3) || vs.length != ts.length || (ScopeKind.function != ScopeKind.function)) = true := by rw [h1]; rfl
      rw [if_pos h1']
    · have h1' : ¬ (!(ts.length == 2 || ts.length == 3) || vs.length != ts.length || (ScopeKind.function != ScopeKind.function)) = true := by
        rw [Bool.not_eq_true] at h1
        rw [h1]
        decide
      rw [if_neg h1] at h
      rw [if_neg h1']
      split at h
      · cases h
        rename_i h2
        rw [if_pos h2]
      · rename_i h2
        rw [if_neg h2]
        split at h
        · cases h
          rename_i h3
          rw [if_pos h3]
        · rename_i h3
          rw [if_neg h3]
          split at h
          · cases h
            rename_i h4
            rw [if_pos h4]
          · rename_i h4
            rw [if_neg h4]
            split at h
            · cases h
            · cases h
              rename_i h5
              rw [if_neg h5]

/-! ### the compiler -/
/-- a value that will change -/
def cM (T : Tab) (n : Nat) (s : Sc) : Expr → CE
  | .List es _ => if noStars es && few (cList (cE T n s) es) then .mlst (cList (cE T n s) es) else .nil
  | .ListComp elt [⟨tg, it, ifs, 0⟩] scope _ => cLc T n s elt tg it ifs scope true
  | .Dict [] [] _ => .mdk
  | .BinOp a .Add b _ => .mth .cat (cE T n s a) (.cons (cE T n s b) .nil)
  | e => cE T n s e
def cV (T : Tab) (n : Nat) (s : Sc) (m : Bool) (e : Expr) : CE := if m then cM T n s e else cE T n s e
def cSs (f : Stmt → CS) : List Stmt → CS
  | [] => .skip
  | [s] => f s
  | s :: rest => .seq (f s) (cSs f rest)
def plainTg : Expr → Bool
  | .Name _ _ => true
  | .Tuple _ _ _ => true
  | _ => false
def mutB (s : Sc) (x : Str) : Bool := match ixOf s.N x with
  | some i => s.mv.contains i
  | none => false
def cS (T : Tab) : Nat → Sc → Stmt → CS
  | 0, _, _ => .never
  | n + 1, s, st => match st with
    | .Pass _ => .skip
    | .Break _ => .brk
    | .Expr (.Constant (.str _) _ _) _ => .skip
    | .Expr e pos => if swB s.sc e none pos.line == some false then .expr (cE T n s e) else .never
    | .Return none _ => .ret (.con .non)
    | .Return (some (.Name x p)) _ => (match ixOf s.N x with
      | some i => if s.mv.contains i && !s.rm && okName x && visB s.sc x then .retF i else .ret (cE T n s (.Name x p))
      | none => .ret (cE T n s (.Name x p)))
    | .Return (some e) _ => .ret (cV T n s s.rm e)
    | .Assign [.Name y p] (.ListComp elt [⟨tg, it, ifs, 0⟩] scope p2) pos =>
      (match ixOf s.N y with
      | some i => (match swB s.sc (.ListComp elt [⟨tg, it, ifs, 0⟩] scope p2) (some (.Name y p)) pos.line with
        | some true => if s.sc.names.lookup y == some .local then .asg (.nm i) (cLc T n s elt tg it ifs scope (s.mv.contains i)) else .never
        | some false => if locB s y then .asg (.nm i) (cLc T n s elt tg it ifs scope (s.mv.contains i)) else .never
        | none => .never)
      | none => .never)
    | .Assign [.Tuple [.Name x px, .Name y py] kt pt] (.Tuple [a, b] k2 pt2) pos =>
      (match swSt s.sc [.Tuple [.Name x px, .Name y py] kt pt] (.Tuple [a, b] k2 pt2) with
      | some (some l) => (match ixOf s.N x, ixOf s.N y with
        | some i, some j => if l == [x, y] && i != j && s.sc.names.lookup x == some .local && s.sc.names.lookup y == some .local && noStars [a, b] then .asg (.tp (.cons (.nm i) (.cons (.nm j) .nil))) (.tup (.cons (cV T n s (s.mv.contains i) a) (.cons (cV T n s (s.mv.contains j) b) .nil))) else .never
        | _, _ => .never)
      | some none => (match cT s (.Tuple [.Name x px, .Name y py] kt pt) with
        | some t => if noStars [a, b] then .asg t (.tup (.cons (cV T n s (mutB s x) a) (.cons (cV T n s (mutB s y) b) .nil))) else .never
        | none => .never)
      | none => .never)
    | .Assign [.Tuple [.Name x px, .Name y py, .Name z pz] kt pt] (.Tuple [a, b, c] k2 pt2) pos =>
      (match swSt s.sc [.Tuple [.Name x px, .Name y py, .Name z pz] kt pt] (.Tuple [a, b, c] k2 pt2) with
      | some (some l) => (match ixOf s.N x, ixOf s.N y, ixOf s.N z with
        | some i, some j, some w => if l == [x, y, z] && (i != j && (i != w && (j != w && (s.sc.names.lookup x == some .local && (s.sc.names.lookup y == some .local && (s.sc.names.lookup z == some .local && noStars [a, b, c])))))) then .asg (.tp (.cons (.nm i) (.cons (.nm j) (.cons (.nm w) .nil)))) (.tup (.cons (cV T n s (s.mv.contains i) a) (.cons (cV T n s (s.mv.contains j) b) (.cons (cV T n s (s.mv.contains w) c) .nil)))) else .never
        | _, _, _ => .never)
      | some none => (match cT s (.Tuple [.Name x px, .Name y py, .Name z pz] kt pt) with
        | some t => if noStars [a, b, c] then .asg t (.tup (.cons (cV T n s (mutB s x) a) (.cons (cV T n s (mutB s y) b) (.cons (cV T n s (mutB s z) c) .nil)))) else .never
        | none => .never)
      | none => .never)
    | .Assign [.Subscript o i p'] e pos => if plainIx i then .set (cE T n s o) (cE T n s i) (cE T n s e) else .never
    | .Assign [tg] e pos => (match cT s tg with
      | some t => if plainTg tg && swB s.sc e (some tg) pos.line == some false && swSt s.sc [tg] e == some none then .asg t (cV T n s (isMut s t) e) else .never
      | none => .never)
    | .If c a b _ => if tstB c then .ife (cE T n s c) (cSs (cS T n s) a) (cSs (cS T n s) b) else .never
    | .While c b [] _ => if tstB c then .whl (cE T n s c) (cSs (cS T n s) b) else .never
    | .For tg it b [] _ => (match cT s tg with
      | some t => if notSet it then .fr t (cI T n s it) (cSs (cS T n s) b) else .never
      | none => .never)
    | _ => .never
/-! ### it says what the text says -/
section
variable {T : Tab} {ec : Nat → Value} {F : Fn} {W : WX} {r n : Nat} {s : Sc} {X : Cx}
theorem s_stuck {st : Stmt} : GS X ec F W st .never := ⟨fun _ _ _ _ _ _ ⟨φ, δ, S, rs, re, h⟩ => by
  unfold run at h
  exact h.elim⟩
theorem m_e (k : Xok T ec F W r s X) (e : Expr) : GE X ec F W e (cM T n s e) := by
  unfold cM
  split
  · split
    · rename_i h
      obtain ⟨h1, h2⟩ := ands h
      exact g_mlst (few_of h2) (a_list h1 fun x _ => (c_ok n).e k x)
    · exact g_stuck
  · exact (c_ok n).lc k _ _ _ _ _ _ _
  · exact g_mdk
  · exact g_cat ((c_ok n).e k _) ((c_ok n).e k _)
  · exact (c_ok n).e k _
theorem v_e (k : Xok T ec F W r s X) (m : Bool) (e : Expr) : GE X ec F W e (cV T n s m e) := by
  unfold cV
  split
  · exact m_e k e
  · exact (c_ok n).e k e
theorem ss_all {f : Stmt → CS} : ∀ {sts : List Stmt}, (∀ st ∈ sts, GS X ec F W st (f st)) → GSs X ec F W sts (cSs f sts)
  | [], _ => ss_nil
  | [s], h => ss_one (h s List.mem_cons_self)
  | s :: s2 :: rest, h => ss_cons (h s List.mem_cons_self) (ss_all fun x hx => h x (List.mem_cons_of_mem _ hx))
theorem beqOpt {α : Type} [BEq α] [LawfulBEq α] {a b : α} (h : (a == b) = true) : a = b := beq_iff_eq.mp h
theorem each_plain {tg : Expr} (env : PySem.Env) (h : plainTg tg = true) : (assignEach [tg] env).map (·.2) = [assign tg env] := by
  cases tg <;> first | rfl | cases h
theorem optF {o : Option Bool} {b : Bool} (h : (o == some b) = true) : o = some b := beq_iff_eq.mp h
theorem optN {o : Option (Option (List Str))} (h : (o == some none) = true) : o = some none := by
  cases o with
  | none => cases h
  | some p =>
    cases p with
    | none => rfl
    | some l => cases h
theorem optL {o : Option NameKind} {b : NameKind} (h : (o == some b) = true) : o = some b := by
  cases o with
  | none => cases h
  | some a => cases a <;> cases b <;> first | rfl | cases h
theorem setLc_ok (k : Xok T ec F W r s X) {elt tg it : Expr} {ifs : List Expr} {scope : Scope} {isM : Bool} {p py pos : Pos} {i : Nat} {y : Str} (hy : X.N[i]? = some y) (hyl : X.env.scope.names.lookup y = some .local)
    (hsw : swapsWith (.ListComp elt [⟨tg, it, ifs, 0⟩] scope p) (some (.Name y py)) pos.line X.env = pure true) : GS X ec F W (.Assign [.Name y py] (.ListComp elt [⟨tg, it, ifs, 0⟩] scope p) pos) (.asg (.nm i) (cLc T n s elt tg it ifs scope isM)) := by
  have nd : X.N.Nodup := by rw [k.N]; exact k.nd
  have dead : GS X ec F W (.Assign [.Name y py] (.ListComp elt [⟨tg, it, ifs, 0⟩] scope p) pos) (.asg (.nm i) .nil) := ⟨fun _ _ _ _ _ _ ⟨φ, δ, S, rs, re, h⟩ => by
    unfold run ev at h
    exact h.elim⟩
  cases n with
  | zero => unfold cLc; exact dead
  | succ n =>
    have ih := c_ok (T := T) (ec := ec) (F := F) (r := r) n
    unfold cLc
    split
    · rename_i h
      obtain ⟨hs, hb⟩ := ands h
      split
      · rename_i t ht
        split
        · rename_i hsub
          have ok : BlkOk X.N X.env.scope scope (ownOf s.N scope) := by rw [k.N, k.sc]; exact blkOk_by hb
          split
          · exact s_setLc k.calm nd hy hyl hsw (ih.i k tg it) ok (fun st H C cl fp => cT_ok (lc_parts ih k hb st H C cl fp) ht) (fun st H C cl fp => ifs_nil) (fun st H C cl fp => ih.e (lc_parts ih k hb st H C cl fp) elt) (folded_of X.env hs) (subB_of hsub)
          · split
            · rename_i c hc
              exact s_setLc k.calm nd hy hyl hsw (ih.i k tg it) ok (fun st H C cl fp => cT_ok (lc_parts ih k hb st H C cl fp) ht) (fun st H C cl fp => ifs_one (ih.t (lc_parts ih k hb st H C cl fp) c hc)) (fun st H C cl fp => ih.e (lc_parts ih k hb st H C cl fp) elt) (folded_of X.env hs) (subB_of hsub)
            · exact dead
          · exact dead
        · exact dead
      · exact dead
    · exact dead
theorem cS_ok (hp : PassesOwn (model X.prog X.w) X.A X.env X.xe) (k : Xok T ec F W r s X) : ∀ (n : Nat) (st : Stmt), GS X ec F W st (cS T n s st)
  | 0, st => by unfold cS; exact s_stuck
  | n + 1, st => by
    have ih := cS_ok hp k n
    have ce := c_ok (T := T) (ec := ec) (F := F) (r := r) n
    have hks := k.kind
    have nd : X.N.Nodup := by rw [k.N]; exact k.nd
    unfold cS
    split
    · exact s_pass
    · exact s_brk
    · exact s_doc
    · split
      · rename_i h
        exact s_expr (ce.e k _) (swB_of k.sc hks (optF h))
      · exact s_stuck
    · exact s_retN
    · split
      · rename_i i hi
        split
        · rename_i h
          obtain ⟨h, h4⟩ := ands h
          obtain ⟨h, h3⟩ := ands h
          obtain ⟨hd, hcd⟩ := okName_of h3
          exact s_retF (by rw [k.N]; exact ixOf_at hi) (k.vis h4) hd hcd
        · exact s_ret (ce.e k _)
      · exact s_ret (ce.e k _)
    · exact s_ret (v_e k _ _)
    · rename_i y p elt tg it ifs scope p2 pos
      split
      · rename_i i hi
        have hy : X.N[i]? = some y := by rw [k.N]; exact ixOf_at hi
        split
        · rename_i hsw
          split
          · rename_i hl
            have hl := optL hl
            exact setLc_ok k hy (by rw [k.sc]; exact hl) (swB_of k.sc hks hsw)
          · exact s_stuck
        · rename_i hsw
          split
          · rename_i hl
            obtain ⟨l1, l2⟩ := k.loc hl
            exact s_asg (ce.lc k _ _ _ _ _ _ _) (t_nm nd hy l1 l2) (swB_of k.sc hks hsw) rfl rfl
          · exact s_stuck
        · exact s_stuck
      · exact s_stuck
    · rename_i x px y py kt pt a b k2 pt2 pos
      split
      · rename_i l hw
        split
        · rename_i i j hi hj
          split
          · rename_i h
            obtain ⟨h, h5⟩ := ands h
            obtain ⟨h, h4⟩ := ands h
            obtain ⟨h, h3⟩ := ands h
            obtain ⟨h1, h2⟩ := ands h
            have h1 : l = [x, y] := beq_iff_eq.mp h1
            subst h1
            have hij : i ≠ j := by simpa using h2
            exact s_par k.calm nd (by rw [k.N]; exact ixOf_at hi) (by rw [k.N]; exact ixOf_at hj) hij (by rw [k.sc]; exact optL h3) (by rw [k.sc]; exact optL h4)
              (g_cons (noStar_of (ands h5).1) (v_e k _ a) (g_cons (noStar_of (ands (ands h5).2).1) (v_e k _ b) g_nil)) (swSt_of k.sc hks hw) rfl
          · exact s_stuck
        · exact s_stuck
      · rename_i hw
        split
        · rename_i t ht
          split
          · rename_i h5
            exact s_asg (g_tup (show 0 + 1 + 1 ≤ 1000 by decide) (g_cons (noStar_of (ands h5).1) (v_e k _ a) (g_cons (noStar_of (ands (ands h5).2).1) (v_e k _ b) g_nil))) (cT_ok k ht) rfl (swSt_of k.sc hks hw) rfl
          · exact s_stuck
        · exact s_stuck
      · exact s_stuck
    · rename_i x px y py z pz kt pt a b c k2 pt2 pos
      split
      · rename_i l hw
        split
        · rename_i i j w hi hj hz
          split
          · rename_i h
            obtain ⟨h1, h⟩ := ands h
            obtain ⟨h2, h⟩ := ands h
            obtain ⟨h3, h⟩ := ands h
            obtain ⟨h4, h⟩ := ands h
            obtain ⟨h5, h⟩ := ands h
            obtain ⟨h6, h⟩ := ands h
            obtain ⟨h7, h8⟩ := ands h
            have h1 : l = [x, y, z] := beq_iff_eq.mp h1
            subst h1
            have hij : i ≠ j := by simpa using h2
            have hil : i ≠ w := by simpa using h3
            have hjl : j ≠ w := by simpa using h4
            exact s_par3 k.calm nd (by rw [k.N]; exact ixOf_at hi) (by rw [k.N]; exact ixOf_at hj) (by rw [k.N]; exact ixOf_at hz) hij hil hjl (by rw [k.sc]; exact optL h5) (by rw [k.sc]; exact optL h6) (by rw [k.sc]; exact optL h7)
              (g_cons (noStar_of (ands h8).1) (v_e k _ a) (g_cons (noStar_of (ands (ands h8).2).1) (v_e k _ b) (g_cons (noStar_of (ands (ands (ands h8).2).2).1) (v_e k _ c) g_nil))) (swSt_of k.sc hks hw) rfl
          · exact s_stuck
        · exact s_stuck
      · rename_i hw
        split
        · rename_i t ht
          split
          · rename_i h5
            exact s_asg (g_tup (show 0 + 1 + 1 + 1 ≤ 1000 by decide) (g_cons (noStar_of (ands h5).1) (v_e k _ a) (g_cons (noStar_of (ands (ands h5).2).1) (v_e k _ b) (g_cons (noStar_of (ands (ands (ands h5).2).2).1) (v_e k _ c) g_nil)))) (cT_ok k ht) rfl (swSt_of k.sc hks hw) rfl
          · exact s_stuck
        · exact s_stuck
      · exact s_stuck
    · rename_i o i p' e pos
      split
      · rename_i h
        exact s_sub k.hu (ce.e k _) (ce.e k _) (ce.e k _) (fun v => by cases i <;> first | rfl | cases h) (by cases e <;> rfl) (by cases e <;> rfl) rfl
      · exact s_stuck
    · rename_i tg e pos
      split
      · rename_i t ht
        split
        · rename_i h
          obtain ⟨h, h3⟩ := ands h
          obtain ⟨h1, h2⟩ := ands h
          exact s_asg (v_e k _ _) (cT_ok k ht) (swB_of k.sc hks (optF h2)) (swSt_of k.sc hks (optN h3)) (each_plain X.env h1)
        · exact s_stuck
      · exact s_stuck
    · split
      · rename_i h
        exact s_if (ce.t k _ h) (ss_all fun x _ => ih x) (ss_all fun x _ => ih x)
      · exact s_stuck
    · split
      · rename_i h
        exact s_while hp (ce.t k _ h) (ss_all fun x _ => ih x)
      · exact s_stuck
    · split
      · rename_i t ht
        split
        · rename_i h
          exact s_for hp k.calm (ce.i k _ _) (cT_ok k ht) (ss_all fun x _ => ih x) (folded_of X.env h)
        · exact s_stuck
      · exact s_stuck
    · exact s_stuck
end
end Z

/-! Z, part J: a call's end; the defs, level by level; a law's end. -/
namespace Z
open PySem PySem.Spec PyProof.Rows L2
/-! ### what a call leaves -/
mutual
def lowB (n : Nat) : D → Bool
  | .tup ds => lowBs n ds
  | .lst ds => lowBs n ds
  | .scr ds => lowBs n ds
  | .ref i => decide (i < n)
  | _ => true
def lowBs (n : Nat) : List D → Bool
  | [] => true
  | d :: ds => lowB n d && lowBs n ds
end
mutual
theorem low_noref {n : Nat} : ∀ {d : D}, noref d = true → lowB n d = true
  | .tup ds, h => by unfold noref at h; unfold lowB; exact lows_noref h
  | .lst ds, h => by unfold noref at h; unfold lowB; exact lows_noref h
  | .scr ds, h => by unfold noref at h; unfold lowB; exact lows_noref h
  | .ref _, h => by unfold noref at h; cases h
  | .non, _ => by unfold lowB; rfl
  | .bl _, _ => by unfold lowB; rfl
  | .int _, _ => by unfold lowB; rfl
  | .str _, _ => by unfold lowB; rfl
  | .edic, _ => by unfold lowB; rfl
  | .exc _ _, _ => by unfold lowB; rfl
theorem lows_noref {n : Nat} : ∀ {ds : List D}, norefs ds = true → lowBs n ds = true
  | [], _ => by unfold lowBs; rfl
  | d :: ds, h => by
    unfold norefs at h
    obtain ⟨h1, h2⟩ := ands h
    unfold lowBs
    rw [low_noref h1, lows_noref h2]
    rfl
end
section
variable {K : PySem.W.Frag} {φ φ1 : Phi} {H H1 : Hp} {S S' : Store} {n : Nat}
mutual
theorem low_Rv : ∀ {v : V} {d : D}, Rv K φ H v d → lowB φ.c.length d = true
  | _, _, .non => by unfold lowB; rfl
  | _, _, .bl b => by unfold lowB; rfl
  | _, _, .int i => by unfold lowB; rfl
  | _, _, .str x => by unfold lowB; rfl
  | _, _, .tup t r => by unfold lowB; exact low_Rvs r
  | _, _, .lst h f r => by unfold lowB; exact low_Rvs r
  | _, _, .scr h r => by unfold lowB; exact low_Rvs r
  | _, _, .edic h f => by unfold lowB; rfl
  | _, _, .ref h q => by unfold lowB; exact decide_eq_true (List.getElem?_eq_some_iff.mp h).1
theorem low_Rvs : ∀ {vs : List V} {ds : List D}, Rvs K φ H vs ds → lowBs φ.c.length ds = true
  | _, _, .nil => by unfold lowBs; rfl
  | _, _, .cons r rs => by unfold lowBs; rw [low_Rv r, low_Rvs rs]; rfl
end
abbrev Phi.cap (φ : Phi) (n : Nat) : Phi := ⟨φ.c.take n, φ.h⟩
theorem cap_at {i : Nat} {x : Option Addr} (h : (φ.c.take n)[i]? = some x) : φ.c[i]? = some x ∧ i < n := by
  rw [List.getElem?_take] at h
  split at h
  · exact ⟨h, by assumption⟩
  · cases h
theorem cap_up {i : Nat} {x : Option Addr} (h : φ.c[i]? = some x) (hi : i < n) : (φ.c.take n)[i]? = some x := by
  rw [List.getElem?_take, if_pos hi]
  exact h
theorem Free.cap {a : Addr} (f : Free φ a) : Free (φ.cap n) a := ⟨fun i h => f.1 i (cap_at h).1, f.2⟩
mutual
theorem Rv.cap : ∀ {v : V} {d : D}, Rv K φ H v d → lowB n d = true → Rv K (φ.cap n) H v d
  | _, _, .non, _ => .non
  | _, _, .bl b, _ => .bl b
  | _, _, .int i, _ => .int i
  | _, _, .str x, _ => .str x
  | _, _, .tup t r, h => .tup (by
      rcases t with ⟨h, f⟩ | h
      · exact .inl ⟨h, f.cap⟩
      · exact .inr h) (Rvs.cap r (by unfold lowB at h; exact h))
  | _, _, .lst q f r, h => .lst q f.cap (Rvs.cap r (by unfold lowB at h; exact h))
  | _, _, .scr t r, h => .scr (by
      rcases t with ⟨h, f⟩ | h
      · exact .inl ⟨h, f.cap⟩
      · exact .inr h) (Rvs.cap r (by unfold lowB at h; exact h))
  | _, _, .edic q f, _ => .edic q f.cap
  | _, _, .ref q p, h => .ref (cap_up q (by unfold lowB at h; exact of_decide_eq_true h)) p
theorem Rvs.cap : ∀ {vs : List V} {ds : List D}, Rvs K φ H vs ds → lowBs n ds = true → Rvs K (φ.cap n) H vs ds
  | _, _, .nil, _ => .nil
  | _, _, .cons r rs, h => by
      unfold lowBs at h
      obtain ⟨h1, h2⟩ := ands h
      exact .cons (Rv.cap r h1) (Rvs.cap rs h2)
end
def Cell.low (n : Nat) : Cell → Bool
  | .lst ds => lowBs n ds
  | .dk kvs => lowBs n (kvs.map (·.2))
  | .dt kvs => lowBs n (kvs.map (·.2))
  | .gone => true
theorem Cell.low_noref {c : Cell} (h : c.noref = true) : c.low n = true := by
  cases c with
  | lst ds => exact lows_noref h
  | dk kvs => exact lows_noref h
  | dt kvs => exact lows_noref h
  | gone => rfl
theorem Cell.low_RC {o : Option (Option Addr)} {c : Cell} (h : RC K φ H o c) : c.low φ.c.length = true := by
  cases c with
  | lst ds => obtain ⟨_, _, _, _, r⟩ := h; exact low_Rvs r
  | dk kvs => obtain ⟨_, _, _, _, _, r⟩ := h; exact low_Rvs r
  | dt kvs => obtain ⟨_, _, _, _, _, r⟩ := h; exact low_Rvs r
  | gone => rfl
theorem RC.cap {o : Option (Option Addr)} {c : Cell} (h : RC K φ H o c) (l : c.low n = true) : RC K (φ.cap n) H o c := by
  cases c with
  | lst ds => obtain ⟨a, xs, e1, e2, r⟩ := h; exact ⟨a, xs, e1, e2, r.cap l⟩
  | dk kvs => obtain ⟨a, xs, e1, e2, e3, r⟩ := h; exact ⟨a, xs, e1, e2, e3, r.cap l⟩
  | dt kvs => obtain ⟨a, xs, e1, e2, e3, r⟩ := h; exact ⟨a, xs, e1, e2, e3, r.cap l⟩
  | gone => exact h
/-- the store, cut to what stood before -/
theorem Rs.cap (r0 : Rs K φ S H) (r1 : Rs K φ1 S' H1) (k : Keep S S') : Rs K (φ1.cap S.length) (S'.take S.length) H1 := by
  refine ⟨by rw [List.length_take, List.length_take, r1.len], fun i j a h1 h2 => r1.nd i j a (cap_at h1).1 (cap_at h2).1, fun i a h => r1.tr i a (cap_at h).1, r1.ht, fun i c h => ?_⟩
  rw [List.getElem?_take] at h
  split at h
  · rename_i hi
    show RC K (φ1.cap S.length) H1 (φ1.c.take S.length)[i]? c
    rw [List.getElem?_take, if_pos hi]
    have rc := r1.cell i c h
    refine rc.cap ?_
    rcases k.2 i hi with e | ⟨c', e, nr⟩
    · rw [e] at h
      have := Cell.low_RC (r0.cell i c h)
      rw [r0.len] at this
      exact this
    · rw [e] at h
      cases h
      exact Cell.low_noref nr
  · cases h
theorem Ext.cap (r0 : Rs K φ S H) (e : Ext φ H φ1 H1) : Ext φ H (φ1.cap S.length) H1 := by
  refine .mk' ?_ (fun i o h => ?_) (fun a o f h => ⟨(e.keep a o f h).1, (e.keep a o f h).2.cap⟩) fun a o f h => e.hid a o f h
  · show φ.c.length ≤ (φ1.c.take S.length).length
    rw [List.length_take]
    have := e.len
    have := r0.len
    omega
  · have hi : i < S.length := by rw [← r0.len]; exact (List.getElem?_eq_some_iff.mp h).1
    rcases e.pre i o h with q | q
    · exact .inl (cap_up q hi)
    · exact .inr (cap_up q hi)
variable {ec : Nat → Value} {W W' : WX} {σ : St} {Q : VK}
theorem gc_ok (r0 : Rs K φ S H) {r : R D} (h : OutG (Rv K) K ec W σ φ H (gc S r) Q) : OutG (Rv K) K ec W σ φ H r Q := by
  cases r with
  | ok d S1 =>
    by_cases k : Keep S S1 ∧ noref d = true
    · simp only [gc, if_pos k] at h
      exact fun φ' v H' e rs rv => h (φ'.cap S.length) v H' (e.cap r0) (r0.cap rs k.1) (rv.cap (low_noref k.2))
    · simp only [gc, if_neg k] at h
      exact h
  | exc c a S1 =>
    by_cases k : Keep S S1 ∧ noref a = true
    · simp only [gc, if_pos k] at h
      refine fun φ' H' dd e rs xd => h (φ'.cap S.length) H' dd (e.cap r0) (r0.cap rs k.1) ?_
      unfold Xd at xd ⊢
      cases a with
      | non => exact xd
      | _ =>
        obtain ⟨p, v, e1, e2, e3⟩ := xd
        exact ⟨p, v, e1, e2, e3.cap (low_noref k.2)⟩
    · simp only [gc, if_neg k] at h
      exact h
  | stuck => exact h
/-- from a call's promise to its body's -/
theorem out_body {E : XK} {r : SR} (h : OutG (Rv K) K ec (fun cls d _ H' => E cls d H') [] φ H r.out Q) : OutS K ec (fun cls d _ H' => E cls d H') { nx := fun _ H' => Q .non H', rt := Q } φ H r := by
  cases r with
  | nx δ S1 => exact fun φ' σ' H' e rs re => h φ' .non H' e rs .non
  | rt d S1 => exact fun φ' v H' e rs rv => h φ' v H' e rs rv
  | bk δ S1 => exact h.elim
  | xc c a δ S1 => exact fun φ' σ' H' dd e rs re xd => h φ' H' dd e rs xd
  | stuck => exact h.elim
end
/-! ### the defs -/
structure DefI where
  name : Str
  st : Stmt
  ps : List Str
  N : List Str
  mv : List Nat
  rm : Bool
def DefI.sc (d : DefI) : Sc := ⟨d.N, defScope d.st, fun _ => true, d.mv, d.rm⟩
def DefI.cf (T : Tab) (fuel : Nat) (d : DefI) : CF := ⟨d.ps.length, d.N.length, cSs (cS T fuel d.sc) (defBody d.st)⟩
def plainArgs (a : Arguments) (ps : List Str) : Bool := a.posonlyargs.isEmpty && a.vararg.isNone && a.kwonlyargs.isEmpty && a.kw_defaults.isEmpty && a.kwarg.isNone && a.defaults.isEmpty && (a.args.map (·.arg) == ps) && decide (ps.length ≤ 8)
def nodupB (l : List Str) : Bool := match l with
  | [] => true
  | x :: xs => !(xs.any fun y => y == x) && nodupB xs
theorem nodupB_of : ∀ {l : List Str}, nodupB l = true → l.Nodup
  | [], _ => List.nodup_nil
  | x :: xs, h => by
    unfold nodupB at h
    obtain ⟨h1, h2⟩ := ands h
    refine List.nodup_cons.mpr ⟨fun hx => ?_, nodupB_of h2⟩
    have : (xs.any fun y => y == x) = true := List.any_eq_true.mpr ⟨x, hx, beq_self_eq_true x⟩
    rw [this] at h1
    cases h1
def kindB (a b : NameKind) : Bool := a == b
def scopeB (N ps : List Str) (sc : Scope) : Bool := (sc.kind == .function) && (!sc.isCoroutine && (!sc.isGenerator && (nodupB N && ((N.take ps.length == ps) && ((ps.all fun x => (sc.names.lookup x == some .local) || (sc.names.lookup x == some .cell)) && sc.names.all fun y => !(y.2 == .free))))))
theorem kind_eq {a b : ScopeKind} (h : (a == b) = true) : a = b := by cases a <;> cases b <;> first | rfl | cases h
theorem nkind_eq {a b : NameKind} (h : (a == b) = true) : a = b := by cases a <;> cases b <;> first | rfl | cases h
theorem scopeB_of {N ps : List Str} {sc : Scope} (h : scopeB N ps sc = true) : FnScope N ps sc := by
  unfold scopeB at h
  obtain ⟨h1, h⟩ := ands h
  obtain ⟨h2, h⟩ := ands h
  obtain ⟨h3, h⟩ := ands h
  obtain ⟨h4, h⟩ := ands h
  obtain ⟨h5, h⟩ := ands h
  obtain ⟨h6, h7⟩ := ands h
  refine ⟨kind_eq h1, by simpa using h2, by simpa using h3, nodupB_of h4, beq_iff_eq.mp h5, fun x hx => ?_, fun y hy e => ?_⟩
  · have := List.all_eq_true.mp h6 x hx
    rcases Bool.or_eq_true_iff.mp this with q | q
    · exact .inl (optL q)
    · exact .inr (optL q)
  · have := List.all_eq_true.mp h7 y hy
    rw [e] at this
    cases this
def DefI.chk (d : DefI) : Bool := scopeB d.N d.ps (defScope d.st) && plainArgs (defArgs d.st) d.ps

theorem fmap_congr {α β : Type} {f g : α → Option β} : ∀ {l : List α}, (∀ x ∈ l, f x = g x) → l.filterMap f = l.filterMap g
  | [], _ => rfl
  | x :: xs, h => by
    rw [List.filterMap_cons, List.filterMap_cons, h x List.mem_cons_self, fmap_congr (l := xs) fun y hy => h y (List.mem_cons_of_mem _ hy)]
theorem zip_look {α β : Type} [BEq α] [LawfulBEq α] : ∀ {ps : List α} {us : List β} {n : α}, us.length = ps.length → n ∈ ps → ((ps.zip us).lookup n).isSome = true
  | [], _, _, _, h => by cases h
  | _ :: _, [], _, hl, _ => by simp at hl
  | p :: ps, u :: us, n, hl, h => by
    rw [List.zip_cons_cons, List.lookup_cons]
    by_cases e : (n == p) = true
    · rw [e]; rfl
    · have e' : (n == p) = false := by simpa using e
      rw [e']
      refine zip_look (by simpa using hl) ?_
      rcases List.mem_cons.mp h with z | z
      · subst z; rw [beq_self_eq_true] at e'; cases e'
      · exact z
theorem zip_none {α β : Type} [BEq α] [LawfulBEq α] {ps : List α} {us : List β} (hl : us.length = ps.length) : (ps.filter fun n => ((ps.zip us).lookup n).isNone) = [] := by
  rw [List.filter_eq_nil_iff]
  intro a ha h
  have := zip_look hl ha
  cases e : (ps.zip us).lookup a with
  | none => rw [e] at this; cases this
  | some _ => rw [e] at h; cases h
theorem zip_some {α β : Type} [BEq α] [LawfulBEq α] : ∀ {ps : List α} {us : List β}, us.length = ps.length → ps.Nodup → ps.filterMap (fun n => ((ps.zip us).lookup n).map fun x => (n, x)) = ps.zip us
  | [], _, _, _ => rfl
  | _ :: _, [], hl, _ => by simp at hl
  | p :: ps, u :: us, hl, nd => by
    obtain ⟨n1, n2⟩ := List.nodup_cons.mp nd
    have ih := zip_some (ps := ps) (us := us) (by simpa using hl) n2
    rw [List.zip_cons_cons, List.filterMap_cons, List.lookup_cons, beq_self_eq_true]
    show (p, u) :: List.filterMap _ ps = _
    rw [List.cons.injEq]
    refine ⟨rfl, Eq.trans ?_ ih⟩
    have : ∀ n ∈ ps, (List.lookup n ((p, u) :: ps.zip us)).map (fun x => (n, x)) = ((ps.zip us).lookup n).map fun x => (n, x) := fun n hn => by
      rw [List.lookup_cons]
      by_cases e : (n == p) = true
      · have := beq_iff_eq.mp e; subst this; exact absurd hn n1
      · have e' : (n == p) = false := by simpa using e
        rw [e']
    exact (fmap_congr this)
theorem args_bind {a : Arguments} {ps : List Str} (h : plainArgs a ps = true) (nd : ps.Nodup) {x qual : Str} {body : List Stmt} {scope : Scope} (kV doc pm : Value) (an : Option Addr) (cdv ct : Value) (us : List Value) (hl : us.length = ps.length) :
    bindArgs (PySem.W.fnOf x qual a body scope .none kV doc pm an cdv ct) ⟨us, []⟩ = pure (ps.zip us) := by
  unfold plainArgs at h
  obtain ⟨h, h8⟩ := ands h
  obtain ⟨h, h7⟩ := ands h
  obtain ⟨h, h6⟩ := ands h
  obtain ⟨h, h5⟩ := ands h
  obtain ⟨h, h4⟩ := ands h
  obtain ⟨h, h3⟩ := ands h
  obtain ⟨h1, h2⟩ := ands h
  have h7 : a.args.map (·.arg) = ps := beq_iff_eq.mp h7
  obtain ⟨po, as, va, ko, kd, ka, df⟩ := a
  clear h h8
  cases po with
  | cons _ _ => cases h1
  | nil =>
  cases va with
  | some _ => cases h2
  | none =>
  cases ko with
  | cons _ _ => cases h3
  | nil =>
  cases kd with
  | cons _ _ => cases h4
  | nil =>
  cases ka with
  | some _ => cases h5
  | none =>
  cases df with
  | cons _ _ => cases h6
  | nil =>
  have h7 : as.map (·.arg) = ps := h7
  unfold bindArgs PySem.W.fnOf
  have sn : seqItems? Value.none = pure none := rfl
  simp only [h7, List.map_nil, List.nil_append, List.forIn_nil, pure_bind, sn, Option.getD_none, List.length_nil, hl, gt_iff_lt, Nat.lt_irrefl, List.drop_nil, Nat.zero_sub, Nat.sub_zero, List.take_length, zip_none hl, List.isEmpty_nil, Bool.not_true, List.zip_nil_right, List.append_nil, zip_some hl nd, decide_false, Bool.false_and, Bool.false_eq_true, if_false, List.drop_length, List.zip_nil_left]
/-! ### level by level -/
structure Bench (T : Tab) (defs : List DefI) (K : PySem.W.Frag) (mg : Str → Option Value) : Prop where
  chk : ∀ (i : Nat) (d : DefI), defs[i]? = some d → d.chk = true
  glo : ∀ (i : Nat) (d : DefI), defs[i]? = some d → mg d.name = some (.ref (He.ga K d.name)) ∧ ∃ fd, FunD K d.name d.name (defArgs d.st) (defBody d.st) (defScope d.st) [] [] (He.ga K d.name) fd
  bl : ∀ x, T.bl.contains x = true → mg x = none
  fns : ∀ x i, T.fns.lookup x = some i → ∃ d, defs[i]? = some d ∧ d.name = x
  cons : ∀ x d, T.cons.lookup x = some d → ∃ u v, mg x = some u ∧ RelV v u ∧ ∀ φ H, Rv K φ H v d
def prog (T : Tab) (fuel : Nat) (defs : List DefI) (i : Nat) : Option CF := (defs[i]?).map (·.cf T fuel)
section
variable {T : Tab} {fuel : Nat} {defs : List DefI} {P : Program} {w : World} {K : PySem.W.Frag} {mg : Str → Option Value} {base : Heap} {ec : Nat → Value}
theorem re_start {φ : Phi} {H : Hp} {vs : List V} {ds : List D} {N : List Str} (r : Rvs K φ H vs ds) (hn : ds.length ≤ N.length) : RE K φ H (ds.map some ++ List.replicate (N.length - ds.length) none) (L2.start N vs) := by
  have hl := r.len
  unfold L2.start
  refine ⟨by simp [hl], fun i d h => ?_⟩
  by_cases hi : i < ds.length
  · rw [List.getElem?_append_left (by simpa using hi)] at h
    rw [List.getElem?_append_left (by rw [List.length_map, hl]; exact hi)]
    rw [List.getElem?_map] at h ⊢
    cases e : ds[i]? with
    | none => rw [e] at h; cases h
    | some d' =>
      rw [e] at h
      cases h
      obtain ⟨v, h1, h2⟩ := r.get e
      exact ⟨v, by rw [h1]; rfl, h2⟩
  · rw [List.getElem?_append_right (by simpa using hi)] at h
    rw [List.getElem?_replicate] at h
    split at h <;> cases h
theorem lvl (B : Bench T defs K mg) (sk : seerB K = true) (tree : P.given.tree = none) : ∀ (n i : Nat) (d : DefI) (fd : FuncData), defs[i]? = some d → FunD K d.name d.name (defArgs d.st) (defBody d.st) (defScope d.st) [] [] (He.ga K d.name) fd →
    FnOk P w K mg base (L2N.CX P w) (n + 40) (He.ga K d.name) fd d.ps (spF K ec (evF (prog T fuel defs) n) i)
  | 0, i, d, fd, hd, F => ⟨fun vs H Q E ⟨φ, S, ds, rs, r, h⟩ => by unfold evF at h; exact h.elim, fun A outer s H args us vs Q E hr e0 hb rv ⟨φ, S, ds, rs, r, h⟩ => by unfold evF at h; exact h.elim⟩
  | n + 1, i, d, fd, hd, F => by
    have ck := B.chk i d hd
    unfold DefI.chk at ck
    obtain ⟨c1, c2⟩ := ands ck
    have sco := scopeB_of c1
    have hp : prog T fuel defs i = some (d.cf T fuel) := by unfold prog; rw [hd]; rfl
    have key : ∀ {vs : List V} {H : Hp} {Q : VK} {E : XK}, spF K ec (evF (prog T fuel defs) (n + 1)) i vs H Q E → ∃ φ S ds, Rs K φ S H ∧ Rvs K φ H vs ds ∧ ds.length = d.ps.length ∧ ds.length ≤ d.N.length ∧
        OutG (Rv K) K ec (fun cls d _ H' => E cls d H') [] φ H (run (evF (prog T fuel defs) n) (cSs (cS T fuel d.sc) (defBody d.st)) (ds.map some ++ List.replicate (d.N.length - ds.length) none) S).out Q := fun {vs H Q E} ⟨φ, S, ds, rs, r, h⟩ => by
      simp only [evF, hp] at h
      by_cases hc : ds.length = (d.cf T fuel).np ∧ (d.cf T fuel).np ≤ (d.cf T fuel).ns
      · rw [if_pos hc] at h
        refine ⟨φ, S, ds, rs, r, hc.1, by rw [hc.1]; exact hc.2, ?_⟩
        have h2 := gc_ok rs h
        have e : d.N.length - ds.length = (d.cf T fuel).ns - (d.cf T fuel).np := by rw [hc.1]; rfl
        rw [e]
        exact h2
      · rw [if_neg hc] at h
        exact h.elim
    refine F.ok sco (fun vs H Q E h => ?_) (fun cdv A outer s H vs Q E hr h => ?_)
    · obtain ⟨φ, S, ds, rs, r, hl, _⟩ := key h
      rw [r.len, hl]
    · obtain ⟨φ, S, ds, rs, r, hl, hn, h⟩ := key h
      have tk : L2N.Takes (cxOf (L2N.CX P w) P w K mg base d.N d.name (defScope d.st) (He.ga K d.name) cdv A outer s H E) (fun cls d _ H => E cls d H) := L2N.takes_of rfl rfl rfl rfl
      have k : Xok T ec (evF (prog T fuel defs) n) (fun cls d _ H => E cls d H) (n + 40) d.sc (cxOf (L2N.CX P w) P w K mg base d.N d.name (defScope d.st) (He.ga K d.name) cdv A outer s H E) := {
        N := rfl
        nd := sco.nd
        sc := rfl
        kind := sco.kind
        fn := rfl
        calm := rfl
        hu := by exact Nat.lt_of_le_of_lt (Nat.add_le_add (Nat.le_add_right _ _) (by decide : 65 ≤ 200)) hr.un
        room := hr
        tk := tk
        bl := B.bl
        fns := fun x j hj => by
          obtain ⟨d', hd', rfl⟩ := B.fns x j hj
          obtain ⟨hm, fd', F'⟩ := B.glo j d' hd'
          have ck' := B.chk j d' hd'
          unfold DefI.chk at ck'
          obtain ⟨c1', c2'⟩ := ands ck'
          have sco' := scopeB_of c1'
          have nd' : d'.ps.Nodup := by
            rw [← sco'.pre]
            exact sco'.nd.sublist (List.take_sublist _ _)
          exact ⟨_, fd', d'.ps, hm, F'.kp, F'.bindsN fun kV doc pm an cdv ct us hl => args_bind c2' nd' kV doc pm an cdv ct us hl, lvl B sk tree n j d' fd' hd' F'⟩
        cons := B.cons
        sx := ⟨sk, tree, by
          have := hr.dp
          show (A.deeper _).depth + Builtin.pylongFrames < recursionLimit
          unfold Builtin.pylongFrames
          unfold recursionLimit at this ⊢
          omega, ⟨_, _, rfl, sco.gen, sco.co, rfl, rfl⟩⟩ }
      have hp : PassesOwn (model P w) (cxOf (L2N.CX P w) P w K mg base d.N d.name (defScope d.st) (He.ga K d.name) cdv A outer s H E).A (cxOf (L2N.CX P w) P w K mg base d.N d.name (defScope d.st) (He.ga K d.name) cdv A outer s H E).env (cxOf (L2N.CX P w) P w K mg base d.N d.name (defScope d.st) (He.ga K d.name) cdv A outer s H E).xe := L2.passes_of (X := cxOf (L2N.CX P w) P w K mg base d.N d.name (defScope d.st) (He.ga K d.name) cdv A outer s H E) rfl
      exact ⟨_, ss_all fun st _ => cS_ok hp k fuel st, φ, _, S, rs, re_start r hn, out_body h⟩
end
end Z

/-! Z, part K: the module's constants; the head's Hook; a law's end. -/
namespace Z
open PySem PySem.Spec PyProof.Rows L2
mutual
def kD (K : PySem.W.Frag) : D → Value → Bool
  | .non, .none => true
  | .bl a, .bool b => a == b
  | .int i, .int j _ => decide (i = j)
  | .str x, .str y _ => decide (x = y)
  | .tup ds, .ref a => (match K.lookup a with
    | some ⟨.type c, _, .seq its _, _⟩ => decide (c = "tuple") && (decide (its.size ≤ sizeLine) && kDs K ds its.toList)
    | _ => false)
  | .scr ds, .ref a => (match K.lookup a with
    | some ⟨.type c, none, .seq its _, _⟩ => decide (c = "list") && (decide (its.size ≤ sizeLine) && kDs K ds its.toList)
    | _ => false)
  | _, _ => false
def kDs (K : PySem.W.Frag) : List D → List Value → Bool
  | [], [] => true
  | d :: ds, u :: us => kD K d u && kDs K ds us
  | _, _ => false
end
mutual
theorem kD_ok {K : PySem.W.Frag} : ∀ {d : D} {u : Value}, kD K d u = true → ∃ v, RelV v u ∧ ∀ φ H, Rv K φ H v d
  | .non, u, h => by
    cases u with
    | none => exact ⟨.non, rfl, fun _ _ => .non⟩
    | _ => unfold kD at h; cases h
  | .bl a, u, h => by
    cases u with
    | bool b =>
      unfold kD at h
      have e : a = b := eq_of_beq h
      subst e
      exact ⟨.bl a, rfl, fun _ _ => .bl a⟩
    | _ => unfold kD at h; cases h
  | .int i, u, h => by
    cases u with
    | int j t =>
      unfold kD at h
      have e : i = j := of_decide_eq_true h
      subst e
      exact ⟨.int i, ⟨t, rfl⟩, fun _ _ => .int i⟩
    | _ => unfold kD at h; cases h
  | .str i, u, h => by
    cases u with
    | str j t =>
      unfold kD at h
      have e : i = j := of_decide_eq_true h
      subst e
      exact ⟨.str i, ⟨t, rfl⟩, fun _ _ => .str i⟩
    | _ => unfold kD at h; cases h
  | .tup ds, u, h => by
    cases u with
    | ref a =>
      unfold kD at h
      cases q : K.lookup a with
      | none => rw [q] at h; cases h
      | some o =>
        obtain ⟨oc, od, dt, osl⟩ := o
        rw [q] at h
        cases oc with
        | type c =>
          cases dt with
          | seq its n =>
            obtain ⟨h1, h2⟩ := ands (show (decide (c = "tuple") && (decide (its.size ≤ sizeLine) && kDs K ds its.toList)) = true from h)
            obtain ⟨h3, h4⟩ := ands h2
            obtain ⟨vs, r1, r2⟩ := kDs_ok h4
            exact ⟨.ref a, rfl, fun φ H => .tup (.inr ⟨_, its, n, q, congrArg Value.type (of_decide_eq_true h1), rfl, of_decide_eq_true h3, r1⟩) (r2 φ H)⟩
          | _ => cases h
        | _ => cases dt <;> cases h
    | _ => unfold kD at h; cases h
  | .scr ds, u, h => by
    cases u with
    | ref a =>
      unfold kD at h
      cases q : K.lookup a with
      | none => rw [q] at h; cases h
      | some o =>
        obtain ⟨oc, od, dt, osl⟩ := o
        rw [q] at h
        cases oc with
        | type c =>
          cases od with
          | none =>
            cases dt with
            | seq its n =>
              obtain ⟨h1, h2⟩ := ands (show (decide (c = "list") && (decide (its.size ≤ sizeLine) && kDs K ds its.toList)) = true from h)
              obtain ⟨h3, h4⟩ := ands h2
              obtain ⟨vs, r1, r2⟩ := kDs_ok h4
              exact ⟨.ref a, rfl, fun φ H => .scr (.inr ⟨_, its, n, q, congrArg Value.type (of_decide_eq_true h1), rfl, rfl, of_decide_eq_true h3, r1⟩) (r2 φ H)⟩
            | _ => cases h
          | some _ => cases dt <;> cases h
        | _ => cases od <;> cases dt <;> cases h
    | _ => unfold kD at h; cases h
  | .lst _, u, h => by cases u <;> (unfold kD at h; cases h)
  | .edic, u, h => by cases u <;> (unfold kD at h; cases h)
  | .ref _, u, h => by cases u <;> (unfold kD at h; cases h)
  | .exc _ _, u, h => by cases u <;> (unfold kD at h; cases h)
theorem kDs_ok {K : PySem.W.Frag} : ∀ {ds : List D} {us : List Value}, kDs K ds us = true → ∃ vs, Vals vs us ∧ ∀ φ H, Rvs K φ H vs ds
  | [], [], _ => ⟨[], .nil, fun _ _ => .nil⟩
  | d :: ds, u :: us, h => by
    unfold kDs at h
    obtain ⟨h1, h2⟩ := ands h
    obtain ⟨v, r1, r2⟩ := kD_ok h1
    obtain ⟨vs, r3, r4⟩ := kDs_ok h2
    exact ⟨v :: vs, .cons r1 r3, fun φ H => .cons (r2 φ H) (r4 φ H)⟩
  | [], _ :: _, h => by unfold kDs at h; cases h
  | _ :: _, [], h => by unfold kDs at h; cases h
end
def conB (K : PySem.W.Frag) (q : Str × D) : Bool := match PySem.W.nsIn K mainGlobals q.1 with
  | some (some u) => kD K q.2 u
  | _ => false
theorem conB_ok {K : PySem.W.Frag} {h : Heap} {mg : Str → Option Value} (X : K.In h) (G : h.Ns mainGlobals mg) {q : Str × D} (c : conB K q = true) : ∃ u v, mg q.1 = some u ∧ RelV v u ∧ ∀ φ H, Rv K φ H v q.2 := by
  unfold conB at c
  cases e : PySem.W.nsIn K mainGlobals q.1 with
  | none => rw [e] at c; cases c
  | some o =>
    rw [e] at c
    cases o with
    | none => cases c
    | some u =>
      obtain ⟨v, r1, r2⟩ := kD_ok c
      exact ⟨u, v, PySem.W.mg_of X G e, r1, r2⟩

/-! ### the head -/
def mkD (d : DefI) : He.DefD := ⟨(d.name, none), d.name, d.name, defArgs d.st, defBody d.st, defScope d.st, [], []⟩
/-- what a law's text holds -/
structure Lw where
  defs : List DefI
  bl : List Str
  cons : List (Str × D)
  fuel : Nat
def Lw.tab (L : Lw) : Tab := ⟨(L.defs.map (·.name)).zipIdx, L.cons, L.bl, []⟩
def Lw.fa (L : Lw) : List He.Fa := L.defs.map (fun d => .glo d.name) ++ L.bl.map .free
def Lw.fn (L : Lw) : List He.DefD := L.defs.map mkD
def Lw.prog (L : Lw) : Nat → Option CF := Z.prog L.tab L.fuel L.defs
abbrev ObZ : Type := Bool × He.AlD
def obsZ (L : Lw) (K : PySem.W.Frag) : ObZ := (seerB K && L.cons.all (conB K), He.obsD L.fa L.fn K)
def valZ (L : Lw) : ObZ := (true, He.valD L.fn)
def SaysZ (L : Lw) (K : PySem.W.Frag) : Prop := obsZ L K = valZ L
def obsZG (n : Nat) (L : Lw) (g : Addr → Option Obj) : ObZ := obsZ L (He.frG g (cStatics :: sysModules :: He.asD g n))
def hookZ (n : Nat) (L : Lw) : PySem.W.Hook where
  α := ObZ
  obs := fun s => obsZG n L s.heap.get?
  val := fun _ => valZ L
  says := fun _ h => ∃ K : PySem.W.Frag, K.In h ∧ SaysZ L K
  of := fun _ _ e => ⟨_, He.frG_in, e⟩
  keeps := fun _ _ _ ⟨K, hK, c⟩ k => ⟨K, PySem.W.Frag.In.keeps hK k, c⟩
theorem obsZG_eq {n : Nat} {L : Lw} {g : Addr → Option Obj} {s : Shared} (h : ∀ a, g a = s.heap.get? a) : obsZG n L g = (hookZ n L).obs s := by
  have e : g = s.heap.get? := funext h
  rw [e] <;> rfl
def Lw.chk (L : Lw) : Bool := L.defs.all DefI.chk
theorem fact_mem {fa : List He.Fa} {fn : List He.DefD} {K : PySem.W.Frag} (c : He.SaysD fa fn K) {f : He.Fa} (h : f ∈ fa) : f.ok K = true := by
  obtain ⟨i, hi⟩ := List.mem_iff_getElem?.mp h
  exact c.fact i hi
theorem look_zip {x : Str} {i : Nat} : ∀ {l : List Str} {k : Nat}, (l.zipIdx k).lookup x = some i → k ≤ i ∧ l[i - k]? = some x
  | [], _, h => by cases h
  | y :: l, k, h => by
    rw [List.zipIdx_cons, List.lookup_cons] at h
    by_cases e : (x == y) = true
    · rw [e] at h
      have h : some k = some i := h
      cases h
      rw [beq_iff_eq.mp e]
      exact ⟨Nat.le_refl _, by simp⟩
    · have e' : (x == y) = false := by simpa using e
      rw [e'] at h
      obtain ⟨h1, h2⟩ := look_zip h
      refine ⟨by omega, ?_⟩
      have : i - k = (i - (k + 1)) + 1 := by omega
      rw [this, List.getElem?_cons_succ]
      exact h2
theorem sk_of {L : Lw} {K : PySem.W.Frag} (c : SaysZ L K) : seerB K = true := by
  have c1 : (seerB K && L.cons.all (conB K)) = true := congrArg (fun z : ObZ => z.1) c
  exact (ands2 c1).1
theorem bench_of {L : Lw} {K : PySem.W.Frag} {h : Heap} {mg : Str → Option Value} (X : K.In h) (G : h.Ns mainGlobals mg) (c : SaysZ L K) (ck : L.chk = true) : Bench L.tab L.defs K mg := by
  have c1 : L.cons.all (conB K) = true := (ands2 (congrArg (fun z : ObZ => z.1) c : (seerB K && L.cons.all (conB K)) = true)).2
  have c2 : He.SaysD L.fa L.fn K := congrArg (fun z : ObZ => z.2) c
  refine ⟨fun i d hd => List.all_eq_true.mp ck d (List.mem_of_getElem? hd), fun i d hd => ⟨?_, ?_⟩, fun x hx => ?_, fun x i hi => ?_, fun x d hd => ?_⟩
  · exact He.glo_ok X G (fact_mem c2 (List.mem_append_left _ (List.mem_map.mpr ⟨d, List.mem_of_getElem? hd, rfl⟩)))
  · exact c2.def_ i (d := mkD d) (by unfold Lw.fn; rw [List.getElem?_map, hd]; rfl)
  · have hx : x ∈ L.bl := by
      have : L.bl.contains x = true := hx
      simpa using this
    exact He.free_ok X G (fact_mem c2 (List.mem_append_right _ (List.mem_map.mpr ⟨x, hx, rfl⟩)))
  · obtain ⟨_, h2⟩ := look_zip (show ((L.defs.map (·.name)).zipIdx 0).lookup x = some i from hi)
    rw [Nat.sub_zero, List.getElem?_map] at h2
    cases e : L.defs[i]? with
    | none => rw [e] at h2; cases h2
    | some d => rw [e] at h2; exact ⟨d, rfl, Option.some.inj h2⟩
  · have := List.all_eq_true.mp c1 (x, d) (PySem.mem_of_lookup hd)
    exact conB_ok X G this
/-- the script -/
theorem scr_of {K : PySem.W.Frag} {H : Hp} {a : Addr} {ns : List Int} (hO : Only H) (hS : SqL K H a (ns.map V.int)) : Rv K ⟨[], []⟩ H (.ref a) (.scr (ns.map D.int)) := by
  have hint : ∀ ns : List Int, Rvs K ⟨[], []⟩ H (ns.map V.int) (ns.map D.int) := fun ns => by
    induction ns with
    | nil => exact .nil
    | cons n ns ih => exact .cons (.int n) ih
  have fr : Free ⟨[], []⟩ a := ⟨fun i h => by simp at h, fun h => by cases h⟩
  refine .scr ?_ (hint ns)
  rcases hS with (h | ⟨o, h⟩) | h
  · rcases hO a with q | ⟨o, xs, q⟩
    · rw [q] at h; cases h
    · rw [q] at h; cases h
  · exact .inl ⟨⟨o, h⟩, fr⟩
  · exact .inr h
theorem rs_nil {K : PySem.W.Frag} {H : Hp} : Rs K ⟨[], []⟩ [] H := ⟨rfl, fun i j a h => by simp at h, fun i a h => by simp at h, fun a h => (by cases h), fun i c h => by simp at h⟩
/-- what the law is to answer -/
def Lw.Good (L : Lw) (k n i : Nat) : Prop := ∀ ns : List Int, ns.length ≤ n → ∃ S, evF L.prog k i [.scr (ns.map D.int)] [] = .ok (.bl true) S
theorem law_facts {L : Lw} {P : Program} {w : World} {K : PySem.W.Frag} {h : Heap} {mg : Str → Option Value} {f : Addr} {n k i : Nat} {d : DefI} {x : Str} (X : K.In h) (G : h.Ns mainGlobals mg) (c : SaysZ L K) (ck : L.chk = true) (hd : L.defs[i]? = some d)
    (tree : P.given.tree = none) (hps : d.ps = [x]) (hfa : mg d.name = some (.ref f)) (good : L.Good k n i) :
    ∃ (fd : FuncData) (sp : Sp), (∀ (s : Shared) (u : Value), BindsTo s fd ⟨[u], []⟩ [(x, u)]) ∧
        (∀ (H : Hp) (a : Addr) (ns : List Int), ns.length ≤ n → Only H → SqL K H a (ns.map V.int) → sp [.ref a] H (fun v _ => v = .bl true) fun _ _ _ => False) ∧
        ∀ base : Heap, K.In base → base.Ns mainGlobals mg → FnOk P w K mg base (L2N.CX P w) (k + 40) f fd [x] sp := by
  have B := bench_of X G c ck
  obtain ⟨hm, fd, F⟩ := B.glo i d hd
  have e := hfa.symm.trans hm
  cases e
  have ck' := B.chk i d hd
  unfold DefI.chk at ck'
  obtain ⟨c1, c2⟩ := ands ck'
  have sco := scopeB_of c1
  have nd : d.ps.Nodup := by
    rw [← sco.pre]
    exact sco.nd.sublist (List.take_sublist _ _)
  refine ⟨fd, spF K (fun _ => .none) (evF L.prog k) i, fun s u => ?_, fun H a ns hl hO hS => ?_, fun base _ _ => ?_⟩
  · have b := FunD.bindsA (ps := d.ps) F (fun kV doc pm an cdv ct us hl => args_bind c2 nd kV doc pm an cdv ct us hl) s [u] (by rw [hps]; rfl)
    rw [hps] at b
    exact b
  · obtain ⟨S, hS'⟩ := good ns hl
    refine ⟨⟨[], []⟩, [], [.scr (ns.map D.int)], rs_nil, .cons (scr_of hO hS) .nil, ?_⟩
    rw [hS']
    exact fun φ' v H' e rs rv => by cases rv; rfl
  · have := lvl (fuel := L.fuel) (P := P) (w := w) (base := base) (ec := fun _ => .none) B (sk_of c) tree k i d fd hd F
    rw [hps] at this
    exact this
theorem cx_none {P : Program} {w : World} {H : Hp} {s : Shared} {e : Value} {s' : Shared} : L2N.CX P w [] H s (fun _ _ _ => False) e s' → False := fun h => by
  obtain ⟨_, _, _, _, _, _, _, _, _, _, _, _, z⟩ := h
  exact z
end Z

/-! the program's defs and the laws' shared ones, in the small language (written by genlib.py) -/
namespace Z
open PySem
def cf_is_whole (ix : Nat → Nat) : CF := ⟨1, 1, (.ret (.and (.isi (.var 0) .int) (.not (.isi (.var 0) .bool))))⟩
def cb_share_of_1 (ix : Nat → Nat) : CS := (.asg (.tp (.cons (.nm 0) (.cons (.nm 1) .nil))) (.tup (.cons (.var 1) (.cons (.bin .mod (.var 0) (.var 1)) .nil))))
def cf_share_of (ix : Nat → Nat) : CF := ⟨2, 2, (.seq (.whl (.cmp .gt (.var 1) (.con (.int 0))) (cb_share_of_1 ix)) (.ret (.var 0)))⟩
def cf_low (ix : Nat → Nat) : CF := ⟨2, 3, (.seq (.ife (.cmp .lt (.var 1) (.con (.int 0))) (.asg (.tp (.cons (.nm 0) (.cons (.nm 1) .nil))) (.tup (.cons (.bin .sub (.con (.int 0)) (.var 0)) (.cons (.bin .sub (.con (.int 0)) (.var 1)) .nil)))) .skip) (.seq (.asg (.nm 2) (.call (ix 1) (.cons (.blt .abs (.cons (.var 0) .nil)) (.cons (.var 1) .nil)))) (.ret (.tup (.cons (.bin .fdiv (.var 0) (.var 2)) (.cons (.bin .fdiv (.var 1) (.var 2)) .nil))))))⟩
def cf_is_fraction (ix : Nat → Nat) : CF := ⟨1, 1, (.seq (.ife (.or (.not (.isi (.var 0) .tup)) (.or (.cmp .ne (.blt .len (.cons (.var 0) .nil)) (.con (.int 2))) (.or (.not (.call (ix 0) (.cons (.idx (.var 0) (.con (.int 0))) .nil))) (.not (.call (ix 0) (.cons (.idx (.var 0) (.con (.int 1))) .nil)))))) (.ret (.con (.bl false))) .skip) (.ret (.and (.cmp .gt (.idx (.var 0) (.con (.int 1))) (.con (.int 0))) (.cmp .eq (.call (ix 1) (.cons (.blt .abs (.cons (.idx (.var 0) (.con (.int 0))) .nil)) (.cons (.idx (.var 0) (.con (.int 1))) .nil))) (.con (.int 1))))))⟩
def cf_check_fraction (ix : Nat → Nat) : CF := ⟨1, 1, (.ife (.not (.call (ix 3) (.cons (.var 0) .nil))) .never .skip)⟩
def cf_add (ix : Nat → Nat) : CF := ⟨2, 2, (.ret (.call (ix 2) (.cons (.bin .add (.bin .mul (.idx (.var 0) (.con (.int 0))) (.idx (.var 1) (.con (.int 1)))) (.bin .mul (.idx (.var 1) (.con (.int 0))) (.idx (.var 0) (.con (.int 1))))) (.cons (.bin .mul (.idx (.var 0) (.con (.int 1))) (.idx (.var 1) (.con (.int 1)))) .nil))))⟩
def cf_less (ix : Nat → Nat) : CF := ⟨2, 2, (.ret (.call (ix 2) (.cons (.bin .sub (.bin .mul (.idx (.var 0) (.con (.int 0))) (.idx (.var 1) (.con (.int 1)))) (.bin .mul (.idx (.var 1) (.con (.int 0))) (.idx (.var 0) (.con (.int 1))))) (.cons (.bin .mul (.idx (.var 0) (.con (.int 1))) (.idx (.var 1) (.con (.int 1)))) .nil))))⟩
def cf_mul (ix : Nat → Nat) : CF := ⟨2, 2, (.ret (.call (ix 2) (.cons (.bin .mul (.idx (.var 0) (.con (.int 0))) (.idx (.var 1) (.con (.int 0)))) (.cons (.bin .mul (.idx (.var 0) (.con (.int 1))) (.idx (.var 1) (.con (.int 1)))) .nil))))⟩
def cf_div (ix : Nat → Nat) : CF := ⟨2, 2, (.ret (.call (ix 2) (.cons (.bin .mul (.idx (.var 0) (.con (.int 0))) (.idx (.var 1) (.con (.int 1)))) (.cons (.bin .mul (.idx (.var 0) (.con (.int 1))) (.idx (.var 1) (.con (.int 0)))) .nil))))⟩
def cf_is_less (ix : Nat → Nat) : CF := ⟨2, 2, (.ret (.cmp .lt (.bin .mul (.idx (.var 0) (.con (.int 0))) (.idx (.var 1) (.con (.int 1)))) (.bin .mul (.idx (.var 1) (.con (.int 0))) (.idx (.var 0) (.con (.int 1))))))⟩
def cf_fraction (ix : Nat → Nat) : CF := ⟨2, 2, (.seq (.ife (.or (.not (.call (ix 0) (.cons (.var 0) .nil))) (.or (.not (.call (ix 0) (.cons (.var 1) .nil))) (.cmp .eq (.var 1) (.con (.int 0))))) .never .skip) (.ret (.call (ix 2) (.cons (.var 0) (.cons (.var 1) .nil)))))⟩
def cf_check_both (ix : Nat → Nat) : CF := ⟨2, 2, (.seq (.expr (.call (ix 4) (.cons (.var 0) .nil))) (.expr (.call (ix 4) (.cons (.var 1) .nil))))⟩
def cf_plus (ix : Nat → Nat) : CF := ⟨2, 2, (.seq (.expr (.call (ix 11) (.cons (.var 0) (.cons (.var 1) .nil)))) (.ret (.call (ix 5) (.cons (.var 0) (.cons (.var 1) .nil)))))⟩
def cf_minus (ix : Nat → Nat) : CF := ⟨2, 2, (.seq (.expr (.call (ix 11) (.cons (.var 0) (.cons (.var 1) .nil)))) (.ret (.call (ix 6) (.cons (.var 0) (.cons (.var 1) .nil)))))⟩
def cf_times (ix : Nat → Nat) : CF := ⟨2, 2, (.seq (.expr (.call (ix 11) (.cons (.var 0) (.cons (.var 1) .nil)))) (.ret (.call (ix 7) (.cons (.var 0) (.cons (.var 1) .nil)))))⟩
def cf_over (ix : Nat → Nat) : CF := ⟨2, 2, (.seq (.expr (.call (ix 11) (.cons (.var 0) (.cons (.var 1) .nil)))) (.seq (.ife (.cmp .eq (.var 1) (.con (.tup [(.int 0), (.int 1)]))) .never .skip) (.ret (.call (ix 8) (.cons (.var 0) (.cons (.var 1) .nil))))))⟩
def cf_below (ix : Nat → Nat) : CF := ⟨2, 2, (.seq (.expr (.call (ix 11) (.cons (.var 0) (.cons (.var 1) .nil)))) (.ret (.call (ix 9) (.cons (.var 0) (.cons (.var 1) .nil)))))⟩
def cb_law_cell_1 (ix : Nat → Nat) : CS := (.asg (.nm 2) (.bin .mod (.bin .add (.bin .mul (.var 2) (.con (.int 20011))) (.var 3)) (.con (.int 1000000021))))
def cf_law_cell (ix : Nat → Nat) : CF := ⟨2, 4, (.seq (.ife (.cmp .lt (.var 1) (.blt .len (.cons (.var 0) .nil))) (.ret (.idx (.var 0) (.var 1))) .skip) (.seq (.asg (.nm 2) (.bin .mod (.bin .mul (.con (.int 70001)) (.bin .add (.bin .add (.bin .mul (.var 1) (.var 1)) (.bin .mul (.con (.int 11)) (.var 1))) (.con (.int 5)))) (.con (.int 1000000021)))) (.seq (.fr (.nm 3) (.one (.sl (.var 0) .nil (.one (.con (.int 4))))) (cb_law_cell_1 ix)) (.ret (.var 2)))))⟩
def cf_law_purse (ix : Nat → Nat) : CF := ⟨1, 1, (.ret (.mlst (.cons (.bin .add (.bin .mul (.bin .mod (.var 0) (.con (.int 999999893))) (.con (.int 6007))) (.con (.int 2503))) (.cons (.idx (.lst (.cons (.con (.int 0)) (.cons (.var 0) .nil))) (.blt .int (.cons (.cmp .ge (.var 0) (.bin .pow (.con (.int 10)) (.con (.int 18)))) .nil))) (.cons (.con (.int 0)) .nil)))))⟩
def cf_law_pick (ix : Nat → Nat) : CF := ⟨2, 4, (.seq (.set (.var 0) (.con (.int 2)) (.bin .add (.idx (.var 0) (.con (.int 2))) (.con (.int 1)))) (.seq (.asg (.nm 2) (.bin .mod (.idx (.var 0) (.con (.int 0))) (.con (.int 999999893)))) (.seq (.set (.var 0) (.con (.int 0)) (.bin .add (.bin .mul (.var 2) (.bin .add (.bin .mod (.var 2) (.con (.int 40009))) (.con (.int 10007)))) (.bin .mul (.con (.int 80021)) (.idx (.var 0) (.con (.int 2)))))) (.seq (.ife (.cmp .gt (.idx (.var 0) (.con (.int 1))) (.con (.int 0))) (.seq (.asg (.nm 3) (.bin .mod (.idx (.var 0) (.con (.int 1))) (.var 1))) (.seq (.set (.var 0) (.con (.int 1)) (.bin .fdiv (.idx (.var 0) (.con (.int 1))) (.var 1))) (.ret (.var 3)))) .skip) (.ret (.bin .mod (.bin .fdiv (.bin .mod (.idx (.var 0) (.con (.int 0))) (.con (.int 999999893))) (.con (.int 16))) (.var 1)))))))⟩
def cf_law_whole (ix : Nat → Nat) : CF := ⟨1, 1, (.ret (.and (.isi (.var 0) .int) (.not (.isi (.var 0) .bool))))⟩
def cb_law_low_1 (ix : Nat → Nat) : CS := (.asg (.tp (.cons (.nm 2) (.cons (.nm 3) .nil))) (.tup (.cons (.var 3) (.cons (.bin .mod (.var 2) (.var 3)) .nil))))
def cf_law_low (ix : Nat → Nat) : CF := ⟨2, 4, (.seq (.ife (.cmp .lt (.var 1) (.con (.int 0))) (.asg (.tp (.cons (.nm 0) (.cons (.nm 1) .nil))) (.tup (.cons (.bin .sub (.con (.int 0)) (.var 0)) (.cons (.bin .sub (.con (.int 0)) (.var 1)) .nil)))) .skip) (.seq (.asg (.tp (.cons (.nm 2) (.cons (.nm 3) .nil))) (.tup (.cons (.blt .abs (.cons (.var 0) .nil)) (.cons (.var 1) .nil)))) (.seq (.whl (.cmp .gt (.var 3) (.con (.int 0))) (cb_law_low_1 ix)) (.ret (.tup (.cons (.bin .fdiv (.var 0) (.var 2)) (.cons (.bin .fdiv (.var 1) (.var 2)) .nil)))))))⟩
def cf_law_is_fraction (ix : Nat → Nat) : CF := ⟨1, 1, (.seq (.ife (.or (.not (.isi (.var 0) .tup)) (.or (.cmp .ne (.blt .len (.cons (.var 0) .nil)) (.con (.int 2))) (.or (.not (.call (ix 20) (.cons (.idx (.var 0) (.con (.int 0))) .nil))) (.not (.call (ix 20) (.cons (.idx (.var 0) (.con (.int 1))) .nil)))))) (.ret (.con (.bl false))) .skip) (.ret (.and (.cmp .gt (.idx (.var 0) (.con (.int 1))) (.con (.int 0))) (.cmp .eq (.call (ix 21) (.cons (.idx (.var 0) (.con (.int 0))) (.cons (.idx (.var 0) (.con (.int 1))) .nil))) (.var 0)))))⟩
def cf_law_sort (ix : Nat → Nat) : CF := ⟨1, 3, (.seq (.asg (.nm 1) (.lst (.cons .nil (.cons .nil (.cons .nil (.cons .nil .nil)))))) (.seq (.asg (.nm 1) (.bin .add (.var 1) (.lst (.cons .nil (.cons .nil (.cons .nil .nil)))))) (.seq (.asg (.nm 1) (.bin .add (.var 1) (.lst (.cons .nil .nil)))) (.seq (.asg (.nm 1) (.bin .add (.var 1) (.lst (.cons .nil (.cons .nil (.cons .nil (.cons .nil .nil))))))) (.seq (.asg (.nm 1) (.bin .add (.var 1) (.lst (.cons .nil (.cons .nil (.cons .nil (.cons .nil .nil))))))) (.seq (.asg (.nm 1) (.bin .add (.var 1) (.lst (.cons .nil (.cons .nil .nil))))) (.seq (.ife (.or (.cmp .ne .nil (.con (.int 1))) (.not .nil)) (.ret (.con (.str "other"))) .skip) (.seq (.asg (.nm 2) (.lst (.cons (.con (.str "number")) (.cons (.con (.str "cable")) (.cons (.con (.str "drag")) (.cons (.con (.str "text")) (.cons (.con (.str "leaks")) (.cons (.con (.str "stretch")) (.cons (.con (.str "word")) (.cons (.con (.str "reading")) (.cons (.con (.str "place")) .nil))))))))))) (.seq (.asg (.nm 2) (.bin .add (.var 2) (.lst (.cons (.con (.str "day")) (.cons (.con (.str "pair")) (.cons (.con (.str "splice")) .nil)))))) (.ret (.idx (.bin .add (.var 2) (.lst (.cons (.con (.str "days")) (.cons (.con (.str "places")) (.cons (.con (.str "length")) (.cons (.con (.str "deed")) (.cons (.con (.str "back")) (.cons (.con (.str "row")) .nil)))))))) .nil)))))))))))⟩
def cf_law_told (ix : Nat → Nat) : CF := ⟨3, 3, .never⟩
def cb_whole_root_1 (ix : Nat → Nat) : CS := (.asg (.nm 2) (.bin .mul (.var 2) (.con (.int 2))))
def cb_whole_root_2 (ix : Nat → Nat) : CS := (.seq (.asg (.nm 3) (.bin .fdiv (.bin .add (.var 1) (.var 2)) (.con (.int 2)))) (.ife (.cmp .le (.bin .mul (.var 3) (.var 3)) (.var 0)) (.asg (.nm 1) (.var 3)) (.asg (.nm 2) (.var 3))))
def cf_whole_root (ix : Nat → Nat) : CF := ⟨1, 4, (.seq (.asg (.tp (.cons (.nm 1) (.cons (.nm 2) .nil))) (.tup (.cons (.con (.int 0)) (.cons (.con (.int 1)) .nil)))) (.seq (.whl (.cmp .le (.bin .mul (.var 2) (.var 2)) (.var 0)) (cb_whole_root_1 ix)) (.seq (.whl (.cmp .gt (.bin .sub (.var 2) (.var 1)) (.con (.int 1))) (cb_whole_root_2 ix)) (.seq (.ife (.cmp .eq (.bin .mul (.var 1) (.var 1)) (.var 0)) (.ret (.var 1)) .skip) (.ret (.con .non))))))⟩
def cf_root (ix : Nat → Nat) : CF := ⟨1, 3, (.seq (.expr (.call (ix 4) (.cons (.var 0) .nil))) (.seq (.ife (.cmp .lt (.idx (.var 0) (.con (.int 0))) (.con (.int 0))) (.ret (.con .non)) .skip) (.seq (.asg (.tp (.cons (.nm 1) (.cons (.nm 2) .nil))) (.tup (.cons (.call (ix 25) (.cons (.idx (.var 0) (.con (.int 0))) .nil)) (.cons (.call (ix 25) (.cons (.idx (.var 0) (.con (.int 1))) .nil)) .nil)))) (.seq (.ife (.or (.cmp .is (.var 1) (.con .non)) (.cmp .is (.var 2) (.con .non))) (.ret (.con .non)) .skip) (.ret (.tup (.cons (.var 1) (.cons (.var 2) .nil))))))))⟩
def cf_is_from_zero (ix : Nat → Nat) : CF := ⟨1, 1, (.ret (.and (.call (ix 3) (.cons (.var 0) .nil)) (.cmp .ge (.idx (.var 0) (.con (.int 0))) (.con (.int 0)))))⟩
def cf_is_above_zero (ix : Nat → Nat) : CF := ⟨1, 1, (.ret (.and (.call (ix 3) (.cons (.var 0) .nil)) (.cmp .gt (.idx (.var 0) (.con (.int 0))) (.con (.int 0)))))⟩
def cf_is_small (ix : Nat → Nat) : CF := ⟨1, 1, (.ret (.and (.cmp .le (.idx (.var 0) (.con (.int 0))) (.con (.int 999))) (.cmp .le (.idx (.var 0) (.con (.int 1))) (.con (.int 999)))))⟩
def cf_is_length (ix : Nat → Nat) : CF := ⟨1, 1, (.seq (.ife (.or (.not (.isi (.var 0) .tup)) (.or (.cmp .ne (.blt .len (.cons (.var 0) .nil)) (.con (.int 2))) (.or (.not (.call (ix 0) (.cons (.idx (.var 0) (.con (.int 0))) .nil))) (.not (.chain .le .le (.con (.int 1)) (.idx (.var 0) (.con (.int 0))) (.con (.int 999))))))) (.ret (.con (.bl false))) .skip) (.ret (.and (.call (ix 28) (.cons (.idx (.var 0) (.con (.int 1))) .nil)) (.call (ix 29) (.cons (.idx (.var 0) (.con (.int 1))) .nil)))))⟩
def cf_is_cable (ix : Nat → Nat) : CF := ⟨1, 2, (.seq (.ife (.or (.not (.isi (.var 0) .tup)) (.or (.cmp .ne (.blt .len (.cons (.var 0) .nil)) (.con (.int 2))) (.not (.isi (.idx (.var 0) (.con (.int 0))) .tup)))) (.ret (.con (.bl false))) .skip) (.seq (.ife (.or (.not (.chain .le .le (.con (.int 1)) (.blt .len (.cons (.idx (.var 0) (.con (.int 0))) .nil)) (.con (.int 12)))) (.not (.blt .all (.cons (.comp (.call (ix 30) (.cons (.var 1) .nil)) (.nm 1) (.one (.idx (.var 0) (.con (.int 0)))) (.con (.bl true)) [1] false) .nil)))) (.ret (.con (.bl false))) .skip) (.ret (.and (.call (ix 27) (.cons (.idx (.var 0) (.con (.int 1))) .nil)) (.call (ix 29) (.cons (.idx (.var 0) (.con (.int 1))) .nil))))))⟩
def cf_check_cable (ix : Nat → Nat) : CF := ⟨1, 1, (.ife (.not (.call (ix 31) (.cons (.var 0) .nil))) .never .skip)⟩
def cf_all_steps (ix : Nat → Nat) : CF := ⟨1, 3, (.ret (.blt .sum (.cons (.comp (.var 1) (.tp (.cons (.nm 1) (.cons (.nm 2) .nil))) (.one (.idx (.var 0) (.con (.int 0)))) (.con (.bl true)) [1, 2] false) .nil)))⟩
def cb_all_drag_1 (ix : Nat → Nat) : CS := (.asg (.nm 1) (.call (ix 5) (.cons (.var 1) (.cons (.call (ix 7) (.cons (.tup (.cons (.var 2) (.cons (.con (.int 1)) .nil))) (.cons (.var 3) .nil))) .nil))))
def cf_all_drag (ix : Nat → Nat) : CF := ⟨1, 4, (.seq (.asg (.nm 1) (.con (.tup [(.int 0), (.int 1)]))) (.seq (.fr (.tp (.cons (.nm 2) (.cons (.nm 3) .nil))) (.one (.idx (.var 0) (.con (.int 0)))) (cb_all_drag_1 ix)) (.ret (.var 1))))⟩
def cb_splice_steps_1 (ix : Nat → Nat) : CS := (.seq (.asg (.nm 2) (.bin .add (.var 2) (.var 3))) (.expr (.mth .append (.var 1) (.cons (.var 2) .nil))))
def cf_splice_steps (ix : Nat → Nat) : CF := ⟨1, 5, (.seq (.asg (.nm 1) (.mlst .nil)) (.seq (.asg (.nm 2) (.con (.int 0))) (.seq (.fr (.tp (.cons (.nm 3) (.cons (.nm 4) .nil))) (.one (.sl (.idx (.var 0) (.con (.int 0))) .nil (.one (.neg (.con (.int 1)))))) (cb_splice_steps_1 ix)) (.ret (.blt .tuple (.cons (.var 1) .nil))))))⟩
def cf_steps_of (ix : Nat → Nat) : CF := ⟨1, 1, (.seq (.expr (.call (ix 32) (.cons (.var 0) .nil))) (.ret (.call (ix 33) (.cons (.var 0) .nil))))⟩
def cf_drag_of (ix : Nat → Nat) : CF := ⟨1, 1, (.seq (.expr (.call (ix 32) (.cons (.var 0) .nil))) (.ret (.call (ix 34) (.cons (.var 0) .nil))))⟩
def cf_splices_of (ix : Nat → Nat) : CF := ⟨1, 1, (.seq (.expr (.call (ix 32) (.cons (.var 0) .nil))) (.ret (.call (ix 35) (.cons (.var 0) .nil))))⟩
def cf_law_plus (ix : Nat → Nat) : CF := ⟨2, 2, (.ret (.call (ix 21) (.cons (.bin .add (.bin .mul (.idx (.var 0) (.con (.int 0))) (.idx (.var 1) (.con (.int 1)))) (.bin .mul (.idx (.var 1) (.con (.int 0))) (.idx (.var 0) (.con (.int 1))))) (.cons (.bin .mul (.idx (.var 0) (.con (.int 1))) (.idx (.var 1) (.con (.int 1)))) .nil))))⟩
def cf_law_times (ix : Nat → Nat) : CF := ⟨2, 2, (.ret (.call (ix 21) (.cons (.bin .mul (.idx (.var 0) (.con (.int 0))) (.idx (.var 1) (.con (.int 0)))) (.cons (.bin .mul (.idx (.var 0) (.con (.int 1))) (.idx (.var 1) (.con (.int 1)))) .nil))))⟩
def cf_is_place (ix : Nat → Nat) : CF := ⟨2, 2, (.ret (.and (.call (ix 27) (.cons (.var 1) .nil)) (.not (.call (ix 9) (.cons (.tup (.cons (.call (ix 33) (.cons (.var 0) .nil)) (.cons (.con (.int 1)) .nil))) (.cons (.var 1) .nil))))))⟩
def cf_check_place (ix : Nat → Nat) : CF := ⟨2, 2, (.ife (.not (.call (ix 41) (.cons (.var 0) (.cons (.var 1) .nil)))) .never .skip)⟩
def cb_drag_at_1 (ix : Nat → Nat) : CS := (.ife (.call (ix 9) (.cons (.tup (.cons (.var 4) (.cons (.con (.int 1)) .nil))) (.cons (.var 3) .nil))) (.seq (.asg (.nm 2) (.call (ix 5) (.cons (.var 2) (.cons (.call (ix 7) (.cons (.tup (.cons (.var 4) (.cons (.con (.int 1)) .nil))) (.cons (.var 5) .nil))) .nil)))) (.asg (.nm 3) (.call (ix 6) (.cons (.var 3) (.cons (.tup (.cons (.var 4) (.cons (.con (.int 1)) .nil))) .nil))))) (.ret (.call (ix 5) (.cons (.var 2) (.cons (.call (ix 7) (.cons (.var 3) (.cons (.var 5) .nil))) .nil)))))
def cf_drag_at (ix : Nat → Nat) : CF := ⟨2, 6, (.seq (.asg (.nm 2) (.con (.tup [(.int 0), (.int 1)]))) (.seq (.asg (.nm 3) (.var 1)) (.seq (.fr (.tp (.cons (.nm 4) (.cons (.nm 5) .nil))) (.one (.idx (.var 0) (.con (.int 0)))) (cb_drag_at_1 ix)) (.ret (.var 2)))))⟩
def cb_place_with_1 (ix : Nat → Nat) : CS := (.seq (.asg (.nm 6) (.call (ix 7) (.cons (.tup (.cons (.var 4) (.cons (.con (.int 1)) .nil))) (.cons (.var 5) .nil)))) (.seq (.ife (.not (.call (ix 9) (.cons (.var 6) (.cons (.var 3) .nil)))) (.ret (.call (ix 5) (.cons (.tup (.cons (.var 2) (.cons (.con (.int 1)) .nil))) (.cons (.call (ix 8) (.cons (.var 3) (.cons (.var 5) .nil))) .nil)))) .skip) (.seq (.asg (.nm 3) (.call (ix 6) (.cons (.var 3) (.cons (.var 6) .nil)))) (.asg (.nm 2) (.bin .add (.var 2) (.var 4))))))
def cf_place_with (ix : Nat → Nat) : CF := ⟨2, 7, (.seq (.asg (.nm 2) (.con (.int 0))) (.seq (.asg (.nm 3) (.var 1)) (.seq (.fr (.tp (.cons (.nm 4) (.cons (.nm 5) .nil))) (.one (.idx (.var 0) (.con (.int 0)))) (cb_place_with_1 ix)) (.ret (.tup (.cons (.var 2) (.cons (.con (.int 1)) .nil)))))))⟩
def cf_drag_to (ix : Nat → Nat) : CF := ⟨2, 2, (.seq (.expr (.call (ix 32) (.cons (.var 0) .nil))) (.seq (.expr (.call (ix 42) (.cons (.var 0) (.cons (.var 1) .nil)))) (.ret (.call (ix 43) (.cons (.var 0) (.cons (.var 1) .nil))))))⟩
def cf_place_at (ix : Nat → Nat) : CF := ⟨2, 2, (.seq (.expr (.call (ix 32) (.cons (.var 0) .nil))) (.seq (.ife (.or (.not (.call (ix 3) (.cons (.var 1) .nil))) (.or (.cmp .lt (.idx (.var 1) (.con (.int 0))) (.con (.int 0))) (.call (ix 9) (.cons (.call (ix 34) (.cons (.var 0) .nil)) (.cons (.var 1) .nil))))) .never .skip) (.ret (.call (ix 44) (.cons (.var 0) (.cons (.var 1) .nil))))))⟩
def cf_law_minus (ix : Nat → Nat) : CF := ⟨2, 2, (.ret (.call (ix 21) (.cons (.bin .sub (.bin .mul (.idx (.var 0) (.con (.int 0))) (.idx (.var 1) (.con (.int 1)))) (.bin .mul (.idx (.var 1) (.con (.int 0))) (.idx (.var 0) (.con (.int 1))))) (.cons (.bin .mul (.idx (.var 0) (.con (.int 1))) (.idx (.var 1) (.con (.int 1)))) .nil))))⟩
def cf_law_over (ix : Nat → Nat) : CF := ⟨2, 2, (.ret (.call (ix 21) (.cons (.bin .mul (.idx (.var 0) (.con (.int 0))) (.idx (.var 1) (.con (.int 1)))) (.cons (.bin .mul (.idx (.var 0) (.con (.int 1))) (.idx (.var 1) (.con (.int 0)))) .nil))))⟩
def cf_law_below (ix : Nat → Nat) : CF := ⟨2, 2, (.ret (.cmp .lt (.bin .mul (.idx (.var 0) (.con (.int 0))) (.idx (.var 1) (.con (.int 1)))) (.bin .mul (.idx (.var 1) (.con (.int 0))) (.idx (.var 0) (.con (.int 1))))))⟩
def cb_law_all_1 (ix : Nat → Nat) : CS := (.asg (.nm 1) (.call (ix 39) (.cons (.var 1) (.cons (.call (ix 40) (.cons (.tup (.cons (.var 2) (.cons (.con (.int 1)) .nil))) (.cons (.var 3) .nil))) .nil))))
def cf_law_all (ix : Nat → Nat) : CF := ⟨1, 4, (.seq (.asg (.nm 1) (.tup (.cons (.con (.int 0)) (.cons (.con (.int 1)) .nil)))) (.seq (.fr (.tp (.cons (.nm 2) (.cons (.nm 3) .nil))) (.one (.idx (.var 0) (.con (.int 0)))) (cb_law_all_1 ix)) (.ret (.var 1))))⟩
def cb_law_cable_1 (ix : Nat → Nat) : CS := (.seq (.asg (.nm 4) (.bin .add (.con (.int 1)) (.call (ix 19) (.cons (.var 0) (.cons (.idx (.lst (.cons (.con (.int 9)) (.cons (.con (.int 40)) (.cons (.con (.int 999)) .nil)))) (.call (ix 19) (.cons (.var 0) (.cons (.con (.int 3)) .nil)))) .nil))))) (.expr (.mth .append (.var 2) (.cons (.tup (.cons (.var 4) (.cons (.call (ix 21) (.cons (.bin .add (.con (.int 1)) (.call (ix 19) (.cons (.var 0) (.cons (.con (.int 9)) .nil)))) (.cons (.idx (.lst (.cons (.con (.int 1)) (.cons (.con (.int 1)) (.cons (.con (.int 2)) (.cons (.con (.int 3)) .nil))))) (.call (ix 19) (.cons (.var 0) (.cons (.con (.int 4)) .nil)))) .nil))) .nil))) .nil))))
def cf_law_cable (ix : Nat → Nat) : CF := ⟨2, 5, (.seq (.asg (.nm 2) (.mlst .nil)) (.seq (.fr (.nm 3) (.rng (.con (.int 0)) (.bin .add (.con (.int 1)) (.call (ix 19) (.cons (.var 0) (.cons (.var 1) .nil))))) (cb_law_cable_1 ix)) (.ret (.tup (.cons (.blt .tuple (.cons (.var 2) .nil)) (.cons (.call (ix 21) (.cons (.call (ix 19) (.cons (.var 0) (.cons (.con (.int 30)) .nil))) (.cons (.bin .add (.con (.int 1)) (.call (ix 19) (.cons (.var 0) (.cons (.con (.int 3)) .nil)))) .nil))) .nil))))))⟩
def cf_show_fraction (ix : Nat → Nat) : CF := ⟨1, 1, (.seq (.ife (.cmp .eq (.idx (.var 0) (.con (.int 1))) (.con (.int 1))) (.ret (.blt .str (.cons (.idx (.var 0) (.con (.int 0))) .nil))) .skip) (.ret (.bin .add (.bin .add (.blt .str (.cons (.idx (.var 0) (.con (.int 0))) .nil)) (.con (.str "/"))) (.blt .str (.cons (.idx (.var 0) (.con (.int 1))) .nil)))))⟩
def cf_show_cable (ix : Nat → Nat) : CF := ⟨1, 4, (.seq (.expr (.call (ix 32) (.cons (.var 0) .nil))) (.seq (.asg (.nm 1) (.lst (.cons (.bin .add (.con (.str "back ")) (.call (ix 52) (.cons (.idx (.var 0) (.con (.int 1))) .nil))) .nil))) (.ret .nil)))⟩
def cf_number_in (ix : Nat → Nat) : CF := ⟨2, 3, (.seq (.ife (.or (.not (.chain .le .le (.con (.int 1)) (.blt .len (.cons (.var 0) .nil)) (.var 1))) (.not (.blt .all (.cons (.comp (.cmp .isin (.var 2) (.con (.str "0123456789"))) (.nm 2) (.one (.var 0)) (.con (.bl true)) [2] false) .nil)))) (.ret (.con .non)) .skip) (.seq (.ife (.and (.cmp .eq (.idx (.var 0) (.con (.int 0))) (.con (.str "0"))) (.cmp .ne (.var 0) (.con (.str "0")))) (.ret (.con .non)) .skip) (.ret (.blt .int (.cons (.var 0) .nil)))))⟩
def cf_fraction_in (ix : Nat → Nat) : CF := ⟨2, 7, (.seq (.asg (.tp (.cons (.nm 2) (.cons (.nm 3) (.cons (.nm 4) .nil)))) .nil) (.seq (.asg (.tp (.cons (.nm 5) (.cons (.nm 6) .nil))) (.tup (.cons (.call (ix 54) (.cons (.var 2) (.cons (.var 1) .nil))) (.cons (.con (.int 1)) .nil)))) (.seq (.ife (.cmp .ne (.var 3) (.con (.str ""))) (.asg (.nm 6) (.call (ix 54) (.cons (.var 4) (.cons (.var 1) .nil)))) .skip) (.seq (.ife (.or (.cmp .is (.var 5) (.con .non)) (.or (.cmp .is (.var 6) (.con .non)) (.or (.and (.cmp .ne (.var 3) (.con (.str ""))) (.cmp .lt (.var 6) (.con (.int 2)))) (.not (.call (ix 27) (.cons (.tup (.cons (.var 5) (.cons (.var 6) .nil))) .nil)))))) (.ret (.con .non)) .skip) (.ret (.tup (.cons (.var 5) (.cons (.var 6) .nil))))))))⟩
def cf_back_in (ix : Nat → Nat) : CF := ⟨1, 3, (.seq (.asg (.nm 1) .nil) (.seq (.ife (.or (.cmp .ne (.blt .len (.cons (.var 1) .nil)) (.con (.int 2))) (.cmp .ne (.idx (.var 1) (.con (.int 0))) (.con (.str "back")))) (.ret (.con .non)) .skip) (.seq (.asg (.nm 2) (.call (ix 55) (.cons (.idx (.var 1) (.con (.int 1))) (.cons (.con (.int 3)) .nil)))) (.seq (.ife (.or (.cmp .is (.var 2) (.con .non)) (.not (.call (ix 29) (.cons (.var 2) .nil)))) (.ret (.con .non)) .skip) (.ret (.var 2))))))⟩
def cf_length_in (ix : Nat → Nat) : CF := ⟨1, 3, (.seq (.asg (.nm 1) .nil) (.seq (.ife (.or (.cmp .ne (.blt .len (.cons (.var 1) .nil)) (.con (.int 3))) (.cmp .ne (.idx (.var 1) (.con (.int 1))) (.con (.str "x")))) (.ret (.con .non)) .skip) (.seq (.asg (.nm 2) (.tup (.cons (.call (ix 54) (.cons (.idx (.var 1) (.con (.int 0))) (.cons (.con (.int 3)) .nil))) (.cons (.call (ix 55) (.cons (.idx (.var 1) (.con (.int 2))) (.cons (.con (.int 3)) .nil))) .nil)))) (.seq (.ife (.not (.call (ix 30) (.cons (.var 2) .nil))) (.ret (.con .non)) .skip) (.ret (.var 2))))))⟩
def cb_read_cable_1 (ix : Nat → Nat) : CS := (.seq (.asg (.nm 6) (.call (ix 57) (.cons (.var 5) .nil))) (.seq (.ife (.or (.cmp .is (.var 6) (.con .non)) (.cmp .eq (.var 4) (.con (.int 12)))) .never .skip) (.asg (.nm 3) (.bin .add (.var 3) (.tup (.cons (.var 6) .nil))))))
def cf_read_cable (ix : Nat → Nat) : CF := ⟨1, 7, (.seq (.ife (.not (.isi (.var 0) .str)) .never .skip) (.seq (.asg (.nm 1) .nil) (.seq (.asg (.nm 2) (.call (ix 56) (.cons (.idx (.var 1) (.con (.int 0))) .nil))) (.seq (.ife (.cmp .is (.var 2) (.con .non)) .never .skip) (.seq (.asg (.nm 3) (.tup .nil)) (.seq (.fr (.tp (.cons (.nm 4) (.cons (.nm 5) .nil))) (.one .nil) (cb_read_cable_1 ix)) (.seq (.ife (.cmp .eq (.var 3) (.tup .nil)) .never .skip) (.ret (.tup (.cons (.var 3) (.cons (.var 2) .nil)))))))))))⟩
def cf_law_fraction_text (ix : Nat → Nat) : CF := ⟨1, 1, (.ret (.bin .add (.blt .str (.cons (.idx (.var 0) (.con (.int 0))) .nil)) (.idx (.lst (.cons (.bin .add (.con (.str "/")) (.blt .str (.cons (.idx (.var 0) (.con (.int 1))) .nil))) (.cons (.con (.str "")) .nil))) (.blt .int (.cons (.cmp .eq (.idx (.var 0) (.con (.int 1))) (.con (.int 1))) .nil)))))⟩
def cb_law_text_1 (ix : Nat → Nat) : CS := (.expr (.mth .append (.var 1) (.cons (.bin .add (.bin .add (.blt .str (.cons (.var 2) .nil)) (.con (.str " x "))) (.call (ix 59) (.cons (.var 3) .nil))) .nil)))
def cf_law_text (ix : Nat → Nat) : CF := ⟨1, 4, (.seq (.asg (.nm 1) (.mlst (.cons (.bin .add (.con (.str "back ")) (.call (ix 59) (.cons (.idx (.var 0) (.con (.int 1))) .nil))) .nil))) (.seq (.fr (.tp (.cons (.nm 2) (.cons (.nm 3) .nil))) (.one (.idx (.var 0) (.con (.int 0)))) (cb_law_text_1 ix)) (.ret .nil)))⟩
def cf_is_leak (ix : Nat → Nat) : CF := ⟨2, 2, (.ret (.and (.isi (.var 1) .tup) (.and (.cmp .eq (.blt .len (.cons (.var 1) .nil)) (.con (.int 2))) (.and (.call (ix 41) (.cons (.var 0) (.cons (.idx (.var 1) (.con (.int 0))) .nil))) (.call (ix 28) (.cons (.idx (.var 1) (.con (.int 1))) .nil))))))⟩
def cf_are_leaks (ix : Nat → Nat) : CF := ⟨2, 4, (.seq (.ife (.or (.not (.isi (.var 1) .tup)) (.or (.cmp .gt (.blt .len (.cons (.var 1) .nil)) (.con (.int 6))) (.not (.blt .all (.cons (.comp (.call (ix 61) (.cons (.var 0) (.cons (.var 2) .nil))) (.nm 2) (.one (.var 1)) (.con (.bl true)) [2] false) .nil))))) (.ret (.con (.bl false))) .skip) (.ret (.blt .all (.cons (.comp (.call (ix 9) (.cons (.idx (.idx (.var 1) (.var 3)) (.con (.int 0))) (.cons (.idx (.idx (.var 1) (.bin .add (.var 3) (.con (.int 1)))) (.con (.int 0))) .nil))) (.nm 3) (.rng (.con (.int 0)) (.bin .sub (.blt .len (.cons (.var 1) .nil)) (.con (.int 1)))) (.con (.bl true)) [3] false) .nil))))⟩
def cf_is_leaks (ix : Nat → Nat) : CF := ⟨2, 2, (.ret (.and (.call (ix 31) (.cons (.var 0) .nil)) (.call (ix 62) (.cons (.var 0) (.cons (.var 1) .nil)))))⟩
def cf_law_sixths (ix : Nat → Nat) : CF := ⟨2, 5, (.seq (.asg (.nm 2) (.comp (.idx (.var 4) (.con (.int 0))) (.nm 4) (.one (.idx (.var 1) (.con (.int 0)))) (.con (.bl true)) [4] false)) (.seq (.asg (.nm 3) (.call (ix 19) (.cons (.var 0) (.cons (.con (.int 5)) .nil)))) (.seq (.ife (.cmp .eq (.var 3) (.con (.int 0))) (.ret (.bin .mul (.bin .mul (.con (.int 6)) (.blt .sum (.cons (.var 2) .nil))) (.call (ix 19) (.cons (.var 0) (.cons (.con (.int 2)) .nil))))) .skip) (.seq (.ife (.cmp .eq (.var 3) (.con (.int 1))) (.ret (.bin .mul (.con (.int 6)) (.blt .sum (.cons (.sl (.var 2) .nil (.one (.call (ix 19) (.cons (.var 0) (.cons (.bin .add (.blt .len (.cons (.var 2) .nil)) (.con (.int 1))) .nil))))) .nil)))) .skip) (.ret (.call (ix 19) (.cons (.var 0) (.cons (.bin .add (.bin .mul (.con (.int 6)) (.blt .sum (.cons (.var 2) .nil))) (.con (.int 1))) .nil))))))))⟩
def cf_check_leaks (ix : Nat → Nat) : CF := ⟨2, 2, (.ife (.not (.call (ix 62) (.cons (.var 0) (.cons (.var 1) .nil)))) .never .skip)⟩
def cf_both_seen (ix : Nat → Nat) : CF := ⟨2, 6, (.seq (.asg (.nm 2) (.call (ix 5) (.cons (.idx (.var 0) (.con (.int 1))) (.cons (.idx (.var 1) (.con (.int 0))) .nil)))) (.seq (.asg (.nm 3) (.call (ix 5) (.cons (.call (ix 5) (.cons (.idx (.var 0) (.con (.int 2))) (.cons (.idx (.var 1) (.con (.int 2))) .nil))) (.cons (.var 2) .nil)))) (.seq (.asg (.nm 4) (.call (ix 5) (.cons (.idx (.var 0) (.con (.int 0))) (.cons (.call (ix 8) (.cons (.call (ix 7) (.cons (.idx (.var 0) (.con (.int 2))) (.cons (.var 2) .nil))) (.cons (.var 3) .nil))) .nil)))) (.seq (.asg (.nm 5) (.call (ix 5) (.cons (.idx (.var 1) (.con (.int 1))) (.cons (.call (ix 8) (.cons (.call (ix 7) (.cons (.idx (.var 1) (.con (.int 2))) (.cons (.var 2) .nil))) (.cons (.var 3) .nil))) .nil)))) (.ret (.tup (.cons (.var 4) (.cons (.var 5) (.cons (.call (ix 8) (.cons (.call (ix 7) (.cons (.idx (.var 0) (.con (.int 2))) (.cons (.idx (.var 1) (.con (.int 2))) .nil))) (.cons (.var 3) .nil))) .nil)))))))))⟩
def cf_join (ix : Nat → Nat) : CF := ⟨2, 5, (.seq (.asg (.nm 2) (.call (ix 5) (.cons (.idx (.var 0) (.con (.int 0))) (.cons (.idx (.var 1) (.con (.int 0))) .nil)))) (.seq (.asg (.tp (.cons (.nm 3) (.cons (.nm 4) .nil))) (.tup (.cons (.idx (.var 0) (.con (.int 1))) (.cons (.idx (.var 1) (.con (.int 1))) .nil)))) (.seq (.ife (.and (.cmp .is (.var 3) (.con .non)) (.cmp .is (.var 4) (.con .non))) (.ret (.tup (.cons (.var 2) (.cons (.con .non) .nil)))) .skip) (.seq (.ife (.cmp .is (.var 3) (.con .non)) (.ret (.tup (.cons (.var 2) (.cons (.tup (.cons (.call (ix 5) (.cons (.idx (.var 4) (.con (.int 0))) (.cons (.idx (.var 0) (.con (.int 0))) .nil))) (.cons (.idx (.var 4) (.con (.int 1))) (.cons (.idx (.var 4) (.con (.int 2))) .nil)))) .nil)))) .skip) (.seq (.ife (.cmp .is (.var 4) (.con .non)) (.ret (.tup (.cons (.var 2) (.cons (.tup (.cons (.idx (.var 3) (.con (.int 0))) (.cons (.call (ix 5) (.cons (.idx (.var 3) (.con (.int 1))) (.cons (.idx (.var 1) (.con (.int 0))) .nil))) (.cons (.idx (.var 3) (.con (.int 2))) .nil)))) .nil)))) .skip) (.ret (.tup (.cons (.var 2) (.cons (.call (ix 66) (.cons (.var 3) (.cons (.var 4) .nil))) .nil)))))))))⟩
def cb_stretch_by_1 (ix : Nat → Nat) : CS := (.seq (.asg (.nm 6) (.call (ix 43) (.cons (.var 0) (.cons (.var 4) .nil)))) (.seq (.asg (.nm 2) (.call (ix 67) (.cons (.var 2) (.cons (.tup (.cons (.call (ix 6) (.cons (.var 6) (.cons (.var 3) .nil))) (.cons (.con .non) .nil))) .nil)))) (.seq (.asg (.nm 2) (.call (ix 67) (.cons (.var 2) (.cons (.tup (.cons (.con (.tup [(.int 0), (.int 1)])) (.cons (.tup (.cons (.con (.tup [(.int 0), (.int 1)])) (.cons (.con (.tup [(.int 0), (.int 1)])) (.cons (.var 5) .nil)))) .nil))) .nil)))) (.asg (.nm 3) (.var 6)))))
def cf_stretch_by (ix : Nat → Nat) : CF := ⟨2, 7, (.seq (.asg (.nm 2) (.tup (.cons (.con (.tup [(.int 0), (.int 1)])) (.cons (.con .non) .nil)))) (.seq (.asg (.nm 3) (.con (.tup [(.int 0), (.int 1)]))) (.seq (.fr (.tp (.cons (.nm 4) (.cons (.nm 5) .nil))) (.one (.var 1)) (cb_stretch_by_1 ix)) (.ret (.call (ix 67) (.cons (.var 2) (.cons (.tup (.cons (.call (ix 6) (.cons (.call (ix 34) (.cons (.var 0) .nil)) (.cons (.var 3) .nil))) (.cons (.con .non) .nil))) .nil)))))))⟩
def cf_beside (ix : Nat → Nat) : CF := ⟨2, 2, (.ret (.call (ix 8) (.cons (.call (ix 7) (.cons (.var 0) (.cons (.var 1) .nil))) (.cons (.call (ix 5) (.cons (.var 0) (.cons (.var 1) .nil))) .nil))))⟩
def cf_reading (ix : Nat → Nat) : CF := ⟨3, 7, (.seq (.asg (.tp (.cons (.nm 3) (.cons (.nm 4) .nil))) (.var 0)) (.seq (.ife (.cmp .eq (.var 2) (.con (.str "loop"))) (.seq (.ife (.cmp .is (.var 4) (.con .non)) (.ret (.call (ix 5) (.cons (.var 1) (.cons (.var 3) .nil)))) .skip) (.ret (.call (ix 5) (.cons (.var 1) (.cons (.call (ix 5) (.cons (.idx (.var 4) (.con (.int 0))) (.cons (.idx (.var 4) (.con (.int 1))) .nil))) .nil))))) .skip) (.seq (.ife (.cmp .is (.var 4) (.con .non)) (.ret (.idx (.lst (.cons (.con .non) (.cons (.var 3) .nil))) (.blt .int (.cons (.cmp .isin (.var 2) (.tup (.cons (.con (.str "west earth")) (.cons (.con (.str "east earth")) .nil)))) .nil)))) .skip) (.seq (.asg (.tp (.cons (.nm 5) (.cons (.nm 6) .nil))) (.tup (.cons (.idx (.var 4) (.con (.int 0))) (.cons (.idx (.var 4) (.con (.int 1))) .nil)))) (.seq (.ife (.cmp .isin (.var 2) (.tup (.cons (.con (.str "east free")) (.cons (.con (.str "east earth")) .nil)))) (.asg (.tp (.cons (.nm 5) (.cons (.nm 6) .nil))) (.tup (.cons (.idx (.var 4) (.con (.int 1))) (.cons (.idx (.var 4) (.con (.int 0))) .nil)))) .skip) (.seq (.ife (.cmp .isin (.var 2) (.tup (.cons (.con (.str "west free")) (.cons (.con (.str "east free")) .nil)))) (.ret (.call (ix 5) (.cons (.var 5) (.cons (.idx (.var 4) (.con (.int 2))) .nil)))) .skip) (.ret (.call (ix 5) (.cons (.var 5) (.cons (.call (ix 69) (.cons (.idx (.var 4) (.con (.int 2))) (.cons (.var 6) .nil))) .nil))))))))))⟩
def cf_measure (ix : Nat → Nat) : CF := ⟨3, 3, (.seq (.expr (.call (ix 32) (.cons (.var 0) .nil))) (.seq (.expr (.call (ix 65) (.cons (.var 0) (.cons (.var 1) .nil)))) (.seq (.ife (.or (.not (.isi (.var 2) .str)) (.cmp .notin (.var 2) (.con (.tup [(.str "west free"), (.str "east free"), (.str "west earth"), (.str "east earth"), (.str "loop")])))) .never .skip) (.ret (.call (ix 70) (.cons (.call (ix 68) (.cons (.var 0) (.cons (.var 1) .nil))) (.cons (.idx (.var 0) (.con (.int 1))) (.cons (.var 2) .nil))))))))⟩
def cb_law_drag_to_1 (ix : Nat → Nat) : CS := (.seq (.asg (.nm 6) (.call (ix 47) (.cons (.var 1) (.cons (.tup (.cons (.var 3) (.cons (.con (.int 1)) .nil))) .nil)))) (.seq (.ife (.call (ix 49) (.cons (.tup (.cons (.var 4) (.cons (.con (.int 1)) .nil))) (.cons (.var 6) .nil))) (.asg (.nm 6) (.tup (.cons (.var 4) (.cons (.con (.int 1)) .nil)))) .skip) (.seq (.ife (.cmp .gt (.idx (.var 6) (.con (.int 0))) (.con (.int 0))) (.asg (.nm 2) (.call (ix 39) (.cons (.var 2) (.cons (.call (ix 40) (.cons (.var 6) (.cons (.var 5) .nil))) .nil)))) .skip) (.asg (.nm 3) (.bin .add (.var 3) (.var 4))))))
def cf_law_drag_to (ix : Nat → Nat) : CF := ⟨2, 7, (.seq (.asg (.tp (.cons (.nm 2) (.cons (.nm 3) .nil))) (.tup (.cons (.tup (.cons (.con (.int 0)) (.cons (.con (.int 1)) .nil))) (.cons (.con (.int 0)) .nil)))) (.seq (.fr (.tp (.cons (.nm 4) (.cons (.nm 5) .nil))) (.one (.idx (.var 0) (.con (.int 0)))) (cb_law_drag_to_1 ix)) (.ret (.var 2))))⟩
def cf_law_points (ix : Nat → Nat) : CF := ⟨3, 7, (.seq (.asg (.nm 3) (.comp (.tup (.cons (.call (ix 72) (.cons (.var 0) (.cons (.var 4) .nil))) (.cons (.var 5) .nil))) (.tp (.cons (.nm 4) (.cons (.nm 5) .nil))) (.one (.var 1)) (.con (.bl true)) [4, 5] false)) (.seq (.ife (.var 2) (.ret (.var 3)) .skip) (.ret (.comp (.tup (.cons (.call (ix 47) (.cons (.call (ix 50) (.cons (.var 0) .nil)) (.cons (.var 6) .nil))) (.cons (.var 5) .nil))) (.tp (.cons (.nm 6) (.cons (.nm 5) .nil))) (.one (.rev (.var 3))) (.con (.bl true)) [6, 5] false))))⟩
def cb_law_steps_seen_1 (ix : Nat → Nat) : CS := (.seq (.ife (.cmp .isnot (.var 2) (.con .non)) (.seq (.asg (.nm 7) (.call (ix 39) (.cons (.var 2) (.cons (.call (ix 47) (.cons (.var 4) (.cons (.var 5) .nil))) .nil)))) (.asg (.nm 2) (.call (ix 48) (.cons (.call (ix 40) (.cons (.var 6) (.cons (.var 7) .nil))) (.cons (.call (ix 39) (.cons (.var 6) (.cons (.var 7) .nil))) .nil))))) (.asg (.nm 2) (.var 6))) (.seq (.expr (.mth .append (.var 3) (.cons (.var 2) .nil))) (.asg (.nm 4) (.var 5))))
def cf_law_steps_seen (ix : Nat → Nat) : CF := ⟨3, 8, (.seq (.asg (.tp (.cons (.nm 3) (.cons (.nm 4) .nil))) (.tup (.cons (.mlst .nil) (.cons (.var 1) .nil)))) (.seq (.fr (.tp (.cons (.nm 5) (.cons (.nm 6) .nil))) (.one (.rev (.var 0))) (cb_law_steps_seen_1 ix)) (.ret (.rev (.var 3)))))⟩
def cf_law_seen (ix : Nat → Nat) : CF := ⟨4, 6, (.seq (.asg (.tp (.cons (.nm 4) (.cons (.nm 5) .nil))) (.tup (.cons (.call (ix 73) (.cons (.var 0) (.cons (.var 1) (.cons (.var 2) .nil)))) (.cons (.call (ix 50) (.cons (.var 0) .nil)) .nil)))) (.seq (.ife (.and (.cmp .eq (.var 4) (.lst .nil)) (.cmp .is (.var 3) (.con .non))) (.ret (.con .non)) .skip) (.seq (.ife (.cmp .eq (.var 4) (.lst .nil)) (.ret (.var 5)) .skip) (.ret (.call (ix 39) (.cons (.idx (.idx (.var 4) (.con (.int 0))) (.con (.int 0))) (.cons (.idx (.call (ix 74) (.cons (.var 4) (.cons (.var 5) (.cons (.var 3) .nil)))) (.con (.int 0))) .nil)))))))⟩
def cb_law_day_1 (ix : Nat → Nat) : CS := (.seq (.asg (.nm 7) (.call (ix 47) (.cons (.idx (.idx (.var 2) (.var 6)) (.con (.int 0))) (.cons (.idx (.idx (.var 2) (.bin .sub (.var 6) (.con (.int 1)))) (.con (.int 0))) .nil)))) (.asg (.nm 5) (.call (ix 48) (.cons (.call (ix 40) (.cons (.var 5) (.cons (.idx (.var 4) (.var 6)) .nil))) (.cons (.call (ix 39) (.cons (.idx (.var 4) (.var 6)) (.cons (.var 7) .nil))) .nil)))))
def cf_law_day (ix : Nat → Nat) : CF := ⟨2, 11, (.seq (.ife (.cmp .eq (.var 1) (.tup .nil)) (.ret (.tup (.cons (.con .non) (.cons (.con .non) (.cons (.call (ix 39) (.cons (.idx (.var 0) (.con (.int 1))) (.cons (.call (ix 50) (.cons (.var 0) .nil)) .nil))) .nil))))) .skip) (.seq (.asg (.tp (.cons (.nm 2) (.cons (.nm 3) .nil))) (.tup (.cons (.call (ix 73) (.cons (.var 0) (.cons (.var 1) (.cons (.con (.bl true)) .nil)))) (.cons (.call (ix 50) (.cons (.var 0) .nil)) .nil)))) (.seq (.asg (.nm 4) (.call (ix 74) (.cons (.var 2) (.cons (.var 3) (.cons (.con .non) .nil))))) (.seq (.asg (.nm 5) (.idx (.var 4) (.con (.int 0)))) (.seq (.fr (.nm 6) (.rng (.con (.int 1)) (.blt .len (.cons (.var 4) .nil))) (cb_law_day_1 ix)) (.seq (.asg (.tp (.cons (.nm 8) (.cons (.nm 9) .nil))) (.tup (.cons (.call (ix 75) (.cons (.var 0) (.cons (.var 1) (.cons (.con (.bl true)) (.cons (.con .non) .nil))))) (.cons (.call (ix 75) (.cons (.var 0) (.cons (.var 1) (.cons (.con (.bl false)) (.cons (.con .non) .nil))))) .nil)))) (.seq (.asg (.nm 10) (.call (ix 47) (.cons (.call (ix 39) (.cons (.var 8) (.cons (.var 9) .nil))) (.cons (.call (ix 40) (.cons (.tup (.cons (.con (.int 2)) (.cons (.con (.int 1)) .nil))) (.cons (.var 5) .nil))) .nil)))) (.ret (.tup (.cons (.var 8) (.cons (.var 9) (.cons (.call (ix 39) (.cons (.idx (.var 0) (.con (.int 1))) (.cons (.var 10) .nil))) .nil))))))))))))⟩
def cb_law_leaks_2_1 (ix : Nat → Nat) : CS := (.set (.var 3) (.call (ix 64) (.cons (.var 0) (.cons (.var 1) .nil))) (.call (ix 21) (.cons (.bin .add (.con (.int 1)) (.call (ix 19) (.cons (.var 0) (.cons (.con (.int 60)) .nil)))) (.cons (.idx (.lst (.cons (.con (.int 1)) (.cons (.con (.int 1)) (.cons (.con (.int 2)) (.cons (.con (.int 7)) .nil))))) (.call (ix 19) (.cons (.var 0) (.cons (.con (.int 4)) .nil)))) .nil))))
def cf_law_leaks_2 (ix : Nat → Nat) : CF := ⟨3, 6, (.seq (.asg (.nm 3) .mdk) (.seq (.fr (.nm 4) (.rng (.con (.int 0)) (.call (ix 19) (.cons (.var 0) (.cons (.bin .add (.var 2) (.con (.int 1))) .nil)))) (cb_law_leaks_2_1 ix)) (.ret (.blt .tuple (.cons (.comp (.tup (.cons (.call (ix 21) (.cons (.var 5) (.cons (.con (.int 6)) .nil))) (.cons (.idx (.var 3) (.var 5)) .nil))) (.nm 5) (.one (.blt .sorted (.cons (.var 3) .nil))) (.con (.bl true)) [5] false) .nil)))))⟩
def cf_law_sort_2 (ix : Nat → Nat) : CF := ⟨1, 3, (.seq (.asg (.nm 1) (.lst (.cons .nil (.cons .nil (.cons .nil (.cons .nil .nil)))))) (.seq (.asg (.nm 1) (.bin .add (.var 1) (.lst (.cons .nil (.cons .nil (.cons .nil (.cons .nil .nil))))))) (.seq (.asg (.nm 1) (.bin .add (.var 1) (.lst (.cons .nil (.cons .nil (.cons .nil (.cons .nil .nil))))))) (.seq (.asg (.nm 1) (.bin .add (.var 1) (.lst (.cons .nil (.cons .nil (.cons .nil (.cons .nil .nil))))))) (.seq (.asg (.nm 1) (.bin .add (.var 1) (.lst (.cons .nil (.cons .nil .nil))))) (.seq (.ife (.or (.cmp .ne .nil (.con (.int 1))) (.not .nil)) (.ret (.con (.str "other"))) .skip) (.seq (.asg (.nm 2) (.lst (.cons (.con (.str "number")) (.cons (.con (.str "cable")) (.cons (.con (.str "drag")) (.cons (.con (.str "leaks")) (.cons (.con (.str "stretch")) (.cons (.con (.str "word")) (.cons (.con (.str "reading")) (.cons (.con (.str "place")) (.cons (.con (.str "day")) (.cons (.con (.str "pair")) (.cons (.con (.str "splice")) (.cons (.con (.str "days")) .nil)))))))))))))) (.ret (.idx (.bin .add (.var 2) (.lst (.cons (.con (.str "places")) (.cons (.con (.str "length")) (.cons (.con (.str "deed")) (.cons (.con (.str "back")) (.cons (.con (.str "row")) (.cons (.con (.str "text")) .nil)))))))) .nil)))))))))⟩
def cf_lack_of (ix : Nat → Nat) : CF := ⟨1, 3, (.seq (.asg (.tp (.cons (.nm 1) (.cons (.nm 2) .nil))) (.var 0)) (.ret (.call (ix 6) (.cons (.call (ix 6) (.cons (.var 1) (.cons (.idx (.var 2) (.con (.int 0))) .nil))) (.cons (.idx (.var 2) (.con (.int 1))) .nil)))))⟩
def cf_is_seen (ix : Nat → Nat) : CF := ⟨2, 3, (.seq (.ife (.or (.not (.isi (.var 1) .tup)) (.or (.cmp .ne (.blt .len (.cons (.var 1) .nil)) (.con (.int 3))) (.or (.not (.call (ix 27) (.cons (.idx (.var 1) (.con (.int 0))) .nil))) (.not (.call (ix 27) (.cons (.idx (.var 1) (.con (.int 1))) .nil)))))) (.ret (.con (.bl false))) .skip) (.seq (.ife (.not (.call (ix 28) (.cons (.idx (.var 1) (.con (.int 2))) .nil))) (.ret (.con (.bl false))) .skip) (.seq (.asg (.nm 2) (.call (ix 79) (.cons (.tup (.cons (.var 0) (.cons (.var 1) .nil))) .nil))) (.ret (.and (.call (ix 27) (.cons (.var 2) .nil)) (.not (.call (ix 9) (.cons (.call (ix 7) (.cons (.idx (.var 1) (.con (.int 0))) (.cons (.idx (.var 1) (.con (.int 1))) .nil))) (.cons (.call (ix 7) (.cons (.idx (.var 1) (.con (.int 2))) (.cons (.var 2) .nil))) .nil)))))))))⟩
def cf_is_stretch (ix : Nat → Nat) : CF := ⟨1, 1, (.seq (.ife (.or (.not (.isi (.var 0) .tup)) (.or (.cmp .ne (.blt .len (.cons (.var 0) .nil)) (.con (.int 2))) (.not (.call (ix 27) (.cons (.idx (.var 0) (.con (.int 0))) .nil))))) (.ret (.con (.bl false))) .skip) (.ret (.or (.cmp .is (.idx (.var 0) (.con (.int 1))) (.con .non)) (.call (ix 80) (.cons (.idx (.var 0) (.con (.int 0))) (.cons (.idx (.var 0) (.con (.int 1))) .nil))))))⟩
def cf_joined (ix : Nat → Nat) : CF := ⟨2, 2, (.seq (.ife (.or (.not (.call (ix 81) (.cons (.var 0) .nil))) (.not (.call (ix 81) (.cons (.var 1) .nil)))) .never .skip) (.ret (.call (ix 67) (.cons (.var 0) (.cons (.var 1) .nil)))))⟩
def cf_law_stretch (ix : Nat → Nat) : CF := ⟨1, 6, (.seq (.asg (.nm 1) (.call (ix 19) (.cons (.var 0) (.cons (.con (.int 4)) .nil)))) (.seq (.ife (.cmp .eq (.var 1) (.con (.int 0))) (.ret (.tup (.cons (.call (ix 21) (.cons (.call (ix 19) (.cons (.var 0) (.cons (.con (.int 50)) .nil))) (.cons (.bin .add (.con (.int 1)) (.call (ix 19) (.cons (.var 0) (.cons (.con (.int 4)) .nil)))) .nil))) (.cons (.con .non) .nil)))) .skip) (.seq (.asg (.nm 2) (.call (ix 21) (.cons (.call (ix 19) (.cons (.var 0) (.cons (.con (.int 40)) .nil))) (.cons (.bin .add (.con (.int 1)) (.call (ix 19) (.cons (.var 0) (.cons (.con (.int 4)) .nil)))) .nil)))) (.seq (.asg (.nm 3) (.call (ix 21) (.cons (.call (ix 19) (.cons (.var 0) (.cons (.con (.int 40)) .nil))) (.cons (.bin .add (.con (.int 1)) (.call (ix 19) (.cons (.var 0) (.cons (.con (.int 4)) .nil)))) .nil)))) (.seq (.asg (.nm 4) (.call (ix 21) (.cons (.bin .add (.con (.int 1)) (.call (ix 19) (.cons (.var 0) (.cons (.con (.int 90)) .nil)))) (.cons (.bin .add (.con (.int 1)) (.call (ix 19) (.cons (.var 0) (.cons (.con (.int 6)) .nil)))) .nil)))) (.seq (.asg (.nm 5) (.tup (.cons (.con (.int 0)) (.cons (.con (.int 1)) .nil)))) (.seq (.ife (.cmp .gt (.var 1) (.con (.int 1))) (.asg (.nm 5) (.call (ix 48) (.cons (.call (ix 40) (.cons (.var 2) (.cons (.var 3) .nil))) (.cons (.var 4) .nil)))) .skip) (.seq (.ife (.cmp .eq (.var 1) (.con (.int 3))) (.asg (.nm 5) (.call (ix 40) (.cons (.var 5) (.cons (.call (ix 21) (.cons (.call (ix 19) (.cons (.var 0) (.cons (.con (.int 12)) .nil))) (.cons (.con (.int 11)) .nil))) .nil)))) .skip) (.ret (.tup (.cons (.call (ix 39) (.cons (.call (ix 39) (.cons (.var 2) (.cons (.var 3) .nil))) (.cons (.var 5) .nil))) (.cons (.tup (.cons (.var 2) (.cons (.var 3) (.cons (.var 4) .nil)))) .nil))))))))))))⟩
def cf_stretch_of (ix : Nat → Nat) : CF := ⟨2, 2, (.seq (.expr (.call (ix 32) (.cons (.var 0) .nil))) (.seq (.expr (.call (ix 65) (.cons (.var 0) (.cons (.var 1) .nil)))) (.ret (.call (ix 68) (.cons (.var 0) (.cons (.var 1) .nil))))))⟩
def cf_check_word (ix : Nat → Nat) : CF := ⟨1, 1, (.ife (.or (.not (.isi (.var 0) .str)) (.cmp .notin (.var 0) (.con (.tup [(.str "west free"), (.str "east free"), (.str "west earth"), (.str "east earth")])))) .never .skip)⟩
def cf_check_reading (ix : Nat → Nat) : CF := ⟨1, 1, (.ife (.not (.call (ix 27) (.cons (.var 0) .nil))) .never .skip)⟩
def cf_drag_with (ix : Nat → Nat) : CF := ⟨4, 5, (.seq (.asg (.nm 4) (.call (ix 6) (.cons (.var 3) (.cons (.var 0) .nil)))) (.seq (.ife (.not (.call (ix 28) (.cons (.var 4) .nil))) (.ret (.con .non)) .skip) (.seq (.ife (.cmp .isin (.var 2) (.con (.tup [(.str "west free"), (.str "east free")]))) (.ret (.var 4)) .skip) (.seq (.ife (.not (.call (ix 9) (.cons (.var 4) (.cons (.var 1) .nil)))) (.ret (.con .non)) .skip) (.ret (.call (ix 8) (.cons (.call (ix 7) (.cons (.var 4) (.cons (.var 1) .nil))) (.cons (.call (ix 6) (.cons (.var 1) (.cons (.var 4) .nil))) .nil))))))))⟩
def cf_drag_by (ix : Nat → Nat) : CF := ⟨4, 6, (.seq (.expr (.call (ix 32) (.cons (.var 0) .nil))) (.seq (.expr (.call (ix 85) (.cons (.var 1) .nil))) (.seq (.expr (.call (ix 86) (.cons (.var 2) .nil))) (.seq (.expr (.call (ix 42) (.cons (.var 0) (.cons (.var 3) .nil)))) (.seq (.asg (.nm 4) (.call (ix 43) (.cons (.var 0) (.cons (.var 3) .nil)))) (.seq (.asg (.nm 5) (.call (ix 6) (.cons (.call (ix 34) (.cons (.var 0) .nil)) (.cons (.var 4) .nil)))) (.seq (.ife (.cmp .isin (.var 1) (.con (.tup [(.str "east free"), (.str "east earth")]))) (.asg (.tp (.cons (.nm 4) (.cons (.nm 5) .nil))) (.tup (.cons (.var 5) (.cons (.var 4) .nil)))) .skip) (.ret (.call (ix 87) (.cons (.var 4) (.cons (.var 5) (.cons (.var 1) (.cons (.var 2) .nil)))))))))))))⟩
def cb_law_place_at_1 (ix : Nat → Nat) : CS := (.seq (.asg (.nm 5) (.call (ix 40) (.cons (.tup (.cons (.var 3) (.cons (.con (.int 1)) .nil))) (.cons (.var 4) .nil)))) (.seq (.ife (.not (.call (ix 49) (.cons (.var 5) (.cons (.var 1) .nil)))) (.ret (.call (ix 39) (.cons (.tup (.cons (.var 2) (.cons (.con (.int 1)) .nil))) (.cons (.call (ix 48) (.cons (.var 1) (.cons (.var 4) .nil))) .nil)))) .skip) (.seq (.asg (.nm 1) (.call (ix 47) (.cons (.var 1) (.cons (.var 5) .nil)))) (.asg (.nm 2) (.bin .add (.var 2) (.var 3))))))
def cf_law_place_at (ix : Nat → Nat) : CF := ⟨2, 6, (.seq (.asg (.nm 2) (.con (.int 0))) (.seq (.fr (.tp (.cons (.nm 3) (.cons (.nm 4) .nil))) (.one (.idx (.var 0) (.con (.int 0)))) (cb_law_place_at_1 ix)) (.ret (.tup (.cons (.var 2) (.cons (.con (.int 1)) .nil))))))⟩
def cf_law_read (ix : Nat → Nat) : CF := ⟨3, 4, (.seq (.asg (.nm 3) (.idx (.lst (.cons (.con .non) (.cons (.tup (.cons (.con (.int 0)) (.cons (.con (.int 1)) .nil))) .nil))) (.blt .int (.cons (.cmp .eq (.sl (.var 2) (.one (.con (.int 5))) .nil) (.con (.str "earth"))) .nil)))) (.ret (.call (ix 75) (.cons (.var 0) (.cons (.var 1) (.cons (.cmp .eq (.sl (.var 2) .nil (.one (.con (.int 4)))) (.con (.str "west"))) (.cons (.var 3) .nil)))))))⟩
def cf_law_leak (ix : Nat → Nat) : CF := ⟨2, 3, (.seq (.asg (.nm 2) (.call (ix 21) (.cons (.call (ix 64) (.cons (.var 0) (.cons (.var 1) .nil))) (.cons (.con (.int 6)) .nil)))) (.seq (.ife (.cmp .eq (.call (ix 19) (.cons (.var 0) (.cons (.con (.int 5)) .nil))) (.con (.int 1))) (.asg (.nm 2) (.call (ix 89) (.cons (.var 1) (.cons (.call (ix 40) (.cons (.call (ix 50) (.cons (.var 1) .nil)) (.cons (.tup (.cons (.con (.int 1)) (.cons (.con (.int 2)) .nil))) .nil))) .nil)))) .skip) (.ret (.tup (.cons (.var 2) (.cons (.call (ix 21) (.cons (.bin .add (.con (.int 1)) (.call (ix 19) (.cons (.var 0) (.cons (.con (.int 60)) .nil)))) (.cons (.idx (.lst (.cons (.con (.int 1)) (.cons (.con (.int 1)) (.cons (.con (.int 2)) (.cons (.con (.int 7)) .nil))))) (.call (ix 19) (.cons (.var 0) (.cons (.con (.int 4)) .nil)))) .nil))) .nil))))))⟩
def cf_half (ix : Nat → Nat) : CF := ⟨1, 1, (.ret (.call (ix 2) (.cons (.idx (.var 0) (.con (.int 0))) (.cons (.bin .mul (.con (.int 2)) (.idx (.var 0) (.con (.int 1)))) .nil))))⟩
def cf_by_free_and_earth (ix : Nat → Nat) : CF := ⟨3, 5, (.seq (.asg (.nm 3) (.call (ix 7) (.cons (.call (ix 6) (.cons (.var 1) (.cons (.var 2) .nil))) (.cons (.call (ix 6) (.cons (.var 0) (.cons (.var 2) .nil))) .nil)))) (.seq (.asg (.nm 4) (.call (ix 26) (.cons (.var 3) .nil))) (.seq (.ife (.cmp .is (.var 4) (.con .non)) (.ret (.lst .nil)) .skip) (.ret (.lst (.cons (.call (ix 6) (.cons (.var 2) (.cons (.var 4) .nil))) .nil))))))⟩
def cf_by_free_and_far_earth (ix : Nat → Nat) : CF := ⟨3, 4, (.seq (.asg (.nm 3) (.call (ix 26) (.cons (.call (ix 7) (.cons (.var 1) (.cons (.call (ix 6) (.cons (.var 0) (.cons (.var 2) .nil))) .nil))) .nil))) (.seq (.ife (.cmp .is (.var 3) (.con .non)) (.ret (.lst .nil)) .skip) (.ret (.lst (.cons (.var 3) .nil)))))⟩
def cf_by_earths (ix : Nat → Nat) : CF := ⟨3, 8, (.seq (.asg (.tp (.cons (.nm 3) (.cons (.nm 4) .nil))) (.tup (.cons (.call (ix 6) (.cons (.var 0) (.cons (.var 1) .nil))) (.cons (.call (ix 6) (.cons (.var 0) (.cons (.var 2) .nil))) .nil)))) (.seq (.ife (.or (.cmp .eq (.var 3) (.con (.tup [(.int 0), (.int 1)]))) (.cmp .eq (.var 4) (.con (.tup [(.int 0), (.int 1)])))) (.ret (.lst (.cons (.con (.tup [(.int 0), (.int 1)])) (.cons (.var 0) .nil)))) .skip) (.seq (.ife (.cmp .eq (.var 3) (.var 4)) (.ret (.lst (.cons (.call (ix 92) (.cons (.var 0) .nil)) .nil))) .skip) (.seq (.asg (.nm 5) (.call (ix 7) (.cons (.var 4) (.cons (.call (ix 6) (.cons (.var 0) (.cons (.var 3) .nil))) .nil)))) (.seq (.asg (.nm 6) (.call (ix 26) (.cons (.call (ix 7) (.cons (.call (ix 7) (.cons (.var 3) (.cons (.var 4) .nil))) (.cons (.call (ix 7) (.cons (.call (ix 6) (.cons (.var 0) (.cons (.var 3) .nil))) (.cons (.call (ix 6) (.cons (.var 0) (.cons (.var 4) .nil))) .nil))) .nil))) .nil))) (.seq (.ife (.cmp .is (.var 6) (.con .non)) (.ret (.lst .nil)) .skip) (.seq (.asg (.nm 7) (.call (ix 6) (.cons (.var 4) (.cons (.var 3) .nil)))) (.ret (.lst (.cons (.call (ix 8) (.cons (.call (ix 5) (.cons (.var 5) (.cons (.var 6) .nil))) (.cons (.var 7) .nil))) (.cons (.call (ix 8) (.cons (.call (ix 6) (.cons (.var 5) (.cons (.var 6) .nil))) (.cons (.var 7) .nil))) .nil)))))))))))⟩
def cf_possible_drags (ix : Nat → Nat) : CF := ⟨2, 5, (.seq (.asg (.nm 2) (.blt .sorted (.cons (.var 1) .nil))) (.seq (.ife (.cmp .eq (.var 2) (.lst (.cons (.con (.str "east free")) (.cons (.con (.str "west free")) .nil)))) (.ret (.lst (.cons (.call (ix 92) (.cons (.call (ix 6) (.cons (.call (ix 5) (.cons (.var 0) (.cons (.idx (.var 1) (.con (.str "west free"))) .nil))) (.cons (.idx (.var 1) (.con (.str "east free"))) .nil))) .nil)) .nil))) .skip) (.seq (.ife (.cmp .eq (.var 2) (.lst (.cons (.con (.str "east earth")) (.cons (.con (.str "west earth")) .nil)))) (.ret (.call (ix 95) (.cons (.var 0) (.cons (.idx (.var 1) (.con (.str "west earth"))) (.cons (.idx (.var 1) (.con (.str "east earth"))) .nil))))) .skip) (.seq (.ife (.cmp .eq (.var 2) (.lst (.cons (.con (.str "west earth")) (.cons (.con (.str "west free")) .nil)))) (.ret (.call (ix 93) (.cons (.var 0) (.cons (.idx (.var 1) (.con (.str "west free"))) (.cons (.idx (.var 1) (.con (.str "west earth"))) .nil))))) .skip) (.seq (.ife (.cmp .eq (.var 2) (.lst (.cons (.con (.str "east earth")) (.cons (.con (.str "west free")) .nil)))) (.ret (.call (ix 94) (.cons (.var 0) (.cons (.idx (.var 1) (.con (.str "west free"))) (.cons (.idx (.var 1) (.con (.str "east earth"))) .nil))))) .skip) (.seq (.ife (.cmp .eq (.var 2) (.lst (.cons (.con (.str "east earth")) (.cons (.con (.str "east free")) .nil)))) (.asg (.nm 3) (.call (ix 93) (.cons (.var 0) (.cons (.idx (.var 1) (.con (.str "east free"))) (.cons (.idx (.var 1) (.con (.str "east earth"))) .nil))))) (.asg (.nm 3) (.call (ix 94) (.cons (.var 0) (.cons (.idx (.var 1) (.con (.str "east free"))) (.cons (.idx (.var 1) (.con (.str "west earth"))) .nil)))))) (.ret (.comp (.call (ix 6) (.cons (.var 0) (.cons (.var 4) .nil))) (.nm 4) (.one (.var 3)) (.con (.bl true)) [4] false))))))))⟩
def cb_leak_with_1 (ix : Nat → Nat) : CS := (.seq (.asg (.tp (.cons (.nm 6) (.cons (.nm 7) .nil))) (.tup (.cons (.var 3) (.cons (.call (ix 6) (.cons (.var 1) (.cons (.var 3) .nil))) .nil)))) (.seq (.ife (.cmp .isin (.var 5) (.con (.tup [(.str "east free"), (.str "east earth")]))) (.asg (.tp (.cons (.nm 6) (.cons (.nm 7) .nil))) (.tup (.cons (.var 7) (.cons (.var 6) .nil)))) .skip) (.seq (.asg (.nm 8) (.call (ix 87) (.cons (.var 6) (.cons (.var 7) (.cons (.var 5) (.cons (.idx (.var 2) (.var 5)) .nil)))))) (.ife (.cmp .isnot (.var 8) (.con .non)) (.seq (.asg (.nm 9) (.call (ix 68) (.cons (.var 0) (.cons (.tup (.cons (.tup (.cons (.var 4) (.cons (.var 8) .nil))) .nil)) .nil)))) (.ife (.blt .all (.cons (.comp (.cmp .eq (.call (ix 70) (.cons (.var 9) (.cons (.idx (.var 0) (.con (.int 1))) (.cons (.var 10) .nil)))) (.idx (.var 2) (.var 10))) (.nm 10) (.one (.var 2)) (.con (.bl true)) [10] false) .nil)) (.ret (.tup (.cons (.var 4) (.cons (.var 8) .nil)))) .skip)) .skip))))
def cf_leak_with (ix : Nat → Nat) : CF := ⟨4, 11, (.seq (.ife (.or (.not (.call (ix 27) (.cons (.var 3) .nil))) (.call (ix 9) (.cons (.var 1) (.cons (.var 3) .nil)))) (.ret (.con .non)) .skip) (.seq (.asg (.nm 4) (.call (ix 44) (.cons (.var 0) (.cons (.var 3) .nil)))) (.seq (.fr (.nm 5) (.one (.var 2)) (cb_leak_with_1 ix)) (.ret (.con .non)))))⟩
def cb_one_leak_1 (ix : Nat → Nat) : CS := (.seq (.asg (.nm 8) (.call (ix 97) (.cons (.var 0) (.cons (.var 5) (.cons (.var 6) (.cons (.var 7) .nil)))))) (.ife (.cmp .isnot (.var 8) (.con .non)) (.ret (.var 8)) .skip))
def cf_one_leak (ix : Nat → Nat) : CF := ⟨5, 9, (.seq (.expr (.call (ix 32) (.cons (.var 0) .nil))) (.seq (.expr (.call (ix 85) (.cons (.var 1) .nil))) (.seq (.expr (.call (ix 86) (.cons (.var 2) .nil))) (.seq (.expr (.call (ix 85) (.cons (.var 3) .nil))) (.seq (.ife (.cmp .eq (.var 3) (.var 1)) .never .skip) (.seq (.expr (.call (ix 86) (.cons (.var 4) .nil))) (.seq (.asg (.nm 5) (.call (ix 34) (.cons (.var 0) .nil))) (.seq (.asg (.nm 6) .nil) (.seq (.fr (.nm 7) (.one (.call (ix 96) (.cons (.var 5) (.cons (.var 6) .nil)))) (cb_one_leak_1 ix)) (.ret (.con .non)))))))))))⟩
def cf_is_day (ix : Nat → Nat) : CF := ⟨1, 1, (.seq (.ife (.or (.not (.isi (.var 0) .tup)) (.or (.cmp .ne (.blt .len (.cons (.var 0) .nil)) (.con (.int 3))) (.not (.call (ix 27) (.cons (.idx (.var 0) (.con (.int 2))) .nil))))) (.ret (.con (.bl false))) .skip) (.seq (.ife (.or (.cmp .is (.idx (.var 0) (.con (.int 0))) (.con .non)) (.cmp .is (.idx (.var 0) (.con (.int 1))) (.con .non))) (.ret (.and (.cmp .is (.idx (.var 0) (.con (.int 0))) (.con .non)) (.cmp .is (.idx (.var 0) (.con (.int 1))) (.con .non)))) .skip) (.ret (.and (.call (ix 28) (.cons (.idx (.var 0) (.con (.int 0))) .nil)) (.call (ix 28) (.cons (.idx (.var 0) (.con (.int 1))) .nil))))))⟩
def cf_check_day (ix : Nat → Nat) : CF := ⟨1, 1, (.ife (.not (.call (ix 99) (.cons (.var 0) .nil))) .never .skip)⟩
def cf_day_by (ix : Nat → Nat) : CF := ⟨2, 7, (.seq (.asg (.tp (.cons (.nm 2) (.cons (.nm 3) .nil))) (.var 0)) (.seq (.ife (.cmp .is (.var 3) (.con .non)) (.ret (.tup (.cons (.con .non) (.cons (.con .non) (.cons (.call (ix 5) (.cons (.var 1) (.cons (.var 2) .nil))) .nil))))) .skip) (.seq (.asg (.tp (.cons (.nm 4) (.cons (.nm 5) (.cons (.nm 6) .nil)))) (.var 3)) (.ret (.tup (.cons (.call (ix 5) (.cons (.var 4) (.cons (.var 6) .nil))) (.cons (.call (ix 5) (.cons (.var 5) (.cons (.var 6) .nil))) (.cons (.call (ix 5) (.cons (.var 1) (.cons (.call (ix 5) (.cons (.var 4) (.cons (.var 5) .nil))) .nil))) .nil))))))))⟩
def cf_day_of (ix : Nat → Nat) : CF := ⟨2, 2, (.seq (.expr (.call (ix 32) (.cons (.var 0) .nil))) (.seq (.expr (.call (ix 65) (.cons (.var 0) (.cons (.var 1) .nil)))) (.ret (.call (ix 101) (.cons (.call (ix 68) (.cons (.var 0) (.cons (.var 1) .nil))) (.cons (.idx (.var 0) (.con (.int 1))) .nil))))))⟩
def cf_four_of (ix : Nat → Nat) : CF := ⟨2, 7, (.seq (.asg (.tp (.cons (.nm 2) (.cons (.nm 3) (.cons (.nm 4) .nil)))) (.var 1)) (.seq (.asg (.nm 5) (.call (ix 92) (.cons (.call (ix 6) (.cons (.call (ix 5) (.cons (.call (ix 5) (.cons (.var 2) (.cons (.var 3) .nil))) (.cons (.idx (.var 0) (.con (.int 1))) .nil))) (.cons (.var 4) .nil))) .nil))) (.seq (.asg (.nm 6) (.call (ix 6) (.cons (.call (ix 5) (.cons (.idx (.var 0) (.con (.int 1))) (.cons (.call (ix 34) (.cons (.var 0) .nil)) .nil))) (.cons (.var 4) .nil)))) (.ret (.tup (.cons (.call (ix 6) (.cons (.var 2) (.cons (.var 5) .nil))) (.cons (.call (ix 6) (.cons (.var 3) (.cons (.var 5) .nil))) (.cons (.var 5) (.cons (.var 6) .nil)))))))))⟩
def cf_fault_in (ix : Nat → Nat) : CF := ⟨1, 5, (.seq (.asg (.tp (.cons (.nm 1) (.cons (.nm 2) (.cons (.nm 3) (.cons (.nm 4) .nil))))) (.var 0)) (.seq (.ife (.call (ix 9) (.cons (.var 4) (.cons (.con (.tup [(.int 0), (.int 1)])) .nil))) (.ret (.con (.str "loop"))) .skip) (.seq (.ife (.not (.call (ix 9) (.cons (.con (.tup [(.int 0), (.int 1)])) (.cons (.var 3) .nil)))) (.ret (.con (.str "earth"))) .skip) (.seq (.ife (.call (ix 9) (.cons (.var 1) (.cons (.con (.tup [(.int 0), (.int 1)])) .nil))) (.ret (.con (.str "west"))) .skip) (.seq (.ife (.call (ix 9) (.cons (.var 2) (.cons (.con (.tup [(.int 0), (.int 1)])) .nil))) (.ret (.con (.str "east"))) .skip) (.seq (.ife (.call (ix 9) (.cons (.call (ix 7) (.cons (.var 1) (.cons (.var 2) .nil))) (.cons (.call (ix 7) (.cons (.var 3) (.cons (.var 4) .nil))) .nil))) (.ret (.con (.str "lack"))) .skip) (.ret (.con .non))))))))⟩
def cf_kind_by (ix : Nat → Nat) : CF := ⟨2, 4, (.seq (.ife (.cmp .is (.idx (.var 1) (.con (.int 0))) (.con .non)) (.seq (.ife (.cmp .eq (.idx (.var 1) (.con (.int 2))) (.call (ix 5) (.cons (.idx (.var 0) (.con (.int 1))) (.cons (.call (ix 34) (.cons (.var 0) .nil)) .nil)))) (.ret (.tup (.cons (.con (.str "sound")) .nil))) .skip) (.ret (.tup (.cons (.con (.str "wrong")) (.cons (.con (.str "loop")) .nil))))) .skip) (.seq (.asg (.nm 2) (.call (ix 103) (.cons (.var 0) (.cons (.var 1) .nil)))) (.seq (.asg (.nm 3) (.call (ix 104) (.cons (.var 2) .nil))) (.seq (.ife (.cmp .isnot (.var 3) (.con .non)) (.ret (.tup (.cons (.con (.str "wrong")) (.cons (.var 3) .nil)))) .skip) (.seq (.ife (.cmp .eq (.idx (.var 2) (.con (.int 3))) (.con (.tup [(.int 0), (.int 1)]))) (.ret (.tup (.cons (.con (.str "one")) (.cons (.tup (.cons (.call (ix 44) (.cons (.var 0) (.cons (.idx (.var 2) (.con (.int 0))) .nil))) (.cons (.idx (.var 2) (.con (.int 2))) .nil))) .nil)))) .skip) (.ret (.tup (.cons (.con (.str "two")) .nil))))))))⟩
def cf_seen_of (ix : Nat → Nat) : CF := ⟨2, 2, (.seq (.ife (.cmp .is (.idx (.var 1) (.con (.int 0))) (.con .non)) (.ret (.con .non)) .skip) (.ret (.sl (.call (ix 103) (.cons (.var 0) (.cons (.var 1) .nil))) .nil (.one (.con (.int 3))))))⟩
def cf_seen_by (ix : Nat → Nat) : CF := ⟨2, 2, (.seq (.expr (.call (ix 32) (.cons (.var 0) .nil))) (.seq (.expr (.call (ix 100) (.cons (.var 1) .nil))) (.seq (.ife (.cmp .eq (.idx (.call (ix 105) (.cons (.var 0) (.cons (.var 1) .nil))) (.con (.int 0))) (.con (.str "wrong"))) .never .skip) (.ret (.call (ix 106) (.cons (.var 0) (.cons (.var 1) .nil)))))))⟩
def cf_law_star (ix : Nat → Nat) : CF := ⟨2, 7, (.seq (.asg (.tp (.cons (.nm 2) (.cons (.nm 3) (.cons (.nm 4) .nil)))) (.var 1)) (.seq (.asg (.nm 5) (.call (ix 40) (.cons (.call (ix 47) (.cons (.call (ix 39) (.cons (.call (ix 39) (.cons (.var 2) (.cons (.var 3) .nil))) (.cons (.idx (.var 0) (.con (.int 1))) .nil))) (.cons (.var 4) .nil))) (.cons (.tup (.cons (.con (.int 1)) (.cons (.con (.int 2)) .nil))) .nil)))) (.seq (.asg (.nm 6) (.call (ix 47) (.cons (.call (ix 39) (.cons (.idx (.var 0) (.con (.int 1))) (.cons (.call (ix 50) (.cons (.var 0) .nil)) .nil))) (.cons (.var 4) .nil)))) (.ret (.tup (.cons (.call (ix 47) (.cons (.var 2) (.cons (.var 5) .nil))) (.cons (.call (ix 47) (.cons (.var 3) (.cons (.var 5) .nil))) (.cons (.var 5) (.cons (.var 6) .nil)))))))))⟩
def cf_kind_of (ix : Nat → Nat) : CF := ⟨2, 2, (.seq (.expr (.call (ix 32) (.cons (.var 0) .nil))) (.seq (.expr (.call (ix 100) (.cons (.var 1) .nil))) (.ret (.call (ix 105) (.cons (.var 0) (.cons (.var 1) .nil))))))⟩
def cf_check_two (ix : Nat → Nat) : CF := ⟨2, 3, (.seq (.expr (.call (ix 100) (.cons (.var 1) .nil))) (.seq (.asg (.nm 2) (.call (ix 105) (.cons (.var 0) (.cons (.var 1) .nil)))) (.seq (.ife (.cmp .eq (.idx (.var 2) (.con (.int 0))) (.con (.str "wrong"))) .never .skip) (.seq (.ife (.cmp .ne (.idx (.var 2) (.con (.int 0))) (.con (.str "two"))) .never .skip) (.ret (.call (ix 103) (.cons (.var 0) (.cons (.var 1) .nil))))))))⟩
def cf_spans_by (ix : Nat → Nat) : CF := ⟨2, 8, (.seq (.asg (.tp (.cons (.nm 2) (.cons (.nm 3) (.cons (.nm 4) (.cons (.nm 5) .nil))))) (.var 1)) (.seq (.asg (.tp (.cons (.nm 6) (.cons (.nm 7) .nil))) (.tup (.cons (.call (ix 34) (.cons (.var 0) .nil)) (.cons (.call (ix 7) (.cons (.var 4) (.cons (.var 5) .nil))) .nil)))) (.ret (.tup (.cons (.tup (.cons (.con (.tup [(.int 0), (.int 1)])) (.cons (.call (ix 6) (.cons (.var 2) (.cons (.call (ix 8) (.cons (.var 7) (.cons (.var 3) .nil))) .nil))) .nil))) (.cons (.tup (.cons (.call (ix 5) (.cons (.call (ix 6) (.cons (.var 6) (.cons (.var 3) .nil))) (.cons (.call (ix 8) (.cons (.var 7) (.cons (.var 2) .nil))) .nil))) (.cons (.var 6) .nil))) .nil))))))⟩
def cf_partner_by (ix : Nat → Nat) : CF := ⟨3, 10, (.seq (.asg (.tp (.cons (.nm 3) (.cons (.nm 4) (.cons (.nm 5) (.cons (.nm 6) .nil))))) (.var 1)) (.seq (.asg (.nm 7) (.call (ix 6) (.cons (.var 3) (.cons (.var 2) .nil)))) (.seq (.asg (.nm 8) (.call (ix 8) (.cons (.call (ix 7) (.cons (.var 5) (.cons (.var 6) .nil))) (.cons (.var 7) .nil)))) (.seq (.asg (.nm 9) (.call (ix 5) (.cons (.var 6) (.cons (.call (ix 5) (.cons (.var 7) (.cons (.var 8) .nil))) .nil)))) (.ret (.tup (.cons (.var 2) (.cons (.call (ix 8) (.cons (.call (ix 7) (.cons (.var 7) (.cons (.var 9) .nil))) (.cons (.var 6) .nil))) (.cons (.call (ix 5) (.cons (.var 2) (.cons (.var 9) .nil))) (.cons (.call (ix 8) (.cons (.call (ix 7) (.cons (.var 8) (.cons (.var 9) .nil))) (.cons (.var 6) .nil))) .nil))))))))))⟩
def cf_partner_west (ix : Nat → Nat) : CF := ⟨3, 8, (.seq (.asg (.tp (.cons (.nm 3) (.cons (.nm 4) (.cons (.nm 5) (.cons (.nm 6) .nil))))) (.var 1)) (.seq (.asg (.nm 7) (.call (ix 6) (.cons (.var 4) (.cons (.call (ix 6) (.cons (.call (ix 34) (.cons (.var 0) .nil)) (.cons (.var 2) .nil))) .nil)))) (.ret (.call (ix 6) (.cons (.var 3) (.cons (.call (ix 8) (.cons (.call (ix 7) (.cons (.var 5) (.cons (.var 6) .nil))) (.cons (.var 7) .nil))) .nil))))))⟩
def cf_drag_within (ix : Nat → Nat) : CF := ⟨3, 4, (.seq (.expr (.call (ix 42) (.cons (.var 0) (.cons (.var 2) .nil)))) (.seq (.asg (.nm 3) (.call (ix 43) (.cons (.var 0) (.cons (.var 2) .nil)))) (.seq (.ife (.or (.call (ix 9) (.cons (.var 3) (.cons (.idx (.var 1) (.con (.int 0))) .nil))) (.call (ix 9) (.cons (.idx (.var 1) (.con (.int 1))) (.cons (.var 3) .nil)))) .never .skip) (.ret (.var 3)))))⟩
def cf_places_with (ix : Nat → Nat) : CF := ⟨2, 2, (.ret (.tup (.cons (.call (ix 44) (.cons (.var 0) (.cons (.idx (.var 1) (.con (.int 0))) .nil))) (.cons (.call (ix 44) (.cons (.var 0) (.cons (.idx (.var 1) (.con (.int 1))) .nil))) .nil))))⟩
def cf_west_span (ix : Nat → Nat) : CF := ⟨2, 2, (.seq (.expr (.call (ix 32) (.cons (.var 0) .nil))) (.ret (.call (ix 115) (.cons (.var 0) (.cons (.idx (.call (ix 111) (.cons (.var 0) (.cons (.call (ix 110) (.cons (.var 0) (.cons (.var 1) .nil))) .nil))) (.con (.int 0))) .nil)))))⟩
def cf_east_span (ix : Nat → Nat) : CF := ⟨2, 2, (.seq (.expr (.call (ix 32) (.cons (.var 0) .nil))) (.ret (.call (ix 115) (.cons (.var 0) (.cons (.idx (.call (ix 111) (.cons (.var 0) (.cons (.call (ix 110) (.cons (.var 0) (.cons (.var 1) .nil))) .nil))) (.con (.int 1))) .nil)))))⟩
def cf_pair_at (ix : Nat → Nat) : CF := ⟨3, 8, (.seq (.expr (.call (ix 32) (.cons (.var 0) .nil))) (.seq (.asg (.nm 3) (.call (ix 110) (.cons (.var 0) (.cons (.var 1) .nil)))) (.seq (.asg (.nm 4) (.call (ix 114) (.cons (.var 0) (.cons (.idx (.call (ix 111) (.cons (.var 0) (.cons (.var 3) .nil))) (.con (.int 0))) (.cons (.var 2) .nil))))) (.seq (.asg (.tp (.cons (.nm 4) (.cons (.nm 5) (.cons (.nm 6) (.cons (.nm 7) .nil))))) (.call (ix 112) (.cons (.var 0) (.cons (.var 3) (.cons (.var 4) .nil))))) (.ret (.tup (.cons (.tup (.cons (.var 2) (.cons (.var 5) .nil))) (.cons (.tup (.cons (.call (ix 44) (.cons (.var 0) (.cons (.var 6) .nil))) (.cons (.var 7) .nil))) .nil))))))))⟩
def cf_east_of (ix : Nat → Nat) : CF := ⟨3, 3, (.ret (.idx (.idx (.call (ix 118) (.cons (.var 0) (.cons (.var 1) (.cons (.var 2) .nil)))) (.con (.int 1))) (.con (.int 0))))⟩
def cf_west_of (ix : Nat → Nat) : CF := ⟨3, 5, (.seq (.expr (.call (ix 32) (.cons (.var 0) .nil))) (.seq (.asg (.nm 3) (.call (ix 110) (.cons (.var 0) (.cons (.var 1) .nil)))) (.seq (.asg (.nm 4) (.call (ix 114) (.cons (.var 0) (.cons (.idx (.call (ix 111) (.cons (.var 0) (.cons (.var 3) .nil))) (.con (.int 1))) (.cons (.var 2) .nil))))) (.ret (.call (ix 44) (.cons (.var 0) (.cons (.call (ix 113) (.cons (.var 0) (.cons (.var 3) (.cons (.var 4) .nil)))) .nil)))))))⟩
def cf_law_partner (ix : Nat → Nat) : CF := ⟨3, 7, (.seq (.asg (.nm 3) (.call (ix 47) (.cons (.idx (.var 1) (.con (.int 0))) (.cons (.var 2) .nil)))) (.seq (.asg (.nm 4) (.call (ix 48) (.cons (.call (ix 40) (.cons (.idx (.var 1) (.con (.int 2))) (.cons (.idx (.var 1) (.con (.int 3))) .nil))) (.cons (.var 3) .nil)))) (.seq (.asg (.nm 5) (.call (ix 39) (.cons (.idx (.var 1) (.con (.int 3))) (.cons (.call (ix 39) (.cons (.var 3) (.cons (.var 4) .nil))) .nil)))) (.seq (.asg (.nm 6) (.call (ix 48) (.cons (.call (ix 40) (.cons (.var 3) (.cons (.var 5) .nil))) (.cons (.idx (.var 1) (.con (.int 3))) .nil)))) (.ret (.tup (.cons (.var 2) (.cons (.var 6) (.cons (.call (ix 47) (.cons (.idx (.var 1) (.con (.int 1))) (.cons (.var 4) .nil))) (.cons (.call (ix 48) (.cons (.call (ix 40) (.cons (.var 4) (.cons (.var 5) .nil))) (.cons (.idx (.var 1) (.con (.int 3))) .nil))) .nil))))))))))⟩
def cb_law_pair_1 (ix : Nat → Nat) : CS := (.set (.var 6) (.var 7) (.call (ix 21) (.cons (.bin .add (.con (.int 1)) (.call (ix 19) (.cons (.var 0) (.cons (.con (.int 60)) .nil)))) (.cons (.idx (.lst (.cons (.con (.int 1)) (.cons (.con (.int 1)) (.cons (.con (.int 2)) (.cons (.con (.int 7)) .nil))))) (.call (ix 19) (.cons (.var 0) (.cons (.con (.int 4)) .nil)))) .nil))))
def cf_law_pair (ix : Nat → Nat) : CF := ⟨2, 9, (.seq (.asg (.nm 2) (.comp (.idx (.var 8) (.con (.int 0))) (.nm 8) (.one (.idx (.var 1) (.con (.int 0)))) (.con (.bl true)) [8] false)) (.seq (.asg (.nm 3) (.bin .mul (.con (.int 6)) (.blt .sum (.cons (.var 2) .nil)))) (.seq (.asg (.nm 4) (.idx (.lst (.cons (.call (ix 19) (.cons (.var 0) (.cons (.var 3) .nil))) (.cons (.con (.int 0)) (.cons (.bin .mul (.con (.int 6)) (.blt .sum (.cons (.sl (.var 2) .nil (.one (.call (ix 19) (.cons (.var 0) (.cons (.blt .len (.cons (.var 2) .nil)) .nil))))) .nil))) .nil)))) (.call (ix 19) (.cons (.var 0) (.cons (.con (.int 3)) .nil))))) (.seq (.asg (.nm 5) (.idx (.lst (.cons (.bin .add (.bin .add (.var 4) (.con (.int 1))) (.call (ix 19) (.cons (.var 0) (.cons (.bin .sub (.var 3) (.var 4)) .nil)))) (.cons (.var 3) .nil))) (.blt .int (.cons (.cmp .eq (.call (ix 19) (.cons (.var 0) (.cons (.con (.int 4)) .nil))) (.con (.int 1))) .nil)))) (.seq (.asg (.nm 6) .mdk) (.seq (.fr (.nm 7) (.one (.lst (.cons (.var 4) (.cons (.var 5) .nil)))) (cb_law_pair_1 ix)) (.ret (.var 6))))))))⟩
def cf_law_listed (ix : Nat → Nat) : CF := ⟨1, 2, (.ret (.blt .tuple (.cons (.comp (.tup (.cons (.call (ix 21) (.cons (.var 1) (.cons (.con (.int 6)) .nil))) (.cons (.idx (.var 0) (.var 1)) .nil))) (.nm 1) (.one (.blt .sorted (.cons (.var 0) .nil))) (.con (.bl true)) [1] false) .nil)))⟩
def cb_law_two_more_1 (ix : Nat → Nat) : CS := (.expr (.setd (.var 2) (.call (ix 64) (.cons (.var 0) (.cons (.var 1) .nil))) (.tup (.cons (.bin .add (.con (.int 1)) (.call (ix 19) (.cons (.var 0) (.cons (.con (.int 60)) .nil)))) (.cons (.con (.int 1)) .nil)))))
def cf_law_two_more (ix : Nat → Nat) : CF := ⟨2, 4, (.seq (.asg (.nm 2) (.call (ix 122) (.cons (.var 0) (.cons (.var 1) .nil)))) (.seq (.fr (.nm 3) (.rng (.con (.int 0)) (.idx (.lst (.cons (.con (.int 0)) (.cons (.con (.int 0)) (.cons (.con (.int 2)) .nil)))) (.call (ix 19) (.cons (.var 0) (.cons (.con (.int 3)) .nil))))) (cb_law_two_more_1 ix)) (.ret (.call (ix 123) (.cons (.var 2) .nil)))))⟩
def cf_law_spans (ix : Nat → Nat) : CF := ⟨2, 9, (.seq (.asg (.tp (.cons (.nm 2) (.cons (.nm 3) (.cons (.nm 4) (.cons (.nm 5) .nil))))) (.var 1)) (.seq (.asg (.tp (.cons (.nm 6) (.cons (.nm 7) .nil))) (.tup (.cons (.call (ix 40) (.cons (.var 4) (.cons (.var 5) .nil))) (.cons (.call (ix 50) (.cons (.var 0) .nil)) .nil)))) (.seq (.asg (.nm 8) (.call (ix 39) (.cons (.call (ix 47) (.cons (.var 7) (.cons (.var 3) .nil))) (.cons (.call (ix 48) (.cons (.var 6) (.cons (.var 2) .nil))) .nil)))) (.ret (.lst (.cons (.tup (.cons (.tup (.cons (.con (.int 0)) (.cons (.con (.int 1)) .nil))) (.cons (.call (ix 47) (.cons (.var 2) (.cons (.call (ix 48) (.cons (.var 6) (.cons (.var 3) .nil))) .nil))) .nil))) (.cons (.tup (.cons (.var 8) (.cons (.var 7) .nil))) .nil)))))))⟩
def cb_law_spots_1 (ix : Nat → Nat) : CS := (.seq (.asg (.nm 6) (.bin .add (.con (.int 2)) (.call (ix 19) (.cons (.var 0) (.cons (.con (.int 11)) .nil))))) (.expr (.mth .append (.var 4) (.cons (.call (ix 39) (.cons (.idx (.var 1) (.con (.int 0))) (.cons (.call (ix 40) (.cons (.var 3) (.cons (.call (ix 21) (.cons (.bin .add (.con (.int 1)) (.call (ix 19) (.cons (.var 0) (.cons (.bin .sub (.var 6) (.con (.int 1))) .nil)))) (.cons (.var 6) .nil))) .nil))) .nil))) .nil))))
def cf_law_spots (ix : Nat → Nat) : CF := ⟨3, 7, (.seq (.asg (.nm 3) (.call (ix 47) (.cons (.idx (.var 1) (.con (.int 1))) (.cons (.idx (.var 1) (.con (.int 0))) .nil)))) (.seq (.asg (.nm 4) (.mlst (.cons (.idx (.var 1) (.con (.int 0))) (.cons (.idx (.var 1) (.con (.int 1))) .nil)))) (.seq (.fr (.nm 5) (.rng (.con (.int 0)) (.var 2)) (cb_law_spots_1 ix)) (.retF 4))))⟩
def cf_check_splice (ix : Nat → Nat) : CF := ⟨2, 2, (.ife (.or (.not (.call (ix 0) (.cons (.var 1) .nil))) (.not (.chain .le .lt (.con (.int 1)) (.var 1) (.blt .len (.cons (.idx (.var 0) (.con (.int 0))) .nil))))) .never .skip)⟩
def cf_part_cables (ix : Nat → Nat) : CF := ⟨2, 4, (.seq (.asg (.tp (.cons (.nm 2) (.cons (.nm 3) .nil))) (.var 0)) (.ret (.tup (.cons (.tup (.cons (.sl (.var 2) .nil (.one (.var 1))) (.cons (.var 3) .nil))) (.cons (.tup (.cons (.sl (.var 2) (.one (.var 1)) .nil) (.cons (.var 3) .nil))) .nil)))))⟩
def cf_parts (ix : Nat → Nat) : CF := ⟨2, 2, (.seq (.expr (.call (ix 32) (.cons (.var 0) .nil))) (.seq (.expr (.call (ix 127) (.cons (.var 0) (.cons (.var 1) .nil)))) (.ret (.call (ix 128) (.cons (.var 0) (.cons (.var 1) .nil))))))⟩
def cf_leaks_parted (ix : Nat → Nat) : CF := ⟨3, 9, (.seq (.expr (.call (ix 32) (.cons (.var 0) .nil))) (.seq (.expr (.call (ix 65) (.cons (.var 0) (.cons (.var 1) .nil)))) (.seq (.expr (.call (ix 127) (.cons (.var 0) (.cons (.var 2) .nil)))) (.seq (.asg (.nm 3) (.tup (.cons (.idx (.call (ix 35) (.cons (.var 0) .nil)) (.bin .sub (.var 2) (.con (.int 1)))) (.cons (.con (.int 1)) .nil)))) (.seq (.asg (.nm 4) (.blt .tuple (.cons (.comp (.var 6) (.nm 6) (.one (.var 1)) (.not (.call (ix 9) (.cons (.var 3) (.cons (.idx (.var 6) (.con (.int 0))) .nil)))) [6] false) .nil))) (.seq (.asg (.nm 5) (.blt .tuple (.cons (.comp (.tup (.cons (.call (ix 6) (.cons (.var 7) (.cons (.var 3) .nil))) (.cons (.var 8) .nil))) (.tp (.cons (.nm 7) (.cons (.nm 8) .nil))) (.one (.var 1)) (.call (ix 9) (.cons (.var 3) (.cons (.var 7) .nil))) [7, 8] false) .nil))) (.ret (.tup (.cons (.var 4) (.cons (.var 5) .nil))))))))))⟩
def cf_east_drag (ix : Nat → Nat) : CF := ⟨3, 3, (.ret (.call (ix 5) (.cons (.call (ix 6) (.cons (.var 0) (.cons (.idx (.var 1) (.con (.int 1))) .nil))) (.cons (.call (ix 8) (.cons (.call (ix 7) (.cons (.idx (.var 1) (.con (.int 2))) (.cons (.idx (.var 1) (.con (.int 3))) .nil))) (.cons (.call (ix 6) (.cons (.idx (.var 1) (.con (.int 0))) (.cons (.var 2) .nil))) .nil))) .nil))))⟩
def cf_west_drag (ix : Nat → Nat) : CF := ⟨3, 4, (.seq (.asg (.nm 3) (.call (ix 6) (.cons (.idx (.var 1) (.con (.int 1))) (.cons (.call (ix 6) (.cons (.var 0) (.cons (.var 2) .nil))) .nil)))) (.seq (.ife (.not (.call (ix 28) (.cons (.var 3) .nil))) (.ret (.con .non)) .skip) (.ret (.call (ix 6) (.cons (.idx (.var 1) (.con (.int 0))) (.cons (.call (ix 8) (.cons (.call (ix 7) (.cons (.idx (.var 1) (.con (.int 2))) (.cons (.idx (.var 1) (.con (.int 3))) .nil))) (.cons (.var 3) .nil))) .nil))))))⟩
def cf_next_cut (ix : Nat → Nat) : CF := ⟨4, 7, (.seq (.asg (.nm 4) (.comp (.var 6) (.nm 6) (.rng (.con (.int 0)) (.blt .len (.cons (.var 0) .nil))) (.not (.call (ix 9) (.cons (.idx (.var 0) (.var 6)) (.cons (.var 3) .nil)))) [6] false)) (.seq (.ife (.and (.cmp .ne (.var 4) (.lst .nil)) (.call (ix 9) (.cons (.idx (.var 0) (.idx (.var 4) (.con (.int 0)))) (.cons (.call (ix 131) (.cons (.var 1) (.cons (.var 2) (.cons (.var 3) .nil)))) .nil)))) (.ret (.tup (.cons (.idx (.var 4) (.con (.int 0))) (.cons (.var 3) .nil)))) .skip) (.seq (.asg (.nm 5) (.bin .sub (.blt .len (.cons (.var 0) .nil)) (.blt .len (.cons (.var 4) .nil)))) (.seq (.ife (.cmp .eq (.var 5) (.con (.int 0))) (.ret (.con .non)) .skip) (.ret (.tup (.cons (.bin .sub (.var 5) (.con (.int 1))) (.cons (.idx (.var 0) (.bin .sub (.var 5) (.con (.int 1)))) .nil))))))))⟩
def cb_cover_by_1 (ix : Nat → Nat) : CS := (.seq (.asg (.nm 7) (.call (ix 133) (.cons (.var 3) (.cons (.var 2) (.cons (.var 1) (.cons (.var 6) .nil)))))) (.seq (.ife (.cmp .is (.var 7) (.con .non)) .brk .skip) (.seq (.expr (.mth .append (.var 4) (.cons (.bin .add (.idx (.var 7) (.con (.int 0))) (.con (.int 1))) .nil))) (.seq (.expr (.mth .append (.var 5) (.cons (.idx (.var 7) (.con (.int 1))) .nil))) (.asg (.nm 6) (.call (ix 132) (.cons (.var 2) (.cons (.var 1) (.cons (.idx (.var 3) (.idx (.var 7) (.con (.int 0)))) .nil)))))))))
def cf_cover_by (ix : Nat → Nat) : CF := ⟨2, 9, (.seq (.asg (.nm 2) (.call (ix 34) (.cons (.var 0) .nil))) (.seq (.asg (.nm 3) (.comp (.call (ix 43) (.cons (.var 0) (.cons (.tup (.cons (.var 8) (.cons (.con (.int 1)) .nil))) .nil))) (.nm 8) (.one (.call (ix 35) (.cons (.var 0) .nil))) (.con (.bl true)) [8] false)) (.seq (.asg (.tp (.cons (.nm 4) (.cons (.nm 5) .nil))) (.tup (.cons (.mlst .nil) (.cons (.mlst .nil) .nil)))) (.seq (.asg (.nm 6) (.call (ix 6) (.cons (.idx (.var 1) (.con (.int 0))) (.cons (.call (ix 8) (.cons (.call (ix 7) (.cons (.idx (.var 1) (.con (.int 2))) (.cons (.idx (.var 1) (.con (.int 3))) .nil))) (.cons (.idx (.var 1) (.con (.int 1))) .nil))) .nil)))) (.seq (.whl (.and (.cmp .isnot (.var 6) (.con .non)) (.not (.call (ix 9) (.cons (.var 6) (.cons (.con (.tup [(.int 0), (.int 1)])) .nil))))) (cb_cover_by_1 ix)) (.seq (.expr (.mth .reverse (.var 4) .nil)) (.seq (.expr (.mth .reverse (.var 5) .nil)) (.ret (.tup (.cons (.blt .tuple (.cons (.var 4) .nil)) (.cons (.blt .tuple (.cons (.var 5) .nil)) .nil)))))))))))⟩
def cf_cover_of (ix : Nat → Nat) : CF := ⟨2, 6, (.seq (.expr (.call (ix 32) (.cons (.var 0) .nil))) (.seq (.asg (.nm 2) (.call (ix 110) (.cons (.var 0) (.cons (.var 1) .nil)))) (.seq (.asg (.tp (.cons (.nm 3) (.cons (.nm 4) .nil))) (.call (ix 134) (.cons (.var 0) (.cons (.var 2) .nil)))) (.ret (.tup (.cons (.var 3) (.cons (.blt .tuple (.cons (.comp (.call (ix 44) (.cons (.var 0) (.cons (.var 5) .nil))) (.nm 5) (.one (.var 4)) (.con (.bl true)) [5] false) .nil)) .nil)))))))⟩
def cf_law_east (ix : Nat → Nat) : CF := ⟨3, 4, (.seq (.asg (.nm 3) (.call (ix 47) (.cons (.idx (.var 1) (.con (.int 0))) (.cons (.var 2) .nil)))) (.ret (.call (ix 39) (.cons (.call (ix 47) (.cons (.call (ix 50) (.cons (.var 0) .nil)) (.cons (.idx (.var 1) (.con (.int 1))) .nil))) (.cons (.call (ix 48) (.cons (.call (ix 40) (.cons (.idx (.var 1) (.con (.int 2))) (.cons (.idx (.var 1) (.con (.int 3))) .nil))) (.cons (.var 3) .nil))) .nil)))))⟩
def cf_law_west (ix : Nat → Nat) : CF := ⟨3, 5, (.seq (.asg (.nm 3) (.call (ix 47) (.cons (.idx (.var 1) (.con (.int 1))) (.cons (.call (ix 47) (.cons (.call (ix 50) (.cons (.var 0) .nil)) (.cons (.var 2) .nil))) .nil)))) (.seq (.ife (.cmp .lt (.idx (.var 3) (.con (.int 0))) (.con (.int 1))) (.ret (.con .non)) .skip) (.seq (.asg (.nm 4) (.call (ix 47) (.cons (.idx (.var 1) (.con (.int 0))) (.cons (.call (ix 48) (.cons (.call (ix 40) (.cons (.idx (.var 1) (.con (.int 2))) (.cons (.idx (.var 1) (.con (.int 3))) .nil))) (.cons (.var 3) .nil))) .nil)))) (.ret (.idx (.lst (.cons (.var 4) (.cons (.con .non) .nil))) (.blt .int (.cons (.cmp .lt (.idx (.var 4) (.con (.int 0))) (.con (.int 0))) .nil)))))))⟩
def cb_law_splices_1 (ix : Nat → Nat) : CS := (.seq (.asg (.nm 2) (.bin .add (.var 2) (.var 3))) (.expr (.mth .append (.var 1) (.cons (.call (ix 72) (.cons (.var 0) (.cons (.tup (.cons (.var 2) (.cons (.con (.int 1)) .nil))) .nil))) .nil))))
def cf_law_splices (ix : Nat → Nat) : CF := ⟨1, 5, (.seq (.asg (.tp (.cons (.nm 1) (.cons (.nm 2) .nil))) (.tup (.cons (.mlst .nil) (.cons (.con (.int 0)) .nil)))) (.seq (.fr (.tp (.cons (.nm 3) (.cons (.nm 4) .nil))) (.one (.sl (.idx (.var 0) (.con (.int 0))) .nil (.one (.neg (.con (.int 1)))))) (cb_law_splices_1 ix)) (.retF 1)))⟩
def cf_law_most_west (ix : Nat → Nat) : CF := ⟨2, 2, (.ret (.call (ix 47) (.cons (.idx (.var 1) (.con (.int 0))) (.cons (.call (ix 48) (.cons (.call (ix 40) (.cons (.idx (.var 1) (.con (.int 2))) (.cons (.idx (.var 1) (.con (.int 3))) .nil))) (.cons (.idx (.var 1) (.con (.int 1))) .nil))) .nil))))⟩
def cb_law_two_1 (ix : Nat → Nat) : CS := (.expr (.mth .append (.var 9) (.cons (.call (ix 21) (.cons (.bin .add (.con (.int 1)) (.call (ix 19) (.cons (.var 0) (.cons (.idx (.lst (.cons (.con (.int 60)) (.cons (.con (.int 3)) (.cons (.con (.int 900)) .nil)))) (.call (ix 19) (.cons (.var 0) (.cons (.con (.int 3)) .nil)))) .nil)))) (.cons (.bin .add (.con (.int 1)) (.call (ix 19) (.cons (.var 0) (.cons (.con (.int 2)) .nil)))) .nil))) .nil)))
def cf_law_two (ix : Nat → Nat) : CF := ⟨2, 12, (.seq (.asg (.nm 2) (.comp (.idx (.var 11) (.con (.int 0))) (.nm 11) (.one (.idx (.var 1) (.con (.int 0)))) (.con (.bl true)) [11] false)) (.seq (.asg (.nm 3) (.bin .mul (.con (.int 6)) (.blt .sum (.cons (.var 2) .nil)))) (.seq (.asg (.nm 4) (.call (ix 19) (.cons (.var 0) (.cons (.var 3) .nil)))) (.seq (.asg (.nm 5) (.idx (.lst (.cons (.bin .sub (.var 3) (.var 4)) (.cons (.blt .min (.cons (.bin .sub (.var 3) (.var 4)) (.cons (.con (.int 60)) .nil))) (.cons (.blt .min (.cons (.bin .sub (.var 3) (.var 4)) (.cons (.con (.int 6)) .nil))) .nil)))) (.call (ix 19) (.cons (.var 0) (.cons (.con (.int 3)) .nil))))) (.seq (.asg (.nm 6) (.bin .add (.bin .add (.var 4) (.con (.int 1))) (.call (ix 19) (.cons (.var 0) (.cons (.var 5) .nil))))) (.seq (.ife (.cmp .eq (.call (ix 19) (.cons (.var 0) (.cons (.con (.int 4)) .nil))) (.con (.int 1))) (.seq (.asg (.nm 7) (.call (ix 19) (.cons (.var 0) (.cons (.blt .len (.cons (.var 2) .nil)) .nil)))) (.seq (.asg (.nm 8) (.bin .add (.bin .add (.var 7) (.con (.int 1))) (.call (ix 19) (.cons (.var 0) (.cons (.bin .sub (.blt .len (.cons (.var 2) .nil)) (.var 7)) .nil))))) (.asg (.tp (.cons (.nm 4) (.cons (.nm 6) .nil))) (.tup (.cons (.bin .mul (.con (.int 6)) (.blt .sum (.cons (.sl (.var 2) .nil (.one (.var 7))) .nil))) (.cons (.bin .mul (.con (.int 6)) (.blt .sum (.cons (.sl (.var 2) .nil (.one (.var 8))) .nil))) .nil)))))) .skip) (.seq (.asg (.nm 9) (.mlst .nil)) (.seq (.fr (.nm 10) (.rng (.con (.int 0)) (.con (.int 2))) (cb_law_two_1 ix)) (.ret (.tup (.cons (.tup (.cons (.call (ix 21) (.cons (.var 4) (.cons (.con (.int 6)) .nil))) (.cons (.idx (.var 9) (.con (.int 0))) .nil))) (.cons (.tup (.cons (.call (ix 21) (.cons (.var 6) (.cons (.con (.int 6)) .nil))) (.cons (.idx (.var 9) (.con (.int 1))) .nil))) .nil))))))))))))⟩
def cb_needed_for_1 (ix : Nat → Nat) : CS := (.asg (.tp (.cons (.nm 1) (.cons (.nm 2) .nil))) (.tup (.cons (.bin .add (.var 1) (.con (.int 1))) (.cons (.bin .mul (.var 2) (.con (.int 2))) .nil))))
def cf_needed_for (ix : Nat → Nat) : CF := ⟨1, 3, (.seq (.asg (.tp (.cons (.nm 1) (.cons (.nm 2) .nil))) (.tup (.cons (.con (.int 0)) (.cons (.con (.int 1)) .nil)))) (.seq (.whl (.cmp .le (.var 2) (.var 0)) (cb_needed_for_1 ix)) (.ret (.var 1))))⟩
def cf_cuts_needed (ix : Nat → Nat) : CF := ⟨2, 2, (.seq (.expr (.call (ix 32) (.cons (.var 0) .nil))) (.ret (.call (ix 141) (.cons (.blt .len (.cons (.idx (.call (ix 134) (.cons (.var 0) (.cons (.call (ix 110) (.cons (.var 0) (.cons (.var 1) .nil))) .nil))) (.con (.int 0))) .nil)) .nil))))⟩
def cf_stretch_told (ix : Nat → Nat) : CF := ⟨2, 2, (.ret (.tup (.cons (.call (ix 34) (.cons (.var 0) .nil)) (.cons (.call (ix 106) (.cons (.var 0) (.cons (.var 1) .nil))) .nil))))⟩
def cb_edge_drags_1 (ix : Nat → Nat) : CS := (.expr (.mth .append (.var 1) (.cons (.call (ix 5) (.cons (.idx (.var 1) (.neg (.con (.int 1)))) (.cons (.call (ix 7) (.cons (.tup (.cons (.var 2) (.cons (.con (.int 1)) .nil))) (.cons (.var 3) .nil))) .nil))) .nil)))
def cf_edge_drags (ix : Nat → Nat) : CF := ⟨1, 4, (.seq (.asg (.nm 1) (.mlst (.cons (.con (.tup [(.int 0), (.int 1)])) .nil))) (.seq (.fr (.tp (.cons (.nm 2) (.cons (.nm 3) .nil))) (.one (.idx (.var 0) (.con (.int 0)))) (cb_edge_drags_1 ix)) (.retF 1)))⟩
def cf_leak_moved (ix : Nat → Nat) : CF := ⟨2, 2, (.ret (.tup (.cons (.call (ix 5) (.cons (.idx (.var 0) (.con (.int 0))) (.cons (.tup (.cons (.var 1) (.cons (.con (.int 1)) .nil))) .nil))) (.cons (.idx (.var 0) (.con (.int 1))) .nil))))⟩
def cb_law_small_3_1 (ix : Nat → Nat) : CS := (.seq (.asg (.nm 5) (.bin .add (.con (.int 1)) (.call (ix 19) (.cons (.var 0) (.cons (.idx (.lst (.cons (.con (.int 9)) (.cons (.con (.int 40)) .nil))) (.blt .int (.cons (.cmp .eq (.call (ix 19) (.cons (.var 0) (.cons (.con (.int 6)) .nil))) (.con (.int 3))) .nil))) .nil))))) (.expr (.mth .append (.var 3) (.cons (.tup (.cons (.var 5) (.cons (.call (ix 21) (.cons (.bin .add (.con (.int 1)) (.call (ix 19) (.cons (.var 0) (.cons (.con (.int 9)) .nil)))) (.cons (.idx (.lst (.cons (.con (.int 1)) (.cons (.con (.int 1)) (.cons (.con (.int 1)) (.cons (.con (.int 2)) .nil))))) (.call (ix 19) (.cons (.var 0) (.cons (.con (.int 4)) .nil)))) .nil))) .nil))) .nil))))
def cf_law_small_3 (ix : Nat → Nat) : CF := ⟨3, 6, (.seq (.asg (.nm 3) (.mlst .nil)) (.seq (.fr (.nm 4) (.rng (.con (.int 0)) (.bin .add (.var 1) (.call (ix 19) (.cons (.var 0) (.cons (.bin .add (.bin .sub (.var 2) (.var 1)) (.con (.int 1))) .nil))))) (cb_law_small_3_1 ix)) (.ret (.tup (.cons (.blt .tuple (.cons (.var 3) .nil)) (.cons (.tup (.cons (.call (ix 19) (.cons (.var 0) (.cons (.con (.int 20)) .nil))) (.cons (.con (.int 1)) .nil))) .nil))))))⟩
def cf_law_pair_2 (ix : Nat → Nat) : CF := ⟨2, 12, (.seq (.asg (.nm 2) (.comp (.idx (.var 9) (.con (.int 0))) (.nm 9) (.one (.idx (.var 1) (.con (.int 0)))) (.con (.bl true)) [9] false)) (.seq (.asg (.nm 3) (.call (ix 19) (.cons (.var 0) (.cons (.bin .mul (.con (.int 6)) (.blt .sum (.cons (.var 2) .nil))) .nil)))) (.seq (.asg (.nm 4) (.bin .add (.bin .add (.var 3) (.con (.int 1))) (.call (ix 19) (.cons (.var 0) (.cons (.bin .sub (.bin .mul (.con (.int 6)) (.blt .sum (.cons (.var 2) .nil))) (.var 3)) .nil))))) (.seq (.asg (.nm 5) (.call (ix 19) (.cons (.var 0) (.cons (.con (.int 8)) .nil)))) (.seq (.asg (.nm 6) (.comp (.bin .mul (.con (.int 6)) (.blt .sum (.cons (.sl (.var 2) .nil (.one (.var 10))) .nil))) (.nm 10) (.rng (.con (.int 0)) (.bin .add (.blt .len (.cons (.var 2) .nil)) (.con (.int 1)))) (.con (.bl true)) [10] false)) (.seq (.ife (.or (.cmp .eq (.var 5) (.con (.int 0))) (.cmp .eq (.var 5) (.con (.int 1)))) (.seq (.asg (.nm 3) (.idx (.var 6) (.call (ix 19) (.cons (.var 0) (.cons (.blt .len (.cons (.var 2) .nil)) .nil))))) (.asg (.nm 4) (.bin .add (.bin .add (.var 3) (.con (.int 1))) (.call (ix 19) (.cons (.var 0) (.cons (.bin .sub (.bin .mul (.con (.int 6)) (.blt .sum (.cons (.var 2) .nil))) (.var 3)) .nil)))))) .skip) (.seq (.ife (.or (.cmp .eq (.var 5) (.con (.int 1))) (.cmp .eq (.var 5) (.con (.int 2)))) (.seq (.asg (.nm 7) (.comp (.var 11) (.nm 11) (.one (.var 6)) (.cmp .gt (.var 11) (.var 3)) [11] false)) (.asg (.nm 4) (.idx (.var 7) (.call (ix 19) (.cons (.var 0) (.cons (.blt .len (.cons (.var 7) .nil)) .nil)))))) .skip) (.seq (.asg (.nm 8) (.comp (.call (ix 21) (.cons (.bin .add (.con (.int 1)) (.call (ix 19) (.cons (.var 0) (.cons (.con (.int 30)) .nil)))) (.cons (.idx (.lst (.cons (.con (.int 1)) (.cons (.con (.int 1)) (.cons (.con (.int 2)) .nil)))) (.call (ix 19) (.cons (.var 0) (.cons (.con (.int 3)) .nil)))) .nil))) (.nm 10) (.rng (.con (.int 0)) (.con (.int 2))) (.con (.bl true)) [10] false)) (.ret (.tup (.cons (.tup (.cons (.call (ix 21) (.cons (.var 3) (.cons (.con (.int 6)) .nil))) (.cons (.idx (.var 8) (.con (.int 0))) .nil))) (.cons (.tup (.cons (.call (ix 21) (.cons (.var 4) (.cons (.con (.int 6)) .nil))) (.cons (.idx (.var 8) (.con (.int 1))) .nil))) .nil))))))))))))⟩
def cb_law_drags_1 (ix : Nat → Nat) : CS := (.expr (.mth .append (.var 1) (.cons (.call (ix 39) (.cons (.idx (.var 1) (.neg (.con (.int 1)))) (.cons (.call (ix 40) (.cons (.tup (.cons (.var 2) (.cons (.con (.int 1)) .nil))) (.cons (.var 3) .nil))) .nil))) .nil)))
def cf_law_drags (ix : Nat → Nat) : CF := ⟨1, 4, (.seq (.asg (.nm 1) (.mlst (.cons (.tup (.cons (.con (.int 0)) (.cons (.con (.int 1)) .nil))) .nil))) (.seq (.fr (.tp (.cons (.nm 2) (.cons (.nm 3) .nil))) (.one (.idx (.var 0) (.con (.int 0)))) (cb_law_drags_1 ix)) (.retF 1)))⟩
def cf_law_least (ix : Nat → Nat) : CF := ⟨3, 5, (.seq (.asg (.nm 3) (.call (ix 47) (.cons (.idx (.var 1) (.con (.int 1))) (.cons (.call (ix 47) (.cons (.call (ix 50) (.cons (.var 0) .nil)) (.cons (.var 2) .nil))) .nil)))) (.seq (.ife (.cmp .le (.idx (.var 3) (.con (.int 0))) (.con (.int 0))) (.ret (.tup (.cons (.neg (.con (.int 1))) (.cons (.con (.int 1)) .nil)))) .skip) (.seq (.asg (.nm 4) (.call (ix 47) (.cons (.idx (.var 1) (.con (.int 0))) (.cons (.call (ix 48) (.cons (.call (ix 40) (.cons (.idx (.var 1) (.con (.int 2))) (.cons (.idx (.var 1) (.con (.int 3))) .nil))) (.cons (.var 3) .nil))) .nil)))) (.ret (.idx (.lst (.cons (.var 4) (.cons (.tup (.cons (.neg (.con (.int 1))) (.cons (.con (.int 1)) .nil))) .nil))) (.blt .int (.cons (.cmp .lt (.idx (.var 4) (.con (.int 0))) (.con (.int 0))) .nil)))))))⟩
def cb_law_part_1 (ix : Nat → Nat) : CS := (.ife (.and (.or (.call (ix 49) (.cons (.var 5) (.cons (.var 8) .nil))) (.cmp .eq (.var 1) (.con (.int 0)))) (.not (.call (ix 49) (.cons (.var 6) (.cons (.var 8) .nil))))) (.expr (.mth .append (.var 7) (.cons (.tup (.cons (.call (ix 47) (.cons (.var 8) (.cons (.var 5) .nil))) (.cons (.var 9) .nil))) .nil))) .skip)
def cf_law_part (ix : Nat → Nat) : CF := ⟨4, 11, (.seq (.asg (.nm 4) (.comp (.idx (.var 10) (.con (.int 0))) (.nm 10) (.one (.idx (.var 0) (.con (.int 0)))) (.con (.bl true)) [10] false)) (.seq (.asg (.tp (.cons (.nm 5) (.cons (.nm 6) .nil))) (.tup (.cons (.tup (.cons (.blt .sum (.cons (.sl (.var 4) .nil (.one (.var 1))) .nil)) (.cons (.con (.int 1)) .nil))) (.cons (.tup (.cons (.blt .sum (.cons (.sl (.var 4) .nil (.one (.var 2))) .nil)) (.cons (.con (.int 1)) .nil))) .nil)))) (.seq (.asg (.nm 7) (.mlst .nil)) (.seq (.fr (.tp (.cons (.nm 8) (.cons (.nm 9) .nil))) (.one (.var 3)) (cb_law_part_1 ix)) (.ret (.tup (.cons (.tup (.cons (.sl (.idx (.var 0) (.con (.int 0))) (.one (.var 1)) (.one (.var 2))) (.cons (.idx (.var 0) (.con (.int 1))) .nil))) (.cons (.blt .tuple (.cons (.var 7) .nil)) .nil))))))))⟩
def cf_law_days_cut (ix : Nat → Nat) : CF := ⟨5, 9, (.seq (.asg (.tp (.cons (.nm 5) (.cons (.nm 6) .nil))) (.call (ix 150) (.cons (.var 0) (.cons (.var 1) (.cons (.var 2) (.cons (.var 4) .nil)))))) (.seq (.asg (.tp (.cons (.nm 7) (.cons (.nm 8) .nil))) (.call (ix 150) (.cons (.var 0) (.cons (.var 2) (.cons (.var 3) (.cons (.var 4) .nil)))))) (.ret (.tup (.cons (.call (ix 76) (.cons (.var 5) (.cons (.var 6) .nil))) (.cons (.call (ix 76) (.cons (.var 7) (.cons (.var 8) .nil))) (.cons (.blt .len (.cons (.var 6) .nil)) .nil)))))))⟩
def cf_check_days (ix : Nat → Nat) : CF := ⟨1, 2, (.ife (.or (.not (.isi (.var 0) .tup)) (.or (.cmp .gt (.blt .len (.cons (.var 0) .nil)) (.con (.int 12))) (.not (.blt .all (.cons (.comp (.call (ix 99) (.cons (.var 1) .nil)) (.nm 1) (.one (.var 0)) (.con (.bl true)) [1] false) .nil))))) .never .skip)⟩
def cf_two_drags (ix : Nat → Nat) : CF := ⟨3, 12, (.seq (.asg (.tp (.cons (.nm 3) (.cons (.nm 4) (.cons (.nm 5) (.cons (.nm 6) .nil))))) (.call (ix 103) (.cons (.var 0) (.cons (.var 1) .nil)))) (.seq (.asg (.tp (.cons (.nm 7) (.cons (.nm 8) .nil))) (.tup (.cons (.call (ix 43) (.cons (.var 0) (.cons (.idx (.var 2) (.con (.int 0))) .nil))) (.cons (.call (ix 43) (.cons (.var 0) (.cons (.idx (.var 2) (.con (.int 1))) .nil))) .nil)))) (.seq (.asg (.tp (.cons (.nm 9) (.cons (.nm 10) .nil))) (.tup (.cons (.call (ix 6) (.cons (.var 3) (.cons (.var 7) .nil))) (.cons (.call (ix 6) (.cons (.var 4) (.cons (.call (ix 6) (.cons (.call (ix 34) (.cons (.var 0) .nil)) (.cons (.var 8) .nil))) .nil))) .nil)))) (.seq (.ife (.or (.not (.call (ix 9) (.cons (.con (.tup [(.int 0), (.int 1)])) (.cons (.var 9) .nil)))) (.or (.not (.call (ix 9) (.cons (.con (.tup [(.int 0), (.int 1)])) (.cons (.var 10) .nil)))) (.cmp .ne (.call (ix 7) (.cons (.var 9) (.cons (.var 10) .nil))) (.call (ix 7) (.cons (.var 5) (.cons (.var 6) .nil)))))) (.ret (.con .non)) .skip) (.seq (.asg (.nm 11) (.call (ix 8) (.cons (.call (ix 6) (.cons (.var 8) (.cons (.var 7) .nil))) (.cons (.var 6) .nil)))) (.ret (.tup (.cons (.call (ix 7) (.cons (.var 9) (.cons (.var 11) .nil))) (.cons (.call (ix 7) (.cons (.var 10) (.cons (.var 11) .nil))) .nil)))))))))⟩
def cf_fits_by (ix : Nat → Nat) : CF := ⟨3, 5, (.seq (.asg (.nm 3) (.call (ix 105) (.cons (.var 0) (.cons (.var 1) .nil)))) (.seq (.ife (.cmp .eq (.idx (.var 3) (.con (.int 0))) (.con (.str "sound"))) (.ret (.bin .mul (.tup (.cons (.con .non) .nil)) (.blt .len (.cons (.var 2) .nil)))) .skip) (.seq (.ife (.and (.cmp .eq (.idx (.var 3) (.con (.int 0))) (.con (.str "one"))) (.cmp .isin (.idx (.idx (.var 3) (.con (.int 1))) (.con (.int 0))) (.var 2))) (.ret (.blt .tuple (.cons (.comp (.ife (.cmp .eq (.var 4) (.idx (.idx (.var 3) (.con (.int 1))) (.con (.int 0)))) (.idx (.idx (.var 3) (.con (.int 1))) (.con (.int 1))) (.con .non)) (.nm 4) (.one (.var 2)) (.con (.bl true)) [4] false) .nil))) .skip) (.seq (.ife (.and (.cmp .eq (.idx (.var 3) (.con (.int 0))) (.con (.str "two"))) (.cmp .eq (.blt .len (.cons (.var 2) .nil)) (.con (.int 2)))) (.ret (.call (ix 153) (.cons (.var 0) (.cons (.var 1) (.cons (.var 2) .nil))))) .skip) (.ret (.con .non))))))⟩
def cf_east_drag_2 (ix : Nat → Nat) : CF := ⟨3, 9, (.seq (.asg (.tp (.cons (.nm 3) (.cons (.nm 4) (.cons (.nm 5) (.cons (.nm 6) .nil))))) (.var 1)) (.seq (.asg (.nm 7) (.call (ix 6) (.cons (.var 3) (.cons (.var 2) .nil)))) (.seq (.ife (.or (.call (ix 9) (.cons (.var 2) (.cons (.con (.tup [(.int 0), (.int 1)])) .nil))) (.not (.call (ix 9) (.cons (.con (.tup [(.int 0), (.int 1)])) (.cons (.var 7) .nil))))) (.ret (.con .non)) .skip) (.seq (.asg (.nm 8) (.call (ix 8) (.cons (.call (ix 7) (.cons (.var 5) (.cons (.var 6) .nil))) (.cons (.var 7) .nil)))) (.seq (.ife (.call (ix 9) (.cons (.var 4) (.cons (.var 8) .nil))) (.ret (.con .non)) .skip) (.ret (.call (ix 5) (.cons (.call (ix 6) (.cons (.call (ix 34) (.cons (.var 0) .nil)) (.cons (.var 4) .nil))) (.cons (.var 8) .nil)))))))))⟩
def cf_west_drag_2 (ix : Nat → Nat) : CF := ⟨3, 9, (.seq (.asg (.tp (.cons (.nm 3) (.cons (.nm 4) (.cons (.nm 5) (.cons (.nm 6) .nil))))) (.var 1)) (.seq (.asg (.nm 7) (.call (ix 6) (.cons (.var 4) (.cons (.call (ix 6) (.cons (.call (ix 34) (.cons (.var 0) .nil)) (.cons (.var 2) .nil))) .nil)))) (.seq (.ife (.not (.call (ix 9) (.cons (.con (.tup [(.int 0), (.int 1)])) (.cons (.var 7) .nil)))) (.ret (.con .non)) .skip) (.seq (.asg (.nm 8) (.call (ix 8) (.cons (.call (ix 7) (.cons (.var 5) (.cons (.var 6) .nil))) (.cons (.var 7) .nil)))) (.seq (.ife (.call (ix 9) (.cons (.var 3) (.cons (.var 8) .nil))) (.ret (.con .non)) .skip) (.ret (.call (ix 6) (.cons (.var 3) (.cons (.var 8) .nil)))))))))⟩
def cf_roots_of (ix : Nat → Nat) : CF := ⟨3, 5, (.seq (.ife (.and (.cmp .eq (.var 0) (.con (.tup [(.int 0), (.int 1)]))) (.cmp .eq (.var 1) (.con (.tup [(.int 0), (.int 1)])))) (.ret (.lst .nil)) .skip) (.seq (.ife (.cmp .eq (.var 0) (.con (.tup [(.int 0), (.int 1)]))) (.ret (.lst (.cons (.call (ix 6) (.cons (.con (.tup [(.int 0), (.int 1)])) (.cons (.call (ix 8) (.cons (.var 2) (.cons (.var 1) .nil))) .nil))) .nil))) .skip) (.seq (.asg (.nm 3) (.call (ix 26) (.cons (.call (ix 6) (.cons (.call (ix 7) (.cons (.var 1) (.cons (.var 1) .nil))) (.cons (.call (ix 7) (.cons (.tup (.cons (.con (.int 4)) (.cons (.con (.int 1)) .nil))) (.cons (.call (ix 7) (.cons (.var 0) (.cons (.var 2) .nil))) .nil))) .nil))) .nil))) (.seq (.ife (.cmp .is (.var 3) (.con .non)) (.ret (.lst .nil)) .skip) (.seq (.asg (.nm 4) (.call (ix 7) (.cons (.tup (.cons (.con (.int 2)) (.cons (.con (.int 1)) .nil))) (.cons (.var 0) .nil)))) (.ret (.lst (.cons (.call (ix 8) (.cons (.call (ix 6) (.cons (.var 3) (.cons (.var 1) .nil))) (.cons (.var 4) .nil))) (.cons (.call (ix 8) (.cons (.call (ix 6) (.cons (.call (ix 6) (.cons (.con (.tup [(.int 0), (.int 1)])) (.cons (.var 3) .nil))) (.cons (.var 1) .nil))) (.cons (.var 4) .nil))) .nil)))))))))⟩
def cb_pairs_of_two_1 (ix : Nat → Nat) : CS := (.seq (.asg (.nm 9) (.call (ix 6) (.cons (.idx (.var 1) (.con (.int 0))) (.cons (.var 8) .nil)))) (.expr (.mth .append (.var 7) (.cons (.tup (.cons (.var 9) (.cons (.call (ix 155) (.cons (.var 0) (.cons (.var 1) (.cons (.var 9) .nil)))) .nil))) .nil))))
def cf_pairs_of_two (ix : Nat → Nat) : CF := ⟨3, 10, (.seq (.asg (.tp (.cons (.nm 3) (.cons (.nm 4) .nil))) (.tup (.cons (.call (ix 6) (.cons (.idx (.var 2) (.con (.int 0))) (.cons (.idx (.var 1) (.con (.int 0))) .nil))) (.cons (.call (ix 6) (.cons (.idx (.var 2) (.con (.int 1))) (.cons (.idx (.var 1) (.con (.int 1))) .nil))) .nil)))) (.seq (.asg (.tp (.cons (.nm 5) (.cons (.nm 6) .nil))) (.tup (.cons (.call (ix 7) (.cons (.idx (.var 1) (.con (.int 2))) (.cons (.idx (.var 1) (.con (.int 3))) .nil))) (.cons (.call (ix 7) (.cons (.idx (.var 2) (.con (.int 2))) (.cons (.idx (.var 2) (.con (.int 3))) .nil))) .nil)))) (.seq (.asg (.nm 7) (.mlst .nil)) (.seq (.fr (.nm 8) (.one (.call (ix 157) (.cons (.var 4) (.cons (.call (ix 6) (.cons (.call (ix 5) (.cons (.call (ix 7) (.cons (.var 4) (.cons (.var 3) .nil))) (.cons (.var 5) .nil))) (.cons (.var 6) .nil))) (.cons (.call (ix 7) (.cons (.var 5) (.cons (.var 3) .nil))) .nil))))) (cb_pairs_of_two_1 ix)) (.retF 7)))))⟩
def cf_pairs_with (ix : Nat → Nat) : CF := ⟨3, 3, (.ret (.lst (.cons (.tup (.cons (.var 2) (.cons (.call (ix 155) (.cons (.var 0) (.cons (.var 1) (.cons (.var 2) .nil)))) .nil))) (.cons (.tup (.cons (.call (ix 156) (.cons (.var 0) (.cons (.var 1) (.cons (.var 2) .nil)))) (.cons (.var 2) .nil))) .nil))))⟩
def cf_pairs_of (ix : Nat → Nat) : CF := ⟨3, 9, (.seq (.asg (.tp (.cons (.nm 3) (.cons (.nm 4) .nil))) (.tup (.cons (.call (ix 105) (.cons (.var 0) (.cons (.var 1) .nil))) (.cons (.call (ix 105) (.cons (.var 0) (.cons (.var 2) .nil))) .nil)))) (.seq (.ife (.and (.cmp .eq (.idx (.var 3) (.con (.int 0))) (.con (.str "one"))) (.cmp .eq (.idx (.var 4) (.con (.int 0))) (.con (.str "one")))) (.seq (.asg (.nm 5) (.tup (.cons (.idx (.idx (.var 3) (.con (.int 1))) (.con (.int 0))) (.cons (.idx (.idx (.var 4) (.con (.int 1))) (.con (.int 0))) .nil)))) (.ret (.lst (.cons (.ife (.call (ix 9) (.cons (.idx (.var 5) (.con (.int 0))) (.cons (.idx (.var 5) (.con (.int 1))) .nil))) (.var 5) (.rev (.var 5))) .nil)))) .skip) (.seq (.ife (.cmp .eq (.idx (.var 3) (.con (.int 0))) (.con (.str "one"))) (.asg (.nm 6) (.call (ix 159) (.cons (.var 0) (.cons (.call (ix 103) (.cons (.var 0) (.cons (.var 2) .nil))) (.cons (.call (ix 43) (.cons (.var 0) (.cons (.idx (.idx (.var 3) (.con (.int 1))) (.con (.int 0))) .nil))) .nil))))) (.ife (.cmp .eq (.idx (.var 4) (.con (.int 0))) (.con (.str "one"))) (.asg (.nm 6) (.call (ix 159) (.cons (.var 0) (.cons (.call (ix 103) (.cons (.var 0) (.cons (.var 1) .nil))) (.cons (.call (ix 43) (.cons (.var 0) (.cons (.idx (.idx (.var 4) (.con (.int 1))) (.con (.int 0))) .nil))) .nil))))) (.asg (.nm 6) (.call (ix 158) (.cons (.var 0) (.cons (.call (ix 103) (.cons (.var 0) (.cons (.var 1) .nil))) (.cons (.call (ix 103) (.cons (.var 0) (.cons (.var 2) .nil))) .nil))))))) (.ret (.comp (.tup (.cons (.call (ix 44) (.cons (.var 0) (.cons (.var 7) .nil))) (.cons (.call (ix 44) (.cons (.var 0) (.cons (.var 8) .nil))) .nil))) (.tp (.cons (.nm 7) (.cons (.nm 8) .nil))) (.one (.var 6)) (.and (.cmp .isnot (.var 7) (.con .non)) (.cmp .isnot (.var 8) (.con .non))) [7, 8] false)))))⟩
def cf_fit_all (ix : Nat → Nat) : CF := ⟨3, 4, (.ret (.blt .all (.cons (.comp (.cmp .isnot (.call (ix 154) (.cons (.var 0) (.cons (.var 3) (.cons (.var 2) .nil)))) (.con .non)) (.nm 3) (.one (.var 1)) (.con (.bl true)) [3] false) .nil)))⟩
def cf_is_before (ix : Nat → Nat) : CF := ⟨2, 2, (.ret (.or (.call (ix 9) (.cons (.idx (.var 0) (.con (.int 0))) (.cons (.idx (.var 1) (.con (.int 0))) .nil))) (.and (.cmp .eq (.idx (.var 0) (.con (.int 0))) (.idx (.var 1) (.con (.int 0)))) (.call (ix 9) (.cons (.idx (.var 0) (.con (.int 1))) (.cons (.idx (.var 1) (.con (.int 1))) .nil))))))⟩
def cb_pairs_told_1 (ix : Nat → Nat) : CS := (.ife (.and (.cmp .notin (.var 5) (.var 4)) (.call (ix 161) (.cons (.var 0) (.cons (.var 1) (.cons (.var 5) .nil))))) (.expr (.mth .append (.var 4) (.cons (.var 5) .nil))) .skip)
def cf_pairs_told (ix : Nat → Nat) : CF := ⟨4, 6, (.seq (.asg (.nm 4) (.mlst .nil)) (.seq (.fr (.nm 5) (.one (.call (ix 160) (.cons (.var 0) (.cons (.var 2) (.cons (.var 3) .nil))))) (cb_pairs_told_1 ix)) (.seq (.ife (.and (.cmp .eq (.blt .len (.cons (.var 4) .nil)) (.con (.int 2))) (.call (ix 162) (.cons (.idx (.var 4) (.con (.int 1))) (.cons (.idx (.var 4) (.con (.int 0))) .nil)))) (.asg (.nm 4) (.rev (.var 4))) .skip) (.ret (.blt .tuple (.cons (.var 4) .nil))))))⟩
def cf_are_apart (ix : Nat → Nat) : CF := ⟨3, 5, (.seq (.ife (.cmp .eq (.var 1) (.var 2)) (.ret (.con (.bl false))) .skip) (.seq (.asg (.tp (.cons (.nm 3) (.cons (.nm 4) .nil))) (.tup (.cons (.call (ix 105) (.cons (.var 0) (.cons (.var 1) .nil))) (.cons (.call (ix 105) (.cons (.var 0) (.cons (.var 2) .nil))) .nil)))) (.ret (.or (.cmp .eq (.idx (.var 3) (.con (.int 0))) (.con (.str "two"))) (.or (.cmp .eq (.idx (.var 4) (.con (.int 0))) (.con (.str "two"))) (.cmp .ne (.idx (.idx (.var 3) (.con (.int 1))) (.con (.int 0))) (.idx (.idx (.var 4) (.con (.int 1))) (.con (.int 0)))))))))⟩
def cf_telling_by (ix : Nat → Nat) : CF := ⟨2, 10, (.seq (.asg (.nm 2) (.comp (.call (ix 105) (.cons (.var 0) (.cons (.var 7) .nil))) (.nm 7) (.one (.var 1)) (.con (.bl true)) [7] false)) (.seq (.asg (.nm 3) (.comp (.var 8) (.nm 8) (.rng (.con (.int 0)) (.blt .len (.cons (.var 1) .nil))) (.cmp .ne (.idx (.var 2) (.var 8)) (.tup (.cons (.con (.str "sound")) .nil))) [8] false)) (.seq (.ife (.cmp .eq (.var 3) (.lst .nil)) (.ret (.tup (.cons (.con (.str "sound")) .nil))) .skip) (.seq (.ife (.cmp .isin (.con (.str "wrong")) (.comp (.idx (.var 9) (.con (.int 0))) (.nm 9) (.one (.var 2)) (.con (.bl true)) [9] false)) (.ret (.tup (.cons (.con (.str "clash")) .nil))) .skip) (.seq (.asg (.nm 4) (.idx (.var 3) (.con (.int 0)))) (.seq (.asg (.nm 5) (.comp (.var 8) (.nm 8) (.one (.var 3)) (.call (ix 164) (.cons (.var 0) (.cons (.idx (.var 1) (.var 4)) (.cons (.idx (.var 1) (.var 8)) .nil)))) [8] false)) (.seq (.ife (.and (.cmp .eq (.var 5) (.lst .nil)) (.cmp .eq (.idx (.idx (.var 2) (.var 4)) (.con (.int 0))) (.con (.str "one")))) (.ret (.tup (.cons (.con (.str "one")) (.cons (.idx (.idx (.idx (.var 2) (.var 4)) (.con (.int 1))) (.con (.int 0))) .nil)))) .skip) (.seq (.ife (.cmp .eq (.var 5) (.lst .nil)) (.ret (.tup (.cons (.con (.str "curve")) (.cons (.var 4) .nil)))) .skip) (.seq (.asg (.nm 6) (.call (ix 163) (.cons (.var 0) (.cons (.var 1) (.cons (.idx (.var 1) (.var 4)) (.cons (.idx (.var 1) (.idx (.var 5) (.con (.int 0)))) .nil)))))) (.seq (.ife (.cmp .eq (.var 6) (.tup .nil)) (.ret (.tup (.cons (.con (.str "clash")) .nil))) .skip) (.ret (.tup (.cons (.con (.str "pairs")) (.cons (.var 6) .nil))))))))))))))⟩
def cf_telling (ix : Nat → Nat) : CF := ⟨2, 2, (.seq (.expr (.call (ix 32) (.cons (.var 0) .nil))) (.seq (.expr (.call (ix 152) (.cons (.var 1) .nil))) (.ret (.call (ix 165) (.cons (.var 0) (.cons (.var 1) .nil))))))⟩
def cf_law_kind_2 (ix : Nat → Nat) : CF := ⟨2, 6, (.seq (.ife (.cmp .is (.idx (.var 1) (.con (.int 0))) (.con .non)) (.ret (.idx (.lst (.cons (.tup (.cons (.con (.str "wrong")) .nil)) (.cons (.tup (.cons (.con (.str "sound")) .nil)) .nil))) (.blt .int (.cons (.cmp .eq (.idx (.var 1) (.con (.int 2))) (.call (ix 39) (.cons (.idx (.var 0) (.con (.int 1))) (.cons (.call (ix 50) (.cons (.var 0) .nil)) .nil)))) .nil)))) .skip) (.seq (.asg (.tp (.cons (.nm 2) (.cons (.nm 3) (.cons (.nm 4) (.cons (.nm 5) .nil))))) (.call (ix 108) (.cons (.var 0) (.cons (.var 1) .nil)))) (.seq (.ife (.or (.cmp .lt (.idx (.var 5) (.con (.int 0))) (.con (.int 0))) (.or (.cmp .le (.idx (.var 4) (.con (.int 0))) (.con (.int 0))) (.or (.cmp .lt (.idx (.var 2) (.con (.int 0))) (.con (.int 0))) (.cmp .lt (.idx (.var 3) (.con (.int 0))) (.con (.int 0)))))) (.ret (.tup (.cons (.con (.str "wrong")) .nil))) .skip) (.seq (.ife (.call (ix 49) (.cons (.call (ix 40) (.cons (.var 2) (.cons (.var 3) .nil))) (.cons (.call (ix 40) (.cons (.var 4) (.cons (.var 5) .nil))) .nil))) (.ret (.tup (.cons (.con (.str "wrong")) .nil))) .skip) (.seq (.ife (.cmp .eq (.var 5) (.tup (.cons (.con (.int 0)) (.cons (.con (.int 1)) .nil)))) (.ret (.tup (.cons (.con (.str "one")) (.cons (.var 2) (.cons (.var 4) .nil))))) .skip) (.ret (.tup (.cons (.con (.str "two")) (.cons (.var 2) (.cons (.var 3) (.cons (.var 4) (.cons (.var 5) .nil))))))))))))⟩
def cf_law_fits (ix : Nat → Nat) : CF := ⟨3, 12, (.seq (.ife (.cmp .eq (.idx (.var 1) (.con (.int 0))) (.con (.str "sound"))) (.ret (.bin .mul (.tup (.cons (.con .non) .nil)) (.blt .len (.cons (.var 2) .nil)))) .skip) (.seq (.ife (.and (.cmp .eq (.idx (.var 1) (.con (.int 0))) (.con (.str "one"))) (.cmp .isin (.idx (.var 1) (.con (.int 1))) (.var 2))) (.ret (.blt .tuple (.cons (.comp (.idx (.lst (.cons (.con .non) (.cons (.idx (.var 1) (.con (.int 2))) .nil))) (.blt .int (.cons (.cmp .eq (.var 11) (.idx (.var 1) (.con (.int 1)))) .nil))) (.nm 11) (.one (.var 2)) (.con (.bl true)) [11] false) .nil))) .skip) (.seq (.ife (.or (.cmp .ne (.idx (.var 1) (.con (.int 0))) (.con (.str "two"))) (.cmp .lt (.blt .len (.cons (.var 2) .nil)) (.con (.int 2)))) (.ret (.con .non)) .skip) (.seq (.asg (.tp (.cons (.nm 3) (.cons (.nm 4) (.cons (.nm 5) (.cons (.nm 6) (.cons (.nm 7) .nil)))))) (.var 1)) (.seq (.asg (.tp (.cons (.nm 8) (.cons (.nm 9) .nil))) (.tup (.cons (.call (ix 47) (.cons (.var 4) (.cons (.idx (.var 2) (.con (.int 0))) .nil))) (.cons (.call (ix 47) (.cons (.call (ix 39) (.cons (.var 5) (.cons (.idx (.var 2) (.con (.int 1))) .nil))) (.cons (.var 0) .nil))) .nil)))) (.seq (.ife (.or (.cmp .le (.idx (.var 8) (.con (.int 0))) (.con (.int 0))) (.or (.cmp .le (.idx (.var 9) (.con (.int 0))) (.con (.int 0))) (.cmp .ne (.call (ix 40) (.cons (.var 8) (.cons (.var 9) .nil))) (.call (ix 40) (.cons (.var 6) (.cons (.var 7) .nil)))))) (.ret (.con .non)) .skip) (.seq (.asg (.nm 10) (.call (ix 48) (.cons (.call (ix 47) (.cons (.idx (.var 2) (.con (.int 1))) (.cons (.idx (.var 2) (.con (.int 0))) .nil))) (.cons (.var 7) .nil)))) (.ret (.tup (.cons (.call (ix 40) (.cons (.var 8) (.cons (.var 10) .nil))) (.cons (.call (ix 40) (.cons (.var 9) (.cons (.var 10) .nil))) .nil)))))))))))⟩
def cf_law_some_drag (ix : Nat → Nat) : CF := ⟨1, 1, (.ret (.call (ix 21) (.cons (.bin .add (.con (.int 1)) (.call (ix 19) (.cons (.var 0) (.cons (.idx (.lst (.cons (.con (.int 9)) (.cons (.con (.int 60)) .nil))) (.call (ix 19) (.cons (.var 0) (.cons (.con (.int 2)) .nil)))) .nil)))) (.cons (.idx (.lst (.cons (.con (.int 1)) (.cons (.con (.int 1)) (.cons (.con (.int 2)) (.cons (.con (.int 7)) .nil))))) (.call (ix 19) (.cons (.var 0) (.cons (.con (.int 4)) .nil)))) .nil))))⟩
def cf_law_hidden_2 (ix : Nat → Nat) : CF := ⟨2, 6, (.seq (.asg (.nm 2) (.bin .mul (.con (.int 6)) (.blt .sum (.cons (.comp (.idx (.var 5) (.con (.int 0))) (.nm 5) (.one (.idx (.var 1) (.con (.int 0)))) (.con (.bl true)) [5] false) .nil)))) (.seq (.asg (.nm 3) (.call (ix 19) (.cons (.var 0) (.cons (.var 2) .nil)))) (.seq (.asg (.nm 4) (.bin .add (.bin .add (.var 3) (.con (.int 1))) (.call (ix 19) (.cons (.var 0) (.cons (.bin .sub (.var 2) (.var 3)) .nil))))) (.seq (.ife (.cmp .eq (.call (ix 19) (.cons (.var 0) (.cons (.con (.int 4)) .nil))) (.con (.int 1))) (.asg (.nm 3) (.con (.int 0))) .skip) (.seq (.ife (.cmp .eq (.call (ix 19) (.cons (.var 0) (.cons (.con (.int 4)) .nil))) (.con (.int 1))) (.asg (.nm 4) (.var 2)) .skip) (.ret (.tup (.cons (.call (ix 21) (.cons (.var 3) (.cons (.con (.int 6)) .nil))) (.cons (.call (ix 21) (.cons (.var 4) (.cons (.con (.int 6)) .nil))) .nil)))))))))⟩
def cf_law_hidden_day (ix : Nat → Nat) : CF := ⟨4, 6, (.seq (.asg (.nm 4) (.comp (.tup (.cons (.var 5) (.cons (.call (ix 169) (.cons (.var 0) .nil)) .nil))) (.nm 5) (.one (.var 2)) (.con (.bl true)) [5] false)) (.ret (.call (ix 76) (.cons (.var 1) (.cons (.blt .tuple (.cons (.idx (.lst (.cons (.lst .nil) (.cons (.sl (.var 4) .nil (.one (.con (.int 1)))) (.cons (.sl (.var 4) (.one (.con (.int 1))) .nil) (.cons (.var 4) .nil))))) (.var 3)) .nil)) .nil)))))⟩
def cb_law_days_1 (ix : Nat → Nat) : CS := (.seq (.asg (.nm 6) (.call (ix 19) (.cons (.var 0) (.cons (.idx (.lst (.cons (.con (.int 6)) (.cons (.con (.int 9)) .nil))) (.blt .int (.cons (.var 3) .nil))) .nil)))) (.seq (.ife (.and (.cmp .gt (.var 6) (.con (.int 3))) (.cmp .ne (.var 4) (.lst .nil))) (.asg (.nm 7) (.idx (.var 4) (.call (ix 19) (.cons (.var 0) (.cons (.blt .len (.cons (.var 4) .nil)) .nil))))) (.asg (.nm 7) (.call (ix 171) (.cons (.var 0) (.cons (.var 1) (.cons (.var 2) (.cons (.idx (.lst (.cons (.con (.int 0)) (.cons (.con (.int 1)) (.cons (.con (.int 2)) (.cons (.con (.int 3)) (.cons (.con (.int 3)) (.cons (.con (.int 3)) (.cons (.con (.int 1)) (.cons (.con (.int 2)) (.cons (.con (.int 3)) .nil)))))))))) (.var 6)) .nil))))))) (.seq (.ife (.cmp .eq (.var 6) (.con (.int 6))) (.asg (.nm 7) (.call (ix 76) (.cons (.var 1) (.cons (.call (ix 77) (.cons (.var 0) (.cons (.var 1) (.cons (.con (.int 2)) .nil)))) .nil)))) .skip) (.seq (.ife (.and (.cmp .eq (.var 6) (.con (.int 7))) (.cmp .isnot (.idx (.var 7) (.con (.int 0))) (.con .non))) (.asg (.nm 7) (.tup (.cons (.call (ix 39) (.cons (.idx (.var 7) (.con (.int 0))) (.cons (.tup (.cons (.con (.int 1)) (.cons (.bin .add (.con (.int 1)) (.call (ix 19) (.cons (.var 0) (.cons (.con (.int 9)) .nil)))) .nil))) .nil))) (.cons (.idx (.var 7) (.con (.int 1))) (.cons (.idx (.var 7) (.con (.int 2))) .nil))))) .skip) (.seq (.ife (.cmp .eq (.var 6) (.con (.int 8))) (.asg (.nm 7) (.tup (.cons (.idx (.var 7) (.con (.int 0))) (.cons (.idx (.var 7) (.con (.int 1))) (.cons (.call (ix 39) (.cons (.idx (.var 7) (.con (.int 2))) (.cons (.tup (.cons (.bin .add (.con (.int 1)) (.call (ix 19) (.cons (.var 0) (.cons (.con (.int 3)) .nil)))) (.cons (.bin .add (.con (.int 1)) (.call (ix 19) (.cons (.var 0) (.cons (.con (.int 30)) .nil)))) .nil))) .nil))) .nil))))) .skip) (.expr (.mth .append (.var 4) (.cons (.var 7) .nil))))))))
def cf_law_days (ix : Nat → Nat) : CF := ⟨4, 8, (.seq (.asg (.nm 4) (.mlst .nil)) (.seq (.fr (.nm 5) (.rng (.con (.int 0)) (.bin .add (.con (.int 1)) (.call (ix 19) (.cons (.var 0) (.cons (.idx (.lst (.cons (.con (.int 5)) (.cons (.con (.int 12)) .nil))) (.blt .int (.cons (.cmp .eq (.call (ix 19) (.cons (.var 0) (.cons (.con (.int 8)) .nil))) (.con (.int 5))) .nil))) .nil))))) (cb_law_days_1 ix)) (.ret (.blt .tuple (.cons (.var 4) .nil)))))⟩
def cf_check_places (ix : Nat → Nat) : CF := ⟨2, 3, (.seq (.ife (.or (.not (.isi (.var 1) .tup)) (.cmp .gt (.blt .len (.cons (.var 1) .nil)) (.con (.int 2)))) .never .skip) (.seq (.ife (.not (.blt .all (.cons (.comp (.call (ix 41) (.cons (.var 0) (.cons (.var 2) .nil))) (.nm 2) (.one (.var 1)) (.con (.bl true)) [2] false) .nil))) .never .skip) (.ife (.and (.cmp .eq (.blt .len (.cons (.var 1) .nil)) (.con (.int 2))) (.not (.call (ix 9) (.cons (.idx (.var 1) (.con (.int 0))) (.cons (.idx (.var 1) (.con (.int 1))) .nil))))) .never .skip)))⟩
def cf_drags_by (ix : Nat → Nat) : CF := ⟨3, 5, (.seq (.expr (.call (ix 32) (.cons (.var 0) .nil))) (.seq (.expr (.call (ix 152) (.cons (.var 1) .nil))) (.seq (.expr (.call (ix 173) (.cons (.var 0) (.cons (.var 2) .nil)))) (.seq (.asg (.nm 3) (.blt .tuple (.cons (.comp (.call (ix 154) (.cons (.var 0) (.cons (.var 4) (.cons (.var 2) .nil)))) (.nm 4) (.one (.var 1)) (.con (.bl true)) [4] false) .nil))) (.seq (.ife (.cmp .isin (.con .non) (.var 3)) (.ret (.con .non)) .skip) (.ret (.var 3)))))))⟩
def cb_clash_by_1 (ix : Nat → Nat) : CS := (.seq (.asg (.nm 4) (.comp (.var 5) (.nm 5) (.one (.var 2)) (.cmp .ne (.var 5) (.var 3)) [5] false)) (.ife (.cmp .eq (.call (ix 165) (.cons (.var 0) (.cons (.blt .tuple (.cons (.comp (.idx (.var 1) (.var 5)) (.nm 5) (.one (.var 4)) (.con (.bl true)) [5] false) .nil)) .nil))) (.tup (.cons (.con (.str "clash")) .nil))) (.asg (.nm 2) (.var 4)) .skip))
def cf_clash_by (ix : Nat → Nat) : CF := ⟨2, 6, (.seq (.ife (.cmp .ne (.call (ix 165) (.cons (.var 0) (.cons (.var 1) .nil))) (.tup (.cons (.con (.str "clash")) .nil))) (.ret (.tup .nil)) .skip) (.seq (.asg (.nm 2) (.blt .list (.cons .nil .nil))) (.seq (.fr (.nm 3) (.one .nil) (cb_clash_by_1 ix)) (.ret (.blt .tuple (.cons (.var 2) .nil))))))⟩
def cf_clash_of (ix : Nat → Nat) : CF := ⟨2, 2, (.seq (.expr (.call (ix 32) (.cons (.var 0) .nil))) (.seq (.expr (.call (ix 152) (.cons (.var 1) .nil))) (.ret (.call (ix 175) (.cons (.var 0) (.cons (.var 1) .nil))))))⟩
def cf_check_length (ix : Nat → Nat) : CF := ⟨1, 1, (.ife (.not (.call (ix 30) (.cons (.var 0) .nil))) .never .skip)⟩
def cf_check_number (ix : Nat → Nat) : CF := ⟨2, 2, (.ife (.or (.not (.call (ix 0) (.cons (.var 1) .nil))) (.not (.chain .le .lt (.con (.int 0)) (.var 1) (.blt .len (.cons (.idx (.var 0) (.con (.int 0))) .nil))))) .never .skip)⟩
def cf_exchange (ix : Nat → Nat) : CF := ⟨3, 5, (.seq (.asg (.tp (.cons (.nm 3) (.cons (.nm 4) .nil))) (.var 0)) (.ret (.tup (.cons (.bin .add (.bin .add (.sl (.var 3) .nil (.one (.var 1))) (.tup (.cons (.var 2) .nil))) (.sl (.var 3) (.one (.bin .add (.var 1) (.con (.int 1)))) .nil)) (.cons (.var 4) .nil)))))⟩
def cf_exchanged (ix : Nat → Nat) : CF := ⟨3, 3, (.seq (.expr (.call (ix 32) (.cons (.var 0) .nil))) (.seq (.expr (.call (ix 178) (.cons (.var 0) (.cons (.var 1) .nil)))) (.seq (.expr (.call (ix 177) (.cons (.var 2) .nil))) (.ret (.call (ix 179) (.cons (.var 0) (.cons (.var 1) (.cons (.var 2) .nil))))))))⟩
def cf_check_room (ix : Nat → Nat) : CF := ⟨2, 2, (.ife (.cmp .gt (.bin .add (.blt .len (.cons (.idx (.var 0) (.con (.int 0))) .nil)) (.blt .len (.cons (.idx (.var 1) (.con (.int 0))) .nil))) (.con (.int 12))) .never .skip)⟩
def cf_add_cables (ix : Nat → Nat) : CF := ⟨2, 2, (.ret (.tup (.cons (.bin .add (.idx (.var 0) (.con (.int 0))) (.idx (.var 1) (.con (.int 0)))) (.cons (.idx (.var 0) (.con (.int 1))) .nil))))⟩
def cf_added (ix : Nat → Nat) : CF := ⟨2, 2, (.seq (.expr (.call (ix 32) (.cons (.var 0) .nil))) (.seq (.expr (.call (ix 32) (.cons (.var 1) .nil))) (.seq (.expr (.call (ix 181) (.cons (.var 0) (.cons (.var 1) .nil)))) (.ret (.call (ix 182) (.cons (.var 0) (.cons (.var 1) .nil)))))))⟩
def cf_turned (ix : Nat → Nat) : CF := ⟨1, 1, (.seq (.expr (.call (ix 32) (.cons (.var 0) .nil))) (.ret (.tup (.cons (.rev (.idx (.var 0) (.con (.int 0)))) (.cons (.idx (.var 0) (.con (.int 1))) .nil)))))⟩
def cf_leaks_turned (ix : Nat → Nat) : CF := ⟨2, 5, (.seq (.expr (.call (ix 32) (.cons (.var 0) .nil))) (.seq (.expr (.call (ix 65) (.cons (.var 0) (.cons (.var 1) .nil)))) (.seq (.asg (.nm 2) (.tup (.cons (.call (ix 33) (.cons (.var 0) .nil)) (.cons (.con (.int 1)) .nil)))) (.ret (.blt .tuple (.cons (.comp (.tup (.cons (.call (ix 6) (.cons (.var 2) (.cons (.var 3) .nil))) (.cons (.var 4) .nil))) (.tp (.cons (.nm 3) (.cons (.nm 4) .nil))) (.one (.rev (.var 1))) (.con (.bl true)) [3, 4] false) .nil))))))⟩
def cf_leaks_added (ix : Nat → Nat) : CF := ⟨4, 8, (.seq (.expr (.call (ix 32) (.cons (.var 0) .nil))) (.seq (.expr (.call (ix 65) (.cons (.var 0) (.cons (.var 1) .nil)))) (.seq (.expr (.call (ix 32) (.cons (.var 2) .nil))) (.seq (.expr (.call (ix 65) (.cons (.var 2) (.cons (.var 3) .nil)))) (.seq (.expr (.call (ix 181) (.cons (.var 0) (.cons (.var 2) .nil)))) (.seq (.asg (.nm 4) (.tup (.cons (.call (ix 33) (.cons (.var 0) .nil)) (.cons (.con (.int 1)) .nil)))) (.seq (.asg (.nm 5) (.bin .add (.var 1) (.blt .tuple (.cons (.comp (.tup (.cons (.call (ix 5) (.cons (.var 4) (.cons (.var 6) .nil))) (.cons (.var 7) .nil))) (.tp (.cons (.nm 6) (.cons (.nm 7) .nil))) (.one (.var 3)) (.con (.bl true)) [6, 7] false) .nil)))) (.seq (.expr (.call (ix 65) (.cons (.call (ix 182) (.cons (.var 0) (.cons (.var 2) .nil))) (.cons (.var 5) .nil)))) (.ret (.var 5))))))))))⟩
def cb_wall_1 (ix : Nat → Nat) : CS := .skip
def cf_wall (ix : Nat → Nat) : CF := ⟨1, 1, (.whl (.con (.bl true)) (cb_wall_1 ix))⟩
def cf_check_date (ix : Nat → Nat) : CF := ⟨1, 1, (.ife (.or (.not (.call (ix 0) (.cons (.var 0) .nil))) (.not (.chain .le .le (.con (.int 0)) (.var 0) (.con (.int 9999))))) .never .skip)⟩
def cf_law_length (ix : Nat → Nat) : CF := ⟨3, 3, (.seq (.ife (.cmp .eq (.call (ix 19) (.cons (.var 0) (.cons (.con (.int 4)) .nil))) (.con (.int 1))) (.ret (.idx (.idx (.var 1) (.con (.int 0))) (.var 2))) .skip) (.ret (.tup (.cons (.bin .add (.con (.int 1)) (.call (ix 19) (.cons (.var 0) (.cons (.con (.int 9)) .nil)))) (.cons (.call (ix 21) (.cons (.bin .add (.con (.int 1)) (.call (ix 19) (.cons (.var 0) (.cons (.con (.int 9)) .nil)))) (.cons (.bin .add (.con (.int 1)) (.call (ix 19) (.cons (.var 0) (.cons (.con (.int 2)) .nil)))) .nil))) .nil)))))⟩
def cf_law_any_readings (ix : Nat → Nat) : CF := ⟨1, 2, (.seq (.asg (.nm 1) (.call (ix 21) (.cons (.call (ix 19) (.cons (.var 0) (.cons (.con (.int 60)) .nil))) (.cons (.bin .add (.con (.int 1)) (.call (ix 19) (.cons (.var 0) (.cons (.con (.int 3)) .nil)))) .nil)))) (.seq (.ife (.cmp .eq (.call (ix 19) (.cons (.var 0) (.cons (.con (.int 4)) .nil))) (.con (.int 1))) (.ret (.tup (.cons (.con .non) (.cons (.con .non) (.cons (.var 1) .nil))))) .skip) (.ret (.tup (.cons (.call (ix 21) (.cons (.bin .add (.con (.int 1)) (.call (ix 19) (.cons (.var 0) (.cons (.con (.int 60)) .nil)))) (.cons (.bin .add (.con (.int 1)) (.call (ix 19) (.cons (.var 0) (.cons (.con (.int 3)) .nil)))) .nil))) (.cons (.tup (.cons (.bin .add (.con (.int 1)) (.call (ix 19) (.cons (.var 0) (.cons (.con (.int 60)) .nil)))) (.cons (.con (.int 1)) .nil))) (.cons (.var 1) .nil)))))))⟩
def cf_is_day_of (ix : Nat → Nat) : CF := ⟨1, 1, (.seq (.ife (.or (.not (.isi (.var 0) .tup)) (.or (.cmp .ne (.blt .len (.cons (.var 0) .nil)) (.con (.int 3))) (.not (.call (ix 27) (.cons (.idx (.var 0) (.con (.int 2))) .nil))))) (.ret (.con (.bl false))) .skip) (.ret (.or (.and (.cmp .is (.idx (.var 0) (.con (.int 0))) (.con .non)) (.cmp .is (.idx (.var 0) (.con (.int 1))) (.con .non))) (.and (.call (ix 28) (.cons (.idx (.var 0) (.con (.int 0))) .nil)) (.call (ix 28) (.cons (.idx (.var 0) (.con (.int 1))) .nil))))))⟩
def cf_read_by (ix : Nat → Nat) : CF := ⟨2, 4, (.seq (.asg (.tp (.cons (.nm 2) (.cons (.nm 3) .nil))) (.call (ix 68) (.cons (.var 0) (.cons (.var 1) .nil)))) (.seq (.ife (.cmp .is (.var 3) (.con .non)) (.ret (.tup (.cons (.con .non) (.cons (.con .non) (.cons (.call (ix 5) (.cons (.idx (.var 0) (.con (.int 1))) (.cons (.var 2) .nil))) .nil))))) .skip) (.ret (.tup (.cons (.call (ix 5) (.cons (.idx (.var 3) (.con (.int 0))) (.cons (.idx (.var 3) (.con (.int 2))) .nil))) (.cons (.call (ix 5) (.cons (.idx (.var 3) (.con (.int 1))) (.cons (.idx (.var 3) (.con (.int 2))) .nil))) (.cons (.call (ix 5) (.cons (.idx (.var 0) (.con (.int 1))) (.cons (.call (ix 5) (.cons (.idx (.var 3) (.con (.int 0))) (.cons (.idx (.var 3) (.con (.int 1))) .nil))) .nil))) .nil)))))))⟩
def cf_four_of_2 (ix : Nat → Nat) : CF := ⟨2, 6, (.seq (.asg (.tp (.cons (.nm 2) (.cons (.nm 3) (.cons (.nm 4) .nil)))) (.var 1)) (.seq (.asg (.nm 5) (.call (ix 92) (.cons (.call (ix 6) (.cons (.call (ix 5) (.cons (.call (ix 5) (.cons (.var 2) (.cons (.var 3) .nil))) (.cons (.idx (.var 0) (.con (.int 1))) .nil))) (.cons (.var 4) .nil))) .nil))) (.ret (.tup (.cons (.call (ix 6) (.cons (.var 2) (.cons (.var 5) .nil))) (.cons (.call (ix 6) (.cons (.var 3) (.cons (.var 5) .nil))) (.cons (.var 5) (.cons (.call (ix 6) (.cons (.call (ix 5) (.cons (.idx (.var 0) (.con (.int 1))) (.cons (.call (ix 34) (.cons (.var 0) .nil)) .nil))) (.cons (.var 4) .nil))) .nil))))))))⟩
def cf_is_quiet (ix : Nat → Nat) : CF := ⟨2, 2, (.ret (.cmp .eq (.var 1) (.call (ix 192) (.cons (.var 0) (.cons (.tup .nil) .nil)))))⟩
def cf_wrong_word (ix : Nat → Nat) : CF := ⟨2, 6, (.seq (.ife (.call (ix 194) (.cons (.var 0) (.cons (.var 1) .nil))) (.ret (.con .non)) .skip) (.seq (.ife (.cmp .is (.idx (.var 1) (.con (.int 0))) (.con .non)) (.ret (.con (.str "loop"))) .skip) (.seq (.asg (.tp (.cons (.nm 2) (.cons (.nm 3) (.cons (.nm 4) (.cons (.nm 5) .nil))))) .nil) (.seq (.ife (.call (ix 9) (.cons (.var 5) (.cons (.con (.tup [(.int 0), (.int 1)])) .nil))) (.ret (.con (.str "loop"))) .skip) (.seq (.ife (.not (.call (ix 28) (.cons (.var 4) .nil))) (.ret (.con (.str "earth"))) .skip) (.seq (.ife (.call (ix 9) (.cons (.var 2) (.cons (.con (.tup [(.int 0), (.int 1)])) .nil))) (.ret (.con (.str "west"))) .skip) (.seq (.ife (.call (ix 9) (.cons (.var 3) (.cons (.con (.tup [(.int 0), (.int 1)])) .nil))) (.ret (.con (.str "east"))) .skip) (.seq (.ife (.call (ix 9) (.cons (.call (ix 7) (.cons (.var 2) (.cons (.var 3) .nil))) (.cons (.call (ix 7) (.cons (.var 4) (.cons (.var 5) .nil))) .nil))) (.ret (.con (.str "lack"))) .skip) (.ret (.con .non))))))))))⟩
def cf_kind_seen (ix : Nat → Nat) : CF := ⟨2, 2, (.seq (.ife (.call (ix 194) (.cons (.var 0) (.cons (.var 1) .nil))) (.ret (.con (.str "sound"))) .skip) (.seq (.ife (.cmp .isnot (.call (ix 195) (.cons (.var 0) (.cons (.var 1) .nil))) (.con .non)) (.ret (.con (.str "wrong"))) .skip) (.ret (.idx (.lst (.cons (.con (.str "one")) (.cons (.con (.str "two")) .nil))) (.blt .int (.cons (.call (ix 28) (.cons (.idx .nil (.con (.int 3))) .nil)) .nil))))))⟩
def cf_one_taken (ix : Nat → Nat) : CF := ⟨3, 3, (.ret (.and (.call (ix 61) (.cons (.var 0) (.cons (.var 2) .nil))) (.cmp .eq (.call (ix 192) (.cons (.var 0) (.cons (.tup (.cons (.var 2) .nil)) .nil))) (.var 1))))⟩
def cf_pair_taken (ix : Nat → Nat) : CF := ⟨4, 5, (.seq (.ife (.or (.not (.isi (.var 2) .tup)) (.or (.cmp .ne (.blt .len (.cons (.var 2) .nil)) (.con (.int 2))) (.or (.not (.isi (.var 3) .tup)) (.cmp .ne (.blt .len (.cons (.var 3) .nil)) (.con (.int 2)))))) (.ret (.con (.bl false))) .skip) (.seq (.asg (.nm 4) (.tup (.cons (.tup (.cons (.idx (.var 2) (.con (.int 0))) (.cons (.idx (.var 3) (.con (.int 0))) .nil))) (.cons (.tup (.cons (.idx (.var 2) (.con (.int 1))) (.cons (.idx (.var 3) (.con (.int 1))) .nil))) .nil)))) (.ret (.and (.call (ix 62) (.cons (.var 0) (.cons (.var 4) .nil))) (.cmp .eq (.call (ix 192) (.cons (.var 0) (.cons (.var 4) .nil))) (.var 1))))))⟩
def cf_wrong_taken (ix : Nat → Nat) : CF := ⟨3, 3, (.ret (.and (.isi (.var 2) .str) (.cmp .eq (.var 2) (.call (ix 195) (.cons (.var 0) (.cons (.var 1) .nil))))))⟩
def cf_least_parted (ix : Nat → Nat) : CF := ⟨2, 3, (.seq (.asg (.nm 2) (.call (ix 6) (.cons (.idx (.var 0) (.con (.int 1))) (.cons (.call (ix 6) (.cons (.idx (.var 0) (.con (.int 4))) (.cons (.var 1) .nil))) .nil)))) (.seq (.ife (.not (.call (ix 28) (.cons (.var 2) .nil))) (.ret (.con .non)) .skip) (.ret (.call (ix 6) (.cons (.idx (.var 0) (.con (.int 0))) (.cons (.call (ix 8) (.cons (.call (ix 7) (.cons (.idx (.var 0) (.con (.int 2))) (.cons (.idx (.var 0) (.con (.int 3))) .nil))) (.cons (.var 2) .nil))) .nil))))))⟩
def cf_does_part (ix : Nat → Nat) : CF := ⟨3, 4, (.seq (.ife (.call (ix 9) (.cons (.var 1) (.cons (.var 2) .nil))) (.ret (.con (.bl false))) .skip) (.seq (.asg (.nm 3) (.call (ix 200) (.cons (.var 0) (.cons (.var 1) .nil)))) (.ret (.or (.cmp .is (.var 3) (.con .non)) (.call (ix 9) (.cons (.var 3) (.cons (.var 2) .nil)))))))⟩
def cf_most_west (ix : Nat → Nat) : CF := ⟨1, 1, (.ret (.call (ix 6) (.cons (.idx (.var 0) (.con (.int 0))) (.cons (.call (ix 8) (.cons (.call (ix 7) (.cons (.idx (.var 0) (.con (.int 2))) (.cons (.idx (.var 0) (.con (.int 3))) .nil))) (.cons (.idx (.var 0) (.con (.int 1))) .nil))) .nil))))⟩
def cb_is_covered_1 (ix : Nat → Nat) : CS := (.seq (.asg (.nm 5) (.comp (.var 6) (.nm 6) (.one (.var 1)) (.call (ix 201) (.cons (.var 0) (.cons (.var 6) (.cons (.var 4) .nil)))) [6] false)) (.seq (.ife (.cmp .eq (.var 5) (.lst .nil)) (.ret (.con (.bl false))) .skip) (.seq (.asg (.nm 4) (.call (ix 200) (.cons (.var 0) (.cons (.idx (.var 5) (.con (.int 0))) .nil)))) (.ife (.cmp .is (.var 4) (.con .non)) (.ret (.con (.bl true))) .skip))))
def cf_is_covered (ix : Nat → Nat) : CF := ⟨3, 7, (.seq (.asg (.nm 3) (.call (ix 200) (.cons (.var 0) (.cons (.var 2) .nil)))) (.seq (.asg (.nm 4) (.var 2)) (.seq (.ife (.call (ix 9) (.cons (.call (ix 202) (.cons (.var 0) .nil)) (.cons (.var 2) .nil))) (.asg (.nm 4) (.call (ix 202) (.cons (.var 0) .nil))) .skip) (.seq (.whl (.and (.not (.call (ix 9) (.cons (.var 4) (.cons (.con (.tup [(.int 0), (.int 1)])) .nil)))) (.or (.cmp .is (.var 3) (.con .non)) (.call (ix 9) (.cons (.var 3) (.cons (.var 4) .nil))))) (cb_is_covered_1 ix)) (.ret (.con (.bl true)))))))⟩
def cf_are_cuts (ix : Nat → Nat) : CF := ⟨2, 4, (.seq (.ife (.or (.not (.isi (.var 1) .tup)) (.not (.blt .all (.cons (.comp (.and (.call (ix 0) (.cons (.var 2) .nil)) (.chain .lt .lt (.con (.int 0)) (.var 2) (.blt .len (.cons (.idx (.var 0) (.con (.int 0))) .nil)))) (.nm 2) (.one (.var 1)) (.con (.bl true)) [2] false) .nil)))) (.ret (.con (.bl false))) .skip) (.ret (.blt .all (.cons (.comp (.cmp .lt (.idx (.var 1) (.var 3)) (.idx (.var 1) (.bin .add (.var 3) (.con (.int 1))))) (.nm 3) (.rng (.con (.int 0)) (.bin .sub (.blt .len (.cons (.var 1) .nil)) (.con (.int 1)))) (.con (.bl true)) [3] false) .nil))))⟩
def cf_are_spots (ix : Nat → Nat) : CF := ⟨2, 4, (.seq (.ife (.or (.not (.isi (.var 1) .tup)) (.not (.blt .all (.cons (.comp (.call (ix 41) (.cons (.var 0) (.cons (.var 2) .nil))) (.nm 2) (.one (.var 1)) (.con (.bl true)) [2] false) .nil)))) (.ret (.con (.bl false))) .skip) (.ret (.blt .all (.cons (.comp (.call (ix 9) (.cons (.idx (.var 1) (.var 3)) (.cons (.idx (.var 1) (.bin .add (.var 3) (.con (.int 1)))) .nil))) (.nm 3) (.rng (.con (.int 0)) (.bin .sub (.blt .len (.cons (.var 1) .nil)) (.con (.int 1)))) (.con (.bl true)) [3] false) .nil))))⟩
def cf_are_apart_2 (ix : Nat → Nat) : CF := ⟨3, 6, (.seq (.asg (.nm 3) (.call (ix 202) (.cons (.var 0) .nil))) (.seq (.ife (.blt .any (.cons (.comp (.call (ix 9) (.cons (.var 3) (.cons (.var 4) .nil))) (.nm 4) (.one (.var 2)) (.con (.bl true)) [4] false) .nil)) (.ret (.con (.bl false))) .skip) (.seq (.ife (.blt .any (.cons (.comp (.cmp .gt (.blt .len (.cons (.comp (.var 4) (.nm 4) (.one (.var 2)) (.call (ix 201) (.cons (.var 0) (.cons (.var 5) (.cons (.var 4) .nil)))) [4] false) .nil)) (.con (.int 1))) (.nm 5) (.one (.var 1)) (.con (.bl true)) [5] false) .nil)) (.ret (.con (.bl false))) .skip) (.ret (.blt .all (.cons (.comp (.blt .any (.cons (.comp (.call (ix 201) (.cons (.var 0) (.cons (.var 5) (.cons (.var 4) .nil)))) (.nm 5) (.one (.var 1)) (.con (.bl true)) [5] false) .nil)) (.nm 4) (.one (.var 2)) (.con (.bl true)) [4] false) .nil))))))⟩
def cf_are_days (ix : Nat → Nat) : CF := ⟨1, 2, (.ret (.and (.isi (.var 0) .tup) (.and (.cmp .le (.blt .len (.cons (.var 0) .nil)) (.con (.int 12))) (.blt .all (.cons (.comp (.call (ix 191) (.cons (.var 1) .nil)) (.nm 1) (.one (.var 0)) (.con (.bl true)) [1] false) .nil)))))⟩
def cf_are_places (ix : Nat → Nat) : CF := ⟨2, 3, (.seq (.ife (.or (.not (.isi (.var 1) .tup)) (.or (.cmp .gt (.blt .len (.cons (.var 1) .nil)) (.con (.int 2))) (.not (.blt .all (.cons (.comp (.call (ix 41) (.cons (.var 0) (.cons (.var 2) .nil))) (.nm 2) (.one (.var 1)) (.con (.bl true)) [2] false) .nil))))) (.ret (.con (.bl false))) .skip) (.ret (.or (.cmp .lt (.blt .len (.cons (.var 1) .nil)) (.con (.int 2))) (.call (ix 9) (.cons (.idx (.var 1) (.con (.int 0))) (.cons (.idx (.var 1) (.con (.int 1))) .nil))))))⟩
def cf_made_so (ix : Nat → Nat) : CF := ⟨4, 6, (.seq (.ife (.or (.not (.isi (.var 3) .tup)) (.cmp .ne (.blt .len (.cons (.var 3) .nil)) (.blt .len (.cons (.var 2) .nil)))) (.ret (.con (.bl false))) .skip) (.seq (.asg (.nm 4) (.blt .tuple (.cons (.comp (.var 5) (.nm 5) (.one .nil) (.cmp .isnot (.idx (.var 5) (.con (.int 1))) (.con .non)) [5] false) .nil))) (.ret (.and (.blt .all (.cons (.comp (.call (ix 61) (.cons (.var 0) (.cons (.var 5) .nil))) (.nm 5) (.one (.var 4)) (.con (.bl true)) [5] false) .nil)) (.cmp .eq (.call (ix 192) (.cons (.var 0) (.cons (.var 4) .nil))) (.var 1))))))⟩
def cf_do_fit (ix : Nat → Nat) : CF := ⟨2, 7, (.seq (.asg (.tp (.cons (.nm 2) (.cons (.nm 3) (.cons (.nm 4) .nil)))) (.var 0)) (.seq (.ife (.or (.not (.call (ix 207) (.cons (.var 3) .nil))) (.not (.call (ix 208) (.cons (.var 2) (.cons (.var 4) .nil))))) (.ret (.con (.bl false))) .skip) (.seq (.ife (.or (.not (.isi (.var 1) .tup)) (.cmp .ne (.blt .len (.cons (.var 1) .nil)) (.blt .len (.cons (.var 3) .nil)))) (.ret (.con (.bl false))) .skip) (.ret (.blt .all (.cons (.comp (.call (ix 209) (.cons (.var 2) (.cons (.var 5) (.cons (.var 4) (.cons (.var 6) .nil))))) (.tp (.cons (.nm 5) (.cons (.nm 6) .nil))) (.one .nil) (.con (.bl true)) [5, 6] false) .nil))))))⟩
def cf_arms_fit (ix : Nat → Nat) : CF := ⟨4, 6, (.seq (.asg (.tp (.cons (.nm 4) (.cons (.nm 5) .nil))) (.tup (.cons (.call (ix 6) (.cons (.idx (.var 1) (.con (.int 0))) (.cons (.var 2) .nil))) (.cons (.call (ix 6) (.cons (.idx (.var 1) (.con (.int 1))) (.cons (.call (ix 6) (.cons (.var 0) (.cons (.var 3) .nil))) .nil))) .nil)))) (.ret (.and (.call (ix 28) (.cons (.var 4) .nil)) (.and (.call (ix 28) (.cons (.var 5) .nil)) (.cmp .eq (.call (ix 7) (.cons (.var 4) (.cons (.var 5) .nil))) (.call (ix 7) (.cons (.idx (.var 1) (.con (.int 2))) (.cons (.idx (.var 1) (.con (.int 3))) .nil))))))))⟩
def cf_does_fit (ix : Nat → Nat) : CF := ⟨3, 6, (.seq (.ife (.call (ix 194) (.cons (.var 0) (.cons (.var 1) .nil))) (.ret (.con (.bl true))) .skip) (.seq (.ife (.cmp .eq (.call (ix 196) (.cons (.var 0) (.cons (.var 1) .nil))) (.con (.str "wrong"))) (.ret (.con (.bl false))) .skip) (.seq (.asg (.nm 3) .nil) (.seq (.asg (.nm 4) (.comp (.call (ix 43) (.cons (.var 0) (.cons (.var 5) .nil))) (.nm 5) (.one (.var 2)) (.con (.bl true)) [5] false)) (.seq (.ife (.cmp .eq (.idx (.var 3) (.con (.int 3))) (.con (.tup [(.int 0), (.int 1)]))) (.ret (.cmp .isin (.idx (.var 3) (.con (.int 0))) (.var 4))) .skip) (.ret (.and (.cmp .eq (.blt .len (.cons (.var 4) .nil)) (.con (.int 2))) (.call (ix 211) (.cons (.call (ix 34) (.cons (.var 0) .nil)) (.cons (.var 3) (.cons (.idx (.var 4) (.con (.int 0))) (.cons (.idx (.var 4) (.con (.int 1))) .nil))))))))))))⟩
def cf_fit_all_2 (ix : Nat → Nat) : CF := ⟨3, 4, (.ret (.blt .all (.cons (.comp (.call (ix 212) (.cons (.var 0) (.cons (.var 3) (.cons (.var 2) .nil)))) (.nm 3) (.one (.var 1)) (.con (.bl true)) [3] false) .nil)))⟩
def cf_are_unlike (ix : Nat → Nat) : CF := ⟨3, 5, (.seq (.ife (.or (.call (ix 194) (.cons (.var 0) (.cons (.var 1) .nil))) (.or (.call (ix 194) (.cons (.var 0) (.cons (.var 2) .nil))) (.cmp .eq (.var 1) (.var 2)))) (.ret (.con (.bl false))) .skip) (.seq (.asg (.tp (.cons (.nm 3) (.cons (.nm 4) .nil))) (.tup (.cons .nil (.cons .nil .nil)))) (.ret (.or (.cmp .ne (.idx (.var 3) (.con (.int 3))) (.con (.tup [(.int 0), (.int 1)]))) (.or (.cmp .ne (.idx (.var 4) (.con (.int 3))) (.con (.tup [(.int 0), (.int 1)]))) (.cmp .ne (.idx (.var 3) (.con (.int 0))) (.idx (.var 4) (.con (.int 0)))))))))⟩
def cf_beside_2 (ix : Nat → Nat) : CF := ⟨3, 6, (.seq (.asg (.nm 3) (.mlst .nil)) (.seq (.asg (.tp (.cons (.nm 4) (.cons (.nm 5) .nil))) (.tup (.cons (.call (ix 6) (.cons (.idx (.var 1) (.con (.int 0))) (.cons (.var 2) .nil))) (.cons (.call (ix 6) (.cons (.idx (.var 1) (.con (.int 1))) (.cons (.call (ix 6) (.cons (.var 0) (.cons (.var 2) .nil))) .nil))) .nil)))) (.seq (.ife (.call (ix 28) (.cons (.var 4) .nil)) (.expr (.mth .append (.var 3) (.cons (.tup (.cons (.var 2) (.cons (.call (ix 5) (.cons (.call (ix 6) (.cons (.var 0) (.cons (.idx (.var 1) (.con (.int 1))) .nil))) (.cons (.call (ix 8) (.cons (.call (ix 7) (.cons (.idx (.var 1) (.con (.int 2))) (.cons (.idx (.var 1) (.con (.int 3))) .nil))) (.cons (.var 4) .nil))) .nil))) .nil))) .nil))) .skip) (.seq (.ife (.call (ix 28) (.cons (.var 5) .nil)) (.expr (.mth .append (.var 3) (.cons (.tup (.cons (.call (ix 6) (.cons (.idx (.var 1) (.con (.int 0))) (.cons (.call (ix 8) (.cons (.call (ix 7) (.cons (.idx (.var 1) (.con (.int 2))) (.cons (.idx (.var 1) (.con (.int 3))) .nil))) (.cons (.var 5) .nil))) .nil))) (.cons (.var 2) .nil))) .nil))) .skip) (.retF 3)))))⟩
def cf_arms_of_both (ix : Nat → Nat) : CF := ⟨2, 10, (.seq (.asg (.tp (.cons (.nm 2) (.cons (.nm 3) .nil))) (.tup (.cons (.call (ix 6) (.cons (.idx (.var 1) (.con (.int 0))) (.cons (.idx (.var 0) (.con (.int 0))) .nil))) (.cons (.call (ix 6) (.cons (.idx (.var 1) (.con (.int 1))) (.cons (.idx (.var 0) (.con (.int 1))) .nil))) .nil)))) (.seq (.asg (.tp (.cons (.nm 4) (.cons (.nm 5) .nil))) (.tup (.cons (.call (ix 7) (.cons (.idx (.var 0) (.con (.int 2))) (.cons (.idx (.var 0) (.con (.int 3))) .nil))) (.cons (.call (ix 7) (.cons (.idx (.var 1) (.con (.int 2))) (.cons (.idx (.var 1) (.con (.int 3))) .nil))) .nil)))) (.seq (.asg (.tp (.cons (.nm 6) (.cons (.nm 7) .nil))) (.tup (.cons (.call (ix 5) (.cons (.call (ix 7) (.cons (.var 3) (.cons (.var 2) .nil))) (.cons (.call (ix 6) (.cons (.var 4) (.cons (.var 5) .nil))) .nil))) (.cons (.call (ix 7) (.cons (.var 4) (.cons (.var 2) .nil))) .nil)))) (.seq (.ife (.cmp .eq (.var 3) (.con (.tup [(.int 0), (.int 1)]))) (.ret (.ife (.cmp .eq (.var 6) (.con (.tup [(.int 0), (.int 1)]))) (.lst .nil) (.lst (.cons (.call (ix 6) (.cons (.con (.tup [(.int 0), (.int 1)])) (.cons (.call (ix 8) (.cons (.var 7) (.cons (.var 6) .nil))) .nil))) .nil)))) .skip) (.seq (.asg (.nm 8) (.call (ix 26) (.cons (.call (ix 6) (.cons (.call (ix 7) (.cons (.var 6) (.cons (.var 6) .nil))) (.cons (.call (ix 7) (.cons (.tup (.cons (.con (.int 4)) (.cons (.con (.int 1)) .nil))) (.cons (.call (ix 7) (.cons (.var 3) (.cons (.var 7) .nil))) .nil))) .nil))) .nil))) (.seq (.ife (.cmp .is (.var 8) (.con .non)) (.ret (.lst .nil)) .skip) (.seq (.asg (.nm 9) (.call (ix 7) (.cons (.tup (.cons (.con (.int 2)) (.cons (.con (.int 1)) .nil))) (.cons (.var 3) .nil)))) (.ret (.lst (.cons (.call (ix 8) (.cons (.call (ix 6) (.cons (.var 8) (.cons (.var 6) .nil))) (.cons (.var 9) .nil))) (.cons (.call (ix 8) (.cons (.call (ix 6) (.cons (.con (.tup [(.int 0), (.int 1)])) (.cons (.call (ix 5) (.cons (.var 8) (.cons (.var 6) .nil))) .nil))) (.cons (.var 9) .nil))) .nil)))))))))))⟩
def cb_possible_pairs_1 (ix : Nat → Nat) : CS := (.ife (.call (ix 28) (.cons (.var 7) .nil)) (.expr (.mth .append (.var 6) (.cons (.tup (.cons (.call (ix 6) (.cons (.idx (.var 4) (.con (.int 0))) (.cons (.var 7) .nil))) (.cons (.call (ix 5) (.cons (.call (ix 6) (.cons (.var 3) (.cons (.idx (.var 4) (.con (.int 1))) .nil))) (.cons (.call (ix 8) (.cons (.call (ix 7) (.cons (.idx (.var 4) (.con (.int 2))) (.cons (.idx (.var 4) (.con (.int 3))) .nil))) (.cons (.var 7) .nil))) .nil))) .nil))) .nil))) .skip)
def cf_possible_pairs (ix : Nat → Nat) : CF := ⟨3, 8, (.seq (.asg (.nm 3) (.call (ix 34) (.cons (.var 0) .nil))) (.seq (.asg (.tp (.cons (.nm 4) (.cons (.nm 5) .nil))) (.tup (.cons .nil (.cons .nil .nil)))) (.seq (.ife (.and (.cmp .eq (.idx (.var 4) (.con (.int 3))) (.con (.tup [(.int 0), (.int 1)]))) (.cmp .eq (.idx (.var 5) (.con (.int 3))) (.con (.tup [(.int 0), (.int 1)])))) (.asg (.nm 6) (.mlst (.cons (.tup (.cons (.idx (.var 4) (.con (.int 0))) (.cons (.idx (.var 5) (.con (.int 0))) .nil))) (.cons (.tup (.cons (.idx (.var 5) (.con (.int 0))) (.cons (.idx (.var 4) (.con (.int 0))) .nil))) .nil)))) (.ife (.cmp .eq (.idx (.var 4) (.con (.int 3))) (.con (.tup [(.int 0), (.int 1)]))) (.asg (.nm 6) (.call (ix 215) (.cons (.var 3) (.cons (.var 5) (.cons (.idx (.var 4) (.con (.int 0))) .nil))))) (.ife (.cmp .eq (.idx (.var 5) (.con (.int 3))) (.con (.tup [(.int 0), (.int 1)]))) (.asg (.nm 6) (.call (ix 215) (.cons (.var 3) (.cons (.var 4) (.cons (.idx (.var 5) (.con (.int 0))) .nil))))) (.seq (.asg (.nm 6) (.mlst .nil)) (.fr (.nm 7) (.one (.call (ix 216) (.cons (.var 4) (.cons (.var 5) .nil)))) (cb_possible_pairs_1 ix)))))) (.retF 6))))⟩
def cf_is_number (ix : Nat → Nat) : CF := ⟨2, 2, (.ret (.and (.call (ix 0) (.cons (.var 0) .nil)) (.chain .le .lt (.con (.int 0)) (.var 0) (.var 1))))⟩
def cf_are_numbers (ix : Nat → Nat) : CF := ⟨2, 4, (.seq (.ife (.or (.not (.isi (.var 1) .tup)) (.or (.cmp .eq (.var 1) (.tup .nil)) (.not (.blt .all (.cons (.comp (.call (ix 218) (.cons (.var 2) (.cons (.blt .len (.cons (.var 0) .nil)) .nil))) (.nm 2) (.one (.var 1)) (.con (.bl true)) [2] false) .nil))))) (.ret (.con (.bl false))) .skip) (.ret (.blt .all (.cons (.comp (.cmp .lt (.idx (.var 1) (.var 3)) (.idx (.var 1) (.bin .add (.var 3) (.con (.int 1))))) (.nm 3) (.rng (.con (.int 0)) (.bin .sub (.blt .len (.cons (.var 1) .nil)) (.con (.int 1)))) (.con (.bl true)) [3] false) .nil))))⟩
def cf_east_with (ix : Nat → Nat) : CF := ⟨2, 2, (.ret (.call (ix 5) (.cons (.call (ix 6) (.cons (.idx (.var 0) (.con (.int 4))) (.cons (.idx (.var 0) (.con (.int 1))) .nil))) (.cons (.call (ix 8) (.cons (.call (ix 7) (.cons (.idx (.var 0) (.con (.int 2))) (.cons (.idx (.var 0) (.con (.int 3))) .nil))) (.cons (.call (ix 6) (.cons (.idx (.var 0) (.con (.int 0))) (.cons (.var 1) .nil))) .nil))) .nil))))⟩
def cb_ways_seen_1 (ix : Nat → Nat) : CS := (.ife (.and (.not (.call (ix 9) (.cons (.var 5) (.cons (.con (.tup [(.int 0), (.int 1)])) .nil)))) (.not (.call (ix 9) (.cons (.var 2) (.cons (.var 5) .nil))))) (.seq (.asg (.nm 6) (.call (ix 220) (.cons (.var 0) (.cons (.var 5) .nil)))) (.seq (.asg (.nm 7) (.blt .len (.cons (.comp (.var 8) (.nm 8) (.one (.var 1)) (.call (ix 9) (.cons (.var 8) (.cons (.var 5) .nil))) [8] false) .nil))) (.expr (.mth .append (.var 4) (.cons (.tup (.cons (.var 7) (.cons (.blt .len (.cons (.comp (.var 8) (.nm 8) (.one (.var 1)) (.call (ix 9) (.cons (.var 8) (.cons (.var 6) .nil))) [8] false) .nil)) .nil))) .nil))))) .skip)
def cf_ways_seen (ix : Nat → Nat) : CF := ⟨2, 11, (.seq (.asg (.nm 2) (.call (ix 202) (.cons (.var 0) .nil))) (.seq (.asg (.nm 3) (.bin .add (.bin .add (.lst (.cons (.con (.tup [(.int 0), (.int 1)])) (.cons (.var 2) .nil))) (.var 1)) (.comp (.var 8) (.nm 8) (.one (.comp (.call (ix 200) (.cons (.var 0) (.cons (.var 9) .nil))) (.nm 9) (.one (.var 1)) (.con (.bl true)) [9] false)) (.cmp .isnot (.var 8) (.con .non)) [8] false))) (.seq (.asg (.nm 4) (.mlst .nil)) (.seq (.fr (.nm 5) (.one (.var 3)) (cb_ways_seen_1 ix)) (.ret (.blt .sorted (.cons (.comp (.idx (.var 4) (.var 10)) (.nm 10) (.rng (.con (.int 0)) (.blt .len (.cons (.var 4) .nil))) (.cmp .notin (.idx (.var 4) (.var 10)) (.sl (.var 4) .nil (.one (.var 10)))) [10] false) .nil)))))))⟩
def cb_left_by_1 (ix : Nat → Nat) : CS := (.ife (.cmp .lt (.idx (.idx (.var 0) (.var 5)) (.con (.int 1))) (.var 3)) (.expr (.mth .append (.idx (.var 4) (.con (.int 0))) (.cons (.var 5) .nil))) (.ife (.cmp .ge (.idx (.idx (.var 0) (.var 5)) (.con (.int 0))) (.var 3)) (.expr (.mth .append (.idx (.var 4) (.con (.int 2))) (.cons (.var 5) .nil))) (.expr (.mth .append (.idx (.var 4) (.con (.int 1))) (.cons (.var 5) .nil)))))
def cf_left_by (ix : Nat → Nat) : CF := ⟨4, 7, (.seq (.asg (.nm 4) (.lst (.cons (.lst .nil) (.cons (.lst .nil) (.cons (.lst .nil) .nil))))) (.seq (.fr (.nm 5) (.rng (.var 1) (.bin .add (.var 2) (.con (.int 1)))) (cb_left_by_1 ix)) (.ret (.comp (.ife (.cmp .ne (.var 6) (.lst .nil)) (.tup (.cons (.idx (.var 6) (.con (.int 0))) (.cons (.idx (.var 6) (.neg (.con (.int 1)))) .nil))) (.con .non)) (.nm 6) (.one (.var 4)) (.con (.bl true)) [6] false))))⟩
def cb_are_stretches_1 (ix : Nat → Nat) : CS := (.seq (.ife (.or (.not (.isi (.var 2) .tup)) (.or (.cmp .ne (.blt .len (.cons (.var 2) .nil)) (.con (.int 3))) (.not (.blt .all (.cons (.comp (.call (ix 0) (.cons (.var 3) .nil)) (.nm 3) (.one (.var 2)) (.con (.bl true)) [3] false) .nil))))) (.ret (.con (.bl false))) .skip) (.ife (.or (.not .nil) (.cmp .lt (.idx (.var 2) (.con (.int 2))) (.con (.int 1)))) (.ret (.con (.bl false))) .skip))
def cf_are_stretches (ix : Nat → Nat) : CF := ⟨2, 5, (.seq (.ife (.not (.isi (.var 1) .tup)) (.ret (.con (.bl false))) .skip) (.seq (.fr (.nm 2) (.one (.var 1)) (cb_are_stretches_1 ix)) (.ret (.blt .all (.cons (.comp (.cmp .lt (.idx (.var 1) (.var 4)) (.idx (.var 1) (.bin .add (.var 4) (.con (.int 1))))) (.nm 4) (.rng (.con (.int 0)) (.bin .sub (.blt .len (.cons (.var 1) .nil)) (.con (.int 1)))) (.con (.bl true)) [4] false) .nil)))))⟩
def cf_holds_one (ix : Nat → Nat) : CF := ⟨3, 4, (.ret (.blt .any (.cons (.comp (.and (.cmp .le (.idx (.var 1) (.con (.int 0))) (.idx (.var 3) (.con (.int 0)))) (.and (.cmp .le (.idx (.var 3) (.con (.int 1))) (.idx (.var 1) (.con (.int 1)))) (.cmp .ge (.idx (.var 3) (.con (.int 2))) (.var 2)))) (.nm 3) (.one (.var 0)) (.con (.bl true)) [3] false) .nil)))⟩
def cb_does_need_1 (ix : Nat → Nat) : CS := (.seq (.asg (.nm 5) (.comp (.var 6) (.nm 6) (.one (.call (ix 222) (.cons (.var 0) (.cons (.idx (.var 3) (.con (.int 0))) (.cons (.idx (.var 3) (.con (.int 1))) (.cons (.var 4) .nil)))))) (.cmp .isnot (.var 6) (.con .non)) [6] false)) (.ife (.not (.blt .any (.cons (.comp (.call (ix 224) (.cons (.var 2) (.cons (.var 6) (.cons (.bin .sub (.idx (.var 3) (.con (.int 2))) (.con (.int 1))) .nil)))) (.nm 6) (.one (.var 5)) (.con (.bl true)) [6] false) .nil))) (.ret (.con (.bl false))) .skip))
def cf_does_need (ix : Nat → Nat) : CF := ⟨4, 7, (.seq (.fr (.nm 4) (.rng (.con (.int 1)) (.bin .add (.var 1) (.con (.int 1)))) (cb_does_need_1 ix)) (.ret (.con (.bl true))))⟩
def cf_is_plan (ix : Nat → Nat) : CF := ⟨5, 7, (.seq (.ife (.cmp .is (.var 3) (.con .non)) (.ret (.cmp .is (.var 4) (.con .non))) .skip) (.seq (.ife (.cmp .eq (.idx (.var 3) (.con (.int 0))) (.idx (.var 3) (.con (.int 1)))) (.ret (.and (.isi (.var 4) .tup) (.cmp .eq (.var 4) (.tup .nil)))) .skip) (.seq (.ife (.or (.cmp .eq (.var 2) (.con (.int 0))) (.or (.not (.isi (.var 4) .tup)) (.or (.cmp .ne (.blt .len (.cons (.var 4) .nil)) (.con (.int 4))) (.not (.call (ix 0) (.cons (.idx (.var 4) (.con (.int 0))) .nil)))))) (.ret (.con (.bl false))) .skip) (.seq (.ife (.not (.chain .le .le (.con (.int 1)) (.idx (.var 4) (.con (.int 0))) (.var 1))) (.ret (.con (.bl false))) .skip) (.seq (.asg (.nm 5) (.call (ix 222) (.cons (.var 0) (.cons (.idx (.var 3) (.con (.int 0))) (.cons (.idx (.var 3) (.con (.int 1))) (.cons (.idx (.var 4) (.con (.int 0))) .nil)))))) (.ret (.blt .all (.cons (.comp (.call (ix 0) (.cons (.var 0) (.cons (.var 1) (.cons (.bin .sub (.var 2) (.con (.int 1))) (.cons (.idx (.var 5) (.var 6)) (.cons (.idx (.var 4) (.bin .add (.var 6) (.con (.int 1)))) .nil)))))) (.nm 6) (.rng (.con (.int 0)) (.con (.int 3))) (.con (.bl true)) [6] false) .nil))))))))⟩
def cf_lamp_taken (ix : Nat → Nat) : CF := ⟨4, 10, (.seq (.ife (.or (.cmp .ne (.call (ix 196) (.cons (.var 0) (.cons (.var 1) .nil))) (.con (.str "two"))) (.or (.not (.call (ix 0) (.cons (.var 2) .nil))) (.cmp .lt (.var 2) (.con (.int 0))))) (.ret (.con (.bl false))) .skip) (.seq (.ife (.or (.not (.isi (.var 3) .tup)) (.cmp .ne (.blt .len (.cons (.var 3) .nil)) (.con (.int 2)))) (.ret (.con (.bl false))) .skip) (.seq (.asg (.nm 4) (.bin .add .nil (.tup (.cons (.call (ix 34) (.cons (.var 0) .nil)) .nil)))) (.seq (.asg (.nm 5) (.comp (.call (ix 43) (.cons (.var 0) (.cons (.tup (.cons (.var 8) (.cons (.con (.int 1)) .nil))) .nil))) (.nm 8) (.one (.call (ix 35) (.cons (.var 0) .nil))) (.con (.bl true)) [8] false)) (.seq (.asg (.tp (.cons (.nm 6) (.cons (.nm 7) .nil))) (.tup (.cons (.call (ix 221) (.cons (.var 4) (.cons (.var 5) .nil))) (.cons (.blt .len (.cons (.var 5) .nil)) .nil)))) (.seq (.ife (.or (.not (.call (ix 226) (.cons (.var 6) (.cons (.var 7) (.cons (.var 2) (.cons (.tup (.cons (.con (.int 0)) (.cons (.bin .sub (.blt .len (.cons (.var 6) .nil)) (.con (.int 1))) .nil))) (.cons (.idx (.var 3) (.con (.int 0))) .nil))))))) (.not (.call (ix 223) (.cons (.var 6) (.cons (.idx (.var 3) (.con (.int 1))) .nil))))) (.ret (.con (.bl false))) .skip) (.seq (.ife (.not (.blt .all (.cons (.comp (.or (.cmp .eq (.idx (.var 9) (.con (.int 2))) (.con (.int 1))) (.call (ix 225) (.cons (.var 6) (.cons (.var 7) (.cons (.idx (.var 3) (.con (.int 1))) (.cons (.var 9) .nil)))))) (.nm 9) (.one (.idx (.var 3) (.con (.int 1)))) (.con (.bl true)) [9] false) .nil))) (.ret (.con (.bl false))) .skip) (.ret (.or (.cmp .eq (.var 2) (.con (.int 0))) (.blt .any (.cons (.comp (.cmp .eq (.idx (.var 9) (.con (.int 2))) (.var 2)) (.nm 9) (.one (.idx (.var 3) (.con (.int 1)))) (.con (.bl true)) [9] false) .nil)))))))))))⟩
def cf_short_taken (ix : Nat → Nat) : CF := ⟨4, 4, (.seq (.ife (.cmp .eq (.var 0) (.con (.str "sound"))) (.ret (.and (.cmp .is (.var 3) (.con .non)) (.call (ix 194) (.cons (.var 1) (.cons (.var 2) .nil))))) .skip) (.ret (.call (ix 199) (.cons (.var 1) (.cons (.var 2) (.cons (.var 3) .nil))))))⟩
def cf_kind_by_2 (ix : Nat → Nat) : CF := ⟨2, 4, (.seq (.ife (.cmp .is (.idx (.var 1) (.con (.int 0))) (.con .non)) (.seq (.ife (.cmp .eq (.idx (.var 1) (.con (.int 2))) (.call (ix 5) (.cons (.idx (.var 0) (.con (.int 1))) (.cons (.call (ix 34) (.cons (.var 0) .nil)) .nil)))) (.ret (.tup (.cons (.con (.str "sound")) .nil))) .skip) (.ret (.tup (.cons (.con (.str "wrong")) (.cons (.con (.str "loop")) .nil))))) .skip) (.seq (.asg (.nm 2) .nil) (.seq (.asg (.nm 3) (.call (ix 104) (.cons (.var 2) .nil))) (.seq (.ife (.cmp .isnot (.var 3) (.con .non)) (.ret (.tup (.cons (.con (.str "wrong")) (.cons (.var 3) .nil)))) .skip) (.seq (.ife (.cmp .eq (.idx (.var 2) (.con (.int 3))) (.con (.tup [(.int 0), (.int 1)]))) (.ret (.tup (.cons (.con (.str "one")) (.cons (.tup (.cons (.call (ix 44) (.cons (.var 0) (.cons (.idx (.var 2) (.con (.int 0))) .nil))) (.cons (.idx (.var 2) (.con (.int 2))) .nil))) .nil)))) .skip) (.ret (.tup (.cons (.con (.str "two")) .nil))))))))⟩
def cf_check_two_2 (ix : Nat → Nat) : CF := ⟨2, 3, (.seq (.expr (.call (ix 100) (.cons (.var 1) .nil))) (.seq (.asg (.nm 2) (.call (ix 229) (.cons (.var 0) (.cons (.var 1) .nil)))) (.seq (.ife (.cmp .eq (.idx (.var 2) (.con (.int 0))) (.con (.str "wrong"))) .never .skip) (.seq (.ife (.cmp .ne (.idx (.var 2) (.con (.int 0))) (.con (.str "two"))) .never .skip) (.ret .nil)))))⟩
def cf_pair_at_2 (ix : Nat → Nat) : CF := ⟨3, 8, (.seq (.expr (.call (ix 32) (.cons (.var 0) .nil))) (.seq (.asg (.nm 3) (.call (ix 230) (.cons (.var 0) (.cons (.var 1) .nil)))) (.seq (.asg (.nm 4) (.call (ix 114) (.cons (.var 0) (.cons (.idx (.call (ix 111) (.cons (.var 0) (.cons (.var 3) .nil))) (.con (.int 0))) (.cons (.var 2) .nil))))) (.seq (.asg (.tp (.cons (.nm 4) (.cons (.nm 5) (.cons (.nm 6) (.cons (.nm 7) .nil))))) (.call (ix 112) (.cons (.var 0) (.cons (.var 3) (.cons (.var 4) .nil))))) (.ret (.tup (.cons (.tup (.cons (.var 2) (.cons (.var 5) .nil))) (.cons (.tup (.cons (.call (ix 44) (.cons (.var 0) (.cons (.var 6) .nil))) (.cons (.var 7) .nil))) .nil))))))))⟩
def cb_law_day_2_1 (ix : Nat → Nat) : CS := (.seq (.asg (.nm 7) (.call (ix 72) (.cons (.var 0) (.cons (.var 5) .nil)))) (.seq (.ife (.cmp .is (.var 4) (.con .non)) (.asg (.nm 4) (.tup (.cons (.var 7) (.cons (.tup (.cons (.con (.int 0)) (.cons (.con (.int 1)) .nil))) (.cons (.var 6) .nil))))) (.seq (.asg (.nm 8) (.call (ix 39) (.cons (.idx (.var 4) (.con (.int 1))) (.cons (.call (ix 47) (.cons (.var 7) (.cons (.var 3) .nil))) .nil)))) (.seq (.asg (.nm 9) (.call (ix 39) (.cons (.call (ix 39) (.cons (.idx (.var 4) (.con (.int 2))) (.cons (.var 6) .nil))) (.cons (.var 8) .nil)))) (.seq (.asg (.nm 10) (.call (ix 39) (.cons (.idx (.var 4) (.con (.int 0))) (.cons (.call (ix 48) (.cons (.call (ix 40) (.cons (.idx (.var 4) (.con (.int 2))) (.cons (.var 8) .nil))) (.cons (.var 9) .nil))) .nil)))) (.asg (.nm 4) (.tup (.cons (.var 10) (.cons (.call (ix 48) (.cons (.call (ix 40) (.cons (.var 6) (.cons (.var 8) .nil))) (.cons (.var 9) .nil))) (.cons (.call (ix 48) (.cons (.call (ix 40) (.cons (.idx (.var 4) (.con (.int 2))) (.cons (.var 6) .nil))) (.cons (.var 9) .nil))) .nil))))))))) (.asg (.nm 3) (.var 7))))
def cf_law_day_2 (ix : Nat → Nat) : CF := ⟨2, 12, (.seq (.asg (.tp (.cons (.nm 2) (.cons (.nm 3) (.cons (.nm 4) .nil)))) (.tup (.cons (.call (ix 50) (.cons (.var 0) .nil)) (.cons (.tup (.cons (.con (.int 0)) (.cons (.con (.int 1)) .nil))) (.cons (.con .non) .nil))))) (.seq (.fr (.tp (.cons (.nm 5) (.cons (.nm 6) .nil))) (.one (.var 1)) (cb_law_day_2_1 ix)) (.seq (.ife (.cmp .is (.var 4) (.con .non)) (.ret (.tup (.cons (.con .non) (.cons (.con .non) (.cons (.call (ix 39) (.cons (.idx (.var 0) (.con (.int 1))) (.cons (.var 2) .nil))) .nil))))) .skip) (.seq (.asg (.nm 11) (.call (ix 39) (.cons (.idx (.var 4) (.con (.int 1))) (.cons (.call (ix 47) (.cons (.var 2) (.cons (.var 3) .nil))) .nil)))) (.ret (.tup (.cons (.call (ix 39) (.cons (.idx (.var 4) (.con (.int 0))) (.cons (.idx (.var 4) (.con (.int 2))) .nil))) (.cons (.call (ix 39) (.cons (.var 11) (.cons (.idx (.var 4) (.con (.int 2))) .nil))) (.cons (.call (ix 39) (.cons (.idx (.var 0) (.con (.int 1))) (.cons (.call (ix 39) (.cons (.idx (.var 4) (.con (.int 0))) (.cons (.var 11) .nil))) .nil))) .nil)))))))))⟩
def cf_law_is_day (ix : Nat → Nat) : CF := ⟨1, 2, (.seq (.ife (.or (.not (.isi (.var 0) .tup)) (.or (.cmp .ne (.blt .len (.cons (.var 0) .nil)) (.con (.int 3))) (.or (.not (.call (ix 22) (.cons (.idx (.var 0) (.con (.int 2))) .nil))) (.cmp .lt (.idx (.idx (.var 0) (.con (.int 2))) (.con (.int 0))) (.con (.int 0)))))) (.ret (.con (.bl false))) .skip) (.seq (.ife (.or (.cmp .is (.idx (.var 0) (.con (.int 0))) (.con .non)) (.cmp .is (.idx (.var 0) (.con (.int 1))) (.con .non))) (.ret (.and (.cmp .is (.idx (.var 0) (.con (.int 0))) (.con .non)) (.cmp .is (.idx (.var 0) (.con (.int 1))) (.con .non)))) .skip) (.ret (.blt .all (.cons (.comp (.and (.call (ix 22) (.cons (.var 1) .nil)) (.cmp .gt (.idx (.var 1) (.con (.int 0))) (.con (.int 0)))) (.nm 1) (.one (.sl (.var 0) .nil (.one (.con (.int 2))))) (.con (.bl true)) [1] false) .nil)))))⟩
def cf_law_kind_3 (ix : Nat → Nat) : CF := ⟨2, 10, (.seq (.ife (.cmp .is (.idx (.var 1) (.con (.int 0))) (.con .non)) (.ret (.idx (.lst (.cons (.con (.str "loop")) (.cons (.con (.str "sound")) .nil))) (.blt .int (.cons (.cmp .eq (.var 1) (.call (ix 232) (.cons (.var 0) (.cons (.tup .nil) .nil)))) .nil)))) .skip) (.seq (.asg (.tp (.cons (.nm 2) (.cons (.nm 3) (.cons (.nm 4) (.cons (.nm 5) .nil))))) (.call (ix 108) (.cons (.var 0) (.cons (.var 1) .nil)))) (.seq (.asg (.nm 6) (.call (ix 47) (.cons (.call (ix 40) (.cons (.var 2) (.cons (.var 3) .nil))) (.cons (.call (ix 40) (.cons (.var 4) (.cons (.var 5) .nil))) .nil)))) (.seq (.asg (.nm 7) (.lst (.cons (.tup (.cons (.con (.str "loop")) (.cons (.cmp .lt (.idx (.var 5) (.con (.int 0))) (.con (.int 0))) .nil))) (.cons (.tup (.cons (.con (.str "earth")) (.cons (.cmp .le (.idx (.var 4) (.con (.int 0))) (.con (.int 0))) .nil))) (.cons (.tup (.cons (.con (.str "west")) (.cons (.cmp .lt (.idx (.var 2) (.con (.int 0))) (.con (.int 0))) .nil))) (.cons (.tup (.cons (.con (.str "east")) (.cons (.cmp .lt (.idx (.var 3) (.con (.int 0))) (.con (.int 0))) .nil))) .nil)))))) (.seq (.asg (.nm 7) (.bin .add (.var 7) (.lst (.cons (.tup (.cons (.con (.str "lack")) (.cons (.cmp .lt (.idx (.var 6) (.con (.int 0))) (.con (.int 0))) .nil))) (.cons (.tup (.cons (.con (.str "one")) (.cons (.cmp .eq (.idx (.var 5) (.con (.int 0))) (.con (.int 0))) .nil))) (.cons (.tup (.cons (.con (.str "two")) (.cons (.con (.bl true)) .nil))) .nil)))))) (.ret (.idx (.comp (.var 8) (.tp (.cons (.nm 8) (.cons (.nm 9) .nil))) (.one (.var 7)) (.var 9) [8, 9] false) (.con (.int 0)))))))))⟩
def cf_law_any_day (ix : Nat → Nat) : CF := ⟨2, 6, (.seq (.asg (.nm 2) (.call (ix 50) (.cons (.var 1) .nil))) (.seq (.asg (.nm 3) (.call (ix 21) (.cons (.bin .sub (.call (ix 19) (.cons (.var 0) (.cons (.con (.int 60)) .nil))) (.con (.int 8))) (.cons (.bin .add (.con (.int 1)) (.call (ix 19) (.cons (.var 0) (.cons (.con (.int 4)) .nil)))) .nil)))) (.seq (.asg (.nm 4) (.call (ix 21) (.cons (.bin .sub (.call (ix 19) (.cons (.var 0) (.cons (.con (.int 60)) .nil))) (.con (.int 8))) (.cons (.bin .add (.con (.int 1)) (.call (ix 19) (.cons (.var 0) (.cons (.con (.int 4)) .nil)))) .nil)))) (.seq (.asg (.nm 5) (.call (ix 21) (.cons (.bin .sub (.call (ix 19) (.cons (.var 0) (.cons (.con (.int 60)) .nil))) (.con (.int 8))) (.cons (.bin .add (.con (.int 1)) (.call (ix 19) (.cons (.var 0) (.cons (.con (.int 4)) .nil)))) .nil)))) (.seq (.ife (.cmp .eq (.call (ix 19) (.cons (.var 0) (.cons (.con (.int 2)) .nil))) (.con (.int 1))) (.seq (.asg (.nm 3) (.call (ix 40) (.cons (.var 2) (.cons (.call (ix 21) (.cons (.call (ix 19) (.cons (.var 0) (.cons (.con (.int 9)) .nil))) (.cons (.con (.int 9)) .nil))) .nil)))) (.asg (.nm 4) (.call (ix 40) (.cons (.var 2) (.cons (.call (ix 21) (.cons (.call (ix 19) (.cons (.var 0) (.cons (.con (.int 9)) .nil))) (.cons (.con (.int 9)) .nil))) .nil))))) .skip) (.ret (.tup (.cons (.call (ix 39) (.cons (.var 3) (.cons (.var 5) .nil))) (.cons (.call (ix 39) (.cons (.var 4) (.cons (.var 5) .nil))) (.cons (.call (ix 39) (.cons (.idx (.var 1) (.con (.int 1))) (.cons (.call (ix 39) (.cons (.var 3) (.cons (.var 4) .nil))) .nil))) .nil))))))))))⟩
def cb_law_some_days_2_1 (ix : Nat → Nat) : CS := (.seq (.asg (.nm 8) (.call (ix 19) (.cons (.var 0) (.cons (.con (.int 8)) .nil)))) (.seq (.asg (.nm 9) .nil) (.seq (.ife (.cmp .lt (.var 8) (.con (.int 2))) (.asg (.nm 9) .nil) .skip) (.seq (.ife (.cmp .eq (.var 8) (.con (.int 2))) (.asg (.nm 9) .edic) .skip) (.seq (.ife (.and (.cmp .eq (.var 8) (.con (.int 3))) (.var 6)) (.asg (.nm 9) (.call (ix 122) (.cons (.var 0) (.cons (.var 1) .nil)))) .skip) (.seq (.asg (.nm 10) (.call (ix 232) (.cons (.var 1) (.cons (.blt .tuple (.cons (.comp (.tup (.cons (.call (ix 21) (.cons (.var 11) (.cons (.con (.int 6)) .nil))) (.cons (.call (ix 21) (.cons (.idx (.idx (.var 9) (.var 11)) (.con (.int 0))) (.cons (.idx (.idx (.var 9) (.var 11)) (.con (.int 1))) .nil))) .nil))) (.nm 11) (.one (.blt .sorted (.cons (.var 9) .nil))) (.con (.bl true)) [11] false) .nil)) .nil)))) (.seq (.ife (.and (.cmp .eq (.var 8) (.con (.int 4))) (.cmp .ne (.var 5) (.lst .nil))) (.asg (.nm 10) (.idx (.var 5) (.call (ix 19) (.cons (.var 0) (.cons (.blt .len (.cons (.var 5) .nil)) .nil))))) .skip) (.expr (.mth .append (.var 5) (.cons (.var 10) .nil))))))))))
def cf_law_some_days_2 (ix : Nat → Nat) : CF := ⟨4, 12, (.seq (.asg (.nm 4) (.blt .sorted (.cons (.var 2) .nil))) (.seq (.asg (.tp (.cons (.nm 5) (.cons (.nm 6) .nil))) (.tup (.cons (.mlst .nil) (.cons (.cmp .eq (.call (ix 19) (.cons (.var 0) (.cons (.con (.int 3)) .nil))) (.con (.int 1))) .nil)))) (.seq (.fr (.nm 7) (.rng (.con (.int 0)) (.bin .add (.con (.int 1)) (.call (ix 19) (.cons (.var 0) (.cons (.var 3) .nil))))) (cb_law_some_days_2_1 ix)) (.ret (.blt .tuple (.cons (.var 5) .nil))))))⟩
def cf_cuts_taken_3 (ix : Nat → Nat) : CF := ⟨4, 11, (.seq (.ife (.or (.cmp .ne (.call (ix 196) (.cons (.var 0) (.cons (.var 1) .nil))) (.con (.str "two"))) (.or (.not (.call (ix 0) (.cons (.var 2) .nil))) (.or (.not (.isi (.var 3) .tup)) (.cmp .ne (.blt .len (.cons (.var 3) .nil)) (.con (.int 2)))))) (.ret (.con (.bl false))) .skip) (.seq (.ife (.or (.not (.call (ix 204) (.cons (.var 0) (.cons (.idx (.var 3) (.con (.int 0))) .nil)))) (.not (.call (ix 205) (.cons (.var 0) (.cons (.idx (.var 3) (.con (.int 1))) .nil))))) (.ret (.con (.bl false))) .skip) (.seq (.ife (.or (.cmp .ne (.blt .len (.cons (.idx (.var 3) (.con (.int 0))) .nil)) (.var 2)) (.cmp .ne (.blt .len (.cons (.idx (.var 3) (.con (.int 1))) .nil)) (.var 2))) (.ret (.con (.bl false))) .skip) (.seq (.asg (.nm 4) (.bin .add .nil (.tup (.cons (.call (ix 34) (.cons (.var 0) .nil)) .nil)))) (.seq (.asg (.nm 5) (.comp (.call (ix 43) (.cons (.var 0) (.cons (.tup (.cons (.var 7) (.cons (.con (.int 1)) .nil))) .nil))) (.nm 7) (.one (.call (ix 35) (.cons (.var 0) .nil))) (.con (.bl true)) [7] false)) (.seq (.asg (.nm 6) (.comp (.idx (.var 5) (.bin .sub (.var 8) (.con (.int 1)))) (.nm 8) (.one (.idx (.var 3) (.con (.int 0)))) (.con (.bl true)) [8] false)) (.seq (.ife (.not (.blt .all (.cons (.comp (.call (ix 203) (.cons (.var 4) (.cons (.var 6) (.cons (.var 9) .nil)))) (.nm 9) (.one (.var 5)) (.con (.bl true)) [9] false) .nil))) (.ret (.con (.bl false))) .skip) (.ret .nil))))))))⟩
def cb_pairs_that_fit_3_1 (ix : Nat → Nat) : CS := (.ife (.and (.not (.call (ix 9) (.cons (.var 6) (.cons (.con (.tup [(.int 0), (.int 1)])) .nil)))) (.and (.call (ix 9) (.cons (.var 6) (.cons (.var 7) .nil))) (.not (.call (ix 9) (.cons (.var 4) (.cons (.var 7) .nil)))))) (.seq (.asg (.nm 8) (.tup (.cons (.call (ix 44) (.cons (.var 0) (.cons (.var 6) .nil))) (.cons (.call (ix 44) (.cons (.var 0) (.cons (.var 7) .nil))) .nil)))) (.ife (.and (.cmp .notin (.var 8) (.var 5)) .nil) (.expr (.mth .append (.var 5) (.cons (.var 8) .nil))) .skip)) .skip)
def cf_pairs_that_fit_3 (ix : Nat → Nat) : CF := ⟨4, 9, (.seq (.asg (.nm 4) (.call (ix 34) (.cons (.var 0) .nil))) (.seq (.asg (.nm 5) (.mlst .nil)) (.seq (.fr (.tp (.cons (.nm 6) (.cons (.nm 7) .nil))) (.one (.call (ix 217) (.cons (.var 0) (.cons (.var 2) (.cons (.var 3) .nil))))) (cb_pairs_that_fit_3_1 ix)) (.seq (.ife (.and (.cmp .eq (.blt .len (.cons (.var 5) .nil)) (.con (.int 2))) (.call (ix 9) (.cons (.idx (.idx (.var 5) (.con (.int 1))) (.con (.int 0))) (.cons (.idx (.idx (.var 5) (.con (.int 0))) (.con (.int 0))) .nil)))) (.expr (.mth .reverse (.var 5) .nil)) .skip) (.seq (.ife (.and (.cmp .eq (.blt .len (.cons (.var 5) .nil)) (.con (.int 2))) (.and (.cmp .eq (.idx (.idx (.var 5) (.con (.int 1))) (.con (.int 0))) (.idx (.idx (.var 5) (.con (.int 0))) (.con (.int 0)))) (.call (ix 9) (.cons (.idx (.idx (.var 5) (.con (.int 1))) (.con (.int 1))) (.cons (.idx (.idx (.var 5) (.con (.int 0))) (.con (.int 1))) .nil))))) (.expr (.mth .reverse (.var 5) .nil)) .skip) (.ret (.blt .tuple (.cons (.var 5) .nil))))))))⟩
def cf_are_all_3 (ix : Nat → Nat) : CF := ⟨2, 9, (.seq (.asg (.tp (.cons (.nm 2) (.cons (.nm 3) (.cons (.nm 4) .nil)))) (.var 0)) (.seq (.ife (.or (.not (.call (ix 207) (.cons (.var 3) .nil))) (.not (.isi (.var 4) .tup))) (.ret (.con (.bl false))) .skip) (.seq (.ife (.blt .any (.cons (.comp (.cmp .eq (.call (ix 196) (.cons (.var 2) (.cons (.var 7) .nil))) (.con (.str "wrong"))) (.nm 7) (.one (.var 3)) (.con (.bl true)) [7] false) .nil)) (.ret (.con (.bl false))) .skip) (.seq (.ife (.or (.not (.isi (.var 1) .tup)) (.or (.cmp .ne (.blt .len (.cons (.var 1) .nil)) (.con (.int 2))) (.not (.blt .all (.cons (.comp (.call (ix 218) (.cons (.var 5) (.cons (.blt .len (.cons (.var 3) .nil)) .nil))) (.nm 5) (.one (.var 1)) (.con (.bl true)) [5] false) .nil))))) (.ret (.con (.bl false))) .skip) (.seq (.ife (.not (.blt .all (.cons (.comp (.and (.call (ix 208) (.cons (.var 2) (.cons (.var 8) .nil))) (.cmp .eq (.blt .len (.cons (.var 8) .nil)) (.con (.int 2)))) (.nm 8) (.one (.var 4)) (.con (.bl true)) [8] false) .nil))) (.ret (.con (.bl false))) .skip) (.seq (.asg (.tp (.cons (.nm 5) (.cons (.nm 6) .nil))) (.tup (.cons (.idx (.var 3) (.idx (.var 1) (.con (.int 0)))) (.cons (.idx (.var 3) (.idx (.var 1) (.con (.int 1)))) .nil)))) (.ret (.and (.call (ix 214) (.cons (.var 2) (.cons (.var 5) (.cons (.var 6) .nil)))) (.cmp .eq (.call (ix 238) (.cons (.var 2) (.cons (.var 3) (.cons (.var 5) (.cons (.var 6) .nil))))) (.var 4))))))))))⟩
def cf_clash_together_3 (ix : Nat → Nat) : CF := ⟨2, 5, (.seq (.asg (.nm 2) (.comp (.var 4) (.nm 4) (.one (.var 1)) (.not (.call (ix 194) (.cons (.var 0) (.cons (.var 4) .nil)))) [4] false)) (.seq (.ife (.blt .any (.cons (.comp (.cmp .eq (.call (ix 196) (.cons (.var 0) (.cons (.var 4) .nil))) (.con (.str "wrong"))) (.nm 4) (.one (.var 2)) (.con (.bl true)) [4] false) .nil)) (.ret (.con (.bl true))) .skip) (.seq (.asg (.nm 3) (.comp (.var 4) (.nm 4) (.one (.var 2)) (.call (ix 214) (.cons (.var 0) (.cons (.idx (.var 2) (.con (.int 0))) (.cons (.var 4) .nil)))) [4] false)) (.ret (.and (.cmp .ne (.var 3) (.lst .nil)) (.cmp .eq (.call (ix 238) (.cons (.var 0) (.cons (.var 1) (.cons (.idx (.var 2) (.con (.int 0))) (.cons (.idx (.var 3) (.con (.int 0))) .nil))))) (.tup .nil)))))))⟩
def cb_do_clash_3_1 (ix : Nat → Nat) : CS := (.ife (.not .nil) (.ret (.con (.bl false))) .skip)
def cf_do_clash_3 (ix : Nat → Nat) : CF := ⟨2, 8, (.seq (.asg (.tp (.cons (.nm 2) (.cons (.nm 3) (.cons (.nm 4) .nil)))) (.var 0)) (.seq (.ife (.or (.not (.call (ix 207) (.cons (.var 3) .nil))) (.not (.call (ix 219) (.cons (.var 3) (.cons (.var 4) .nil))))) (.ret (.con (.bl false))) .skip) (.seq (.ife (.or (.not (.isi (.var 1) .tup)) (.cmp .ne (.blt .len (.cons (.var 1) .nil)) (.blt .len (.cons (.var 4) .nil)))) (.ret (.con (.bl false))) .skip) (.seq (.ife (.not (.blt .all (.cons (.comp (.call (ix 208) (.cons (.var 2) (.cons (.var 6) .nil))) (.nm 6) (.one (.var 1)) (.con (.bl true)) [6] false) .nil))) (.ret (.con (.bl false))) .skip) (.seq (.ife (.not (.call (ix 240) (.cons (.var 2) (.cons (.comp (.idx (.var 3) (.var 5)) (.nm 5) (.one (.var 4)) (.con (.bl true)) [5] false) .nil)))) (.ret (.con (.bl false))) .skip) (.seq (.fr (.tp (.cons (.nm 5) (.cons (.nm 6) .nil))) (.one .nil) (cb_do_clash_3_1 ix)) (.ret (.con (.bl true)))))))))⟩
def cf_day_taken_3 (ix : Nat → Nat) : CF := ⟨5, 5, (.seq (.ife (.cmp .eq (.var 0) (.con (.str "one"))) (.ret (.and (.cmp .is (.var 4) (.con .non)) (.call (ix 197) (.cons (.var 1) (.cons (.var 2) (.cons (.var 3) .nil)))))) .skip) (.seq (.ife (.cmp .eq (.var 0) (.con (.str "pair"))) (.ret (.call (ix 198) (.cons (.var 1) (.cons (.var 2) (.cons (.var 3) (.cons (.var 4) .nil)))))) .skip) (.seq (.ife (.cmp .eq (.var 0) (.con (.str "cuts"))) (.ret (.call (ix 237) (.cons (.var 1) (.cons (.var 2) (.cons (.var 3) (.cons (.var 4) .nil)))))) .skip) (.ret (.call (ix 227) (.cons (.var 1) (.cons (.var 2) (.cons (.var 3) (.cons (.var 4) .nil)))))))))⟩
def cf_days_taken_3 (ix : Nat → Nat) : CF := ⟨3, 3, (.seq (.ife (.cmp .eq (.var 0) (.con (.str "fits"))) (.ret (.call (ix 210) (.cons (.var 1) (.cons (.var 2) .nil)))) .skip) (.seq (.ife (.cmp .eq (.var 0) (.con (.str "all"))) (.ret (.call (ix 239) (.cons (.var 1) (.cons (.var 2) .nil)))) .skip) (.ret (.and (.cmp .eq (.var 0) (.con (.str "clash"))) (.call (ix 241) (.cons (.var 1) (.cons (.var 2) .nil)))))))⟩
def cf_holds_3 (ix : Nat → Nat) : CF := ⟨2, 5, (.seq (.ife (.or (.not (.isi (.var 0) .tup)) (.or (.cmp .notin (.blt .len (.cons (.var 0) .nil)) (.tup (.cons (.con (.int 3)) (.cons (.con (.int 4)) .nil)))) (.not (.isi (.idx (.var 0) (.con (.int 0))) .str)))) (.ret (.con (.bl false))) .skip) (.seq (.asg (.tp (.cons (.nm 2) (.cons (.nm 3) (.cons (.nm 4) .nil)))) (.sl (.var 0) .nil (.one (.con (.int 3))))) (.seq (.ife (.not (.call (ix 31) (.cons (.var 3) .nil))) (.ret (.con (.bl false))) .skip) (.seq (.ife (.cmp .eq (.blt .len (.cons (.var 0) .nil)) (.con (.int 3))) (.ret (.and (.cmp .isin (.var 2) (.con (.tup [(.str "sound"), (.str "wrong")]))) (.and (.call (ix 191) (.cons (.var 4) .nil)) (.call (ix 228) (.cons (.var 2) (.cons (.var 3) (.cons (.var 4) (.cons (.var 1) .nil)))))))) .skip) (.seq (.ife (.cmp .isin (.var 2) (.con (.tup [(.str "one"), (.str "pair"), (.str "cuts"), (.str "lamp")]))) (.ret (.and (.call (ix 191) (.cons (.var 4) .nil)) (.call (ix 242) (.cons (.var 2) (.cons (.var 3) (.cons (.var 4) (.cons (.idx (.var 0) (.con (.int 3))) (.cons (.var 1) .nil)))))))) .skip) (.ret (.call (ix 243) (.cons (.var 2) (.cons (.sl (.var 0) (.one (.con (.int 1))) .nil) (.cons (.var 1) .nil))))))))))⟩
def cf_west_span_2 (ix : Nat → Nat) : CF := ⟨2, 2, (.seq (.expr (.call (ix 32) (.cons (.var 0) .nil))) (.ret (.call (ix 115) (.cons (.var 0) (.cons (.idx (.call (ix 111) (.cons (.var 0) (.cons (.call (ix 230) (.cons (.var 0) (.cons (.var 1) .nil))) .nil))) (.con (.int 0))) .nil)))))⟩
def cf_two_drags_2 (ix : Nat → Nat) : CF := ⟨3, 12, (.seq (.asg (.tp (.cons (.nm 3) (.cons (.nm 4) (.cons (.nm 5) (.cons (.nm 6) .nil))))) .nil) (.seq (.asg (.tp (.cons (.nm 7) (.cons (.nm 8) .nil))) (.tup (.cons (.call (ix 43) (.cons (.var 0) (.cons (.idx (.var 2) (.con (.int 0))) .nil))) (.cons (.call (ix 43) (.cons (.var 0) (.cons (.idx (.var 2) (.con (.int 1))) .nil))) .nil)))) (.seq (.asg (.tp (.cons (.nm 9) (.cons (.nm 10) .nil))) (.tup (.cons (.call (ix 6) (.cons (.var 3) (.cons (.var 7) .nil))) (.cons (.call (ix 6) (.cons (.var 4) (.cons (.call (ix 6) (.cons (.call (ix 34) (.cons (.var 0) .nil)) (.cons (.var 8) .nil))) .nil))) .nil)))) (.seq (.ife (.or (.not (.call (ix 9) (.cons (.con (.tup [(.int 0), (.int 1)])) (.cons (.var 9) .nil)))) (.or (.not (.call (ix 9) (.cons (.con (.tup [(.int 0), (.int 1)])) (.cons (.var 10) .nil)))) (.cmp .ne (.call (ix 7) (.cons (.var 9) (.cons (.var 10) .nil))) (.call (ix 7) (.cons (.var 5) (.cons (.var 6) .nil)))))) (.ret (.con .non)) .skip) (.seq (.asg (.nm 11) (.call (ix 8) (.cons (.call (ix 6) (.cons (.var 8) (.cons (.var 7) .nil))) (.cons (.var 6) .nil)))) (.ret (.tup (.cons (.call (ix 7) (.cons (.var 9) (.cons (.var 11) .nil))) (.cons (.call (ix 7) (.cons (.var 10) (.cons (.var 11) .nil))) .nil)))))))))⟩
def cf_fits_by_2 (ix : Nat → Nat) : CF := ⟨3, 5, (.seq (.asg (.nm 3) (.call (ix 229) (.cons (.var 0) (.cons (.var 1) .nil)))) (.seq (.ife (.cmp .eq (.idx (.var 3) (.con (.int 0))) (.con (.str "sound"))) (.ret (.bin .mul (.tup (.cons (.con .non) .nil)) (.blt .len (.cons (.var 2) .nil)))) .skip) (.seq (.ife (.and (.cmp .eq (.idx (.var 3) (.con (.int 0))) (.con (.str "one"))) (.cmp .isin (.idx (.idx (.var 3) (.con (.int 1))) (.con (.int 0))) (.var 2))) (.ret (.blt .tuple (.cons (.comp (.ife (.cmp .eq (.var 4) (.idx (.idx (.var 3) (.con (.int 1))) (.con (.int 0)))) (.idx (.idx (.var 3) (.con (.int 1))) (.con (.int 1))) (.con .non)) (.nm 4) (.one (.var 2)) (.con (.bl true)) [4] false) .nil))) .skip) (.seq (.ife (.and (.cmp .eq (.idx (.var 3) (.con (.int 0))) (.con (.str "two"))) (.cmp .eq (.blt .len (.cons (.var 2) .nil)) (.con (.int 2)))) (.ret (.call (ix 246) (.cons (.var 0) (.cons (.var 1) (.cons (.var 2) .nil))))) .skip) (.ret (.con .non))))))⟩
def cf_fit_all_4 (ix : Nat → Nat) : CF := ⟨3, 4, (.ret (.blt .all (.cons (.comp (.cmp .isnot (.call (ix 247) (.cons (.var 0) (.cons (.var 3) (.cons (.var 2) .nil)))) (.con .non)) (.nm 3) (.one (.var 1)) (.con (.bl true)) [3] false) .nil)))⟩
def cf_are_apart_3 (ix : Nat → Nat) : CF := ⟨3, 5, (.seq (.ife (.cmp .eq (.var 1) (.var 2)) (.ret (.con (.bl false))) .skip) (.seq (.asg (.tp (.cons (.nm 3) (.cons (.nm 4) .nil))) (.tup (.cons (.call (ix 229) (.cons (.var 0) (.cons (.var 1) .nil))) (.cons (.call (ix 229) (.cons (.var 0) (.cons (.var 2) .nil))) .nil)))) (.ret (.or (.cmp .eq (.idx (.var 3) (.con (.int 0))) (.con (.str "two"))) (.or (.cmp .eq (.idx (.var 4) (.con (.int 0))) (.con (.str "two"))) (.cmp .ne (.idx (.idx (.var 3) (.con (.int 1))) (.con (.int 0))) (.idx (.idx (.var 4) (.con (.int 1))) (.con (.int 0)))))))))⟩
def cf_drags_by_2 (ix : Nat → Nat) : CF := ⟨3, 5, (.seq (.expr (.call (ix 32) (.cons (.var 0) .nil))) (.seq (.expr (.call (ix 152) (.cons (.var 1) .nil))) (.seq (.expr (.call (ix 173) (.cons (.var 0) (.cons (.var 2) .nil)))) (.seq (.asg (.nm 3) (.blt .tuple (.cons (.comp (.call (ix 247) (.cons (.var 0) (.cons (.var 4) (.cons (.var 2) .nil)))) (.nm 4) (.one (.var 1)) (.con (.bl true)) [4] false) .nil))) (.seq (.ife (.cmp .isin (.con .non) (.var 3)) (.ret (.con .non)) .skip) (.ret (.var 3)))))))⟩
def cf_pair_of (ix : Nat → Nat) : CF := ⟨2, 2, (.ret (.call (ix 231) (.cons (.var 0) (.cons (.var 1) (.cons (.idx (.call (ix 245) (.cons (.var 0) (.cons (.var 1) .nil))) (.con (.int 0))) .nil)))))⟩
def cf_unlike_days (ix : Nat → Nat) : CF := ⟨2, 5, (.seq (.asg (.nm 2) (.comp (.var 4) (.nm 4) (.rng (.con (.int 0)) (.blt .len (.cons (.var 1) .nil))) (.cmp .ne (.call (ix 229) (.cons (.var 0) (.cons (.idx (.var 1) (.var 4)) .nil))) (.tup (.cons (.con (.str "sound")) .nil))) [4] false)) (.seq (.asg (.nm 3) (.idx (.var 2) (.con (.int 0)))) (.ret (.tup (.cons (.var 3) (.cons (.idx (.comp (.var 4) (.nm 4) (.one (.var 2)) .nil [4] false) (.con (.int 0))) .nil))))))⟩
def cf_kind_of_2 (ix : Nat → Nat) : CF := ⟨2, 2, (.seq (.expr (.call (ix 32) (.cons (.var 0) .nil))) (.seq (.expr (.call (ix 100) (.cons (.var 1) .nil))) (.ret (.call (ix 229) (.cons (.var 0) (.cons (.var 1) .nil))))))⟩
def cf_next_cut_2 (ix : Nat → Nat) : CF := ⟨4, 7, (.seq (.asg (.nm 4) (.comp (.var 6) (.nm 6) (.rng (.con (.int 0)) (.blt .len (.cons (.var 0) .nil))) (.not (.call (ix 9) (.cons (.idx (.var 0) (.var 6)) (.cons (.var 3) .nil)))) [6] false)) (.seq (.ife (.and (.cmp .ne (.var 4) (.lst .nil)) (.call (ix 9) (.cons (.idx (.var 0) (.idx (.var 4) (.con (.int 0)))) (.cons .nil .nil)))) (.ret (.tup (.cons (.idx (.var 4) (.con (.int 0))) (.cons (.var 3) .nil)))) .skip) (.seq (.asg (.nm 5) (.bin .sub (.blt .len (.cons (.var 0) .nil)) (.blt .len (.cons (.var 4) .nil)))) (.seq (.ife (.cmp .eq (.var 5) (.con (.int 0))) (.ret (.con .non)) .skip) (.ret (.tup (.cons (.bin .sub (.var 5) (.con (.int 1))) (.cons (.idx (.var 0) (.bin .sub (.var 5) (.con (.int 1)))) .nil))))))))⟩
def cb_cover_by_2_1 (ix : Nat → Nat) : CS := (.seq (.asg (.nm 7) (.call (ix 254) (.cons (.var 3) (.cons (.var 2) (.cons (.var 1) (.cons (.var 6) .nil)))))) (.seq (.ife (.cmp .is (.var 7) (.con .non)) .brk .skip) (.seq (.expr (.mth .append (.var 4) (.cons (.bin .add (.idx (.var 7) (.con (.int 0))) (.con (.int 1))) .nil))) (.seq (.expr (.mth .append (.var 5) (.cons (.idx (.var 7) (.con (.int 1))) .nil))) (.asg (.nm 6) .nil)))))
def cf_cover_by_2 (ix : Nat → Nat) : CF := ⟨2, 9, (.seq (.asg (.nm 2) (.call (ix 34) (.cons (.var 0) .nil))) (.seq (.asg (.nm 3) (.comp (.call (ix 43) (.cons (.var 0) (.cons (.tup (.cons (.var 8) (.cons (.con (.int 1)) .nil))) .nil))) (.nm 8) (.one (.call (ix 35) (.cons (.var 0) .nil))) (.con (.bl true)) [8] false)) (.seq (.asg (.tp (.cons (.nm 4) (.cons (.nm 5) .nil))) (.tup (.cons (.mlst .nil) (.cons (.mlst .nil) .nil)))) (.seq (.asg (.nm 6) (.call (ix 6) (.cons (.idx (.var 1) (.con (.int 0))) (.cons (.call (ix 8) (.cons (.call (ix 7) (.cons (.idx (.var 1) (.con (.int 2))) (.cons (.idx (.var 1) (.con (.int 3))) .nil))) (.cons (.idx (.var 1) (.con (.int 1))) .nil))) .nil)))) (.seq (.whl (.and (.cmp .isnot (.var 6) (.con .non)) (.not (.call (ix 9) (.cons (.var 6) (.cons (.con (.tup [(.int 0), (.int 1)])) .nil))))) (cb_cover_by_2_1 ix)) (.seq (.expr (.mth .reverse (.var 4) .nil)) (.seq (.expr (.mth .reverse (.var 5) .nil)) (.ret (.tup (.cons (.blt .tuple (.cons (.var 4) .nil)) (.cons (.blt .tuple (.cons (.var 5) .nil)) .nil)))))))))))⟩
def cf_cover_of_3 (ix : Nat → Nat) : CF := ⟨2, 6, (.seq (.expr (.call (ix 32) (.cons (.var 0) .nil))) (.seq (.asg (.nm 2) (.call (ix 230) (.cons (.var 0) (.cons (.var 1) .nil)))) (.seq (.asg (.tp (.cons (.nm 3) (.cons (.nm 4) .nil))) (.call (ix 255) (.cons (.var 0) (.cons (.var 2) .nil)))) (.ret (.tup (.cons (.var 3) (.cons (.blt .tuple (.cons (.comp (.call (ix 44) (.cons (.var 0) (.cons (.var 5) .nil))) (.nm 5) (.one (.var 4)) (.con (.bl true)) [5] false) .nil)) .nil)))))))⟩
def cf_marks_of (ix : Nat → Nat) : CF := ⟨3, 6, (.seq (.asg (.nm 3) (.call (ix 6) (.cons (.idx (.var 2) (.con (.int 0))) (.cons (.call (ix 8) (.cons (.call (ix 7) (.cons (.idx (.var 2) (.con (.int 2))) (.cons (.idx (.var 2) (.con (.int 3))) .nil))) (.cons (.idx (.var 2) (.con (.int 1))) .nil))) .nil)))) (.seq (.asg (.nm 4) (.bin .add (.bin .add (.lst (.cons (.con (.tup [(.int 0), (.int 1)])) (.cons (.var 3) .nil))) (.comp .nil (.nm 5) (.one (.var 0)) (.con (.bl true)) [5] false)) (.blt .list (.cons (.var 0) .nil)))) (.ret (.comp (.var 5) (.nm 5) (.one (.var 4)) (.and (.cmp .isnot (.var 5) (.con .non)) (.and (.not (.call (ix 9) (.cons (.var 5) (.cons (.con (.tup [(.int 0), (.int 1)])) .nil)))) (.not (.call (ix 9) (.cons (.var 3) (.cons (.var 5) .nil)))))) [5] false))))⟩
def cb_ways_by_1 (ix : Nat → Nat) : CS := (.seq (.asg (.nm 6) .nil) (.seq (.asg (.nm 7) (.blt .len (.cons (.comp (.var 9) (.nm 9) (.one (.var 3)) (.call (ix 9) (.cons (.var 9) (.cons (.var 5) .nil))) [9] false) .nil))) (.set (.var 4) (.tup (.cons (.var 7) (.cons (.blt .len (.cons (.comp (.var 9) (.nm 9) (.one (.var 3)) (.call (ix 9) (.cons (.var 9) (.cons (.var 6) .nil))) [9] false) .nil)) .nil))) (.con (.bl true)))))
def cf_ways_by (ix : Nat → Nat) : CF := ⟨2, 10, (.seq (.asg (.nm 2) (.call (ix 34) (.cons (.var 0) .nil))) (.seq (.asg (.nm 3) (.comp (.call (ix 43) (.cons (.var 0) (.cons (.tup (.cons (.var 8) (.cons (.con (.int 1)) .nil))) .nil))) (.nm 8) (.one (.call (ix 35) (.cons (.var 0) .nil))) (.con (.bl true)) [8] false)) (.seq (.asg (.nm 4) .mdk) (.seq (.fr (.nm 5) (.one (.call (ix 257) (.cons (.var 3) (.cons (.var 2) (.cons (.var 1) .nil))))) (cb_ways_by_1 ix)) (.ret (.blt .tuple (.cons (.blt .sorted (.cons (.var 4) .nil)) .nil)))))))⟩
def cf_answer_of (ix : Nat → Nat) : CF := ⟨2, 2, (.seq (.ife (.cmp .lt (.idx (.var 0) (.con (.int 1))) (.var 1)) (.ret (.con (.int 0))) .skip) (.ret (.bin .add (.con (.int 1)) (.blt .int (.cons (.cmp .ge (.idx (.var 0) (.con (.int 0))) (.var 1)) .nil)))))⟩
def cb_stretches_left_1 (ix : Nat → Nat) : CS := (.seq (.asg (.nm 6) (.call (ix 259) (.cons (.idx (.var 0) (.var 5)) (.cons (.var 3) .nil)))) (.seq (.ife (.cmp .is (.idx (.var 4) (.var 6)) (.con .non)) (.set (.var 4) (.var 6) (.tup (.cons (.var 5) (.cons (.var 5) .nil)))) .skip) (.set (.var 4) (.var 6) (.tup (.cons (.idx (.idx (.var 4) (.var 6)) (.con (.int 0))) (.cons (.var 5) .nil))))))
def cf_stretches_left (ix : Nat → Nat) : CF := ⟨4, 7, (.seq (.asg (.nm 4) (.mlst (.cons (.con .non) (.cons (.con .non) (.cons (.con .non) .nil))))) (.seq (.fr (.nm 5) (.rng (.var 1) (.bin .add (.var 2) (.con (.int 1)))) (cb_stretches_left_1 ix)) (.retF 4)))⟩
def cf_needed_by (ix : Nat → Nat) : CF := ⟨2, 3, (.ret (.blt .max (.cons (.comp (.idx (.idx (.var 0) (.var 2)) (.con (.int 0))) (.nm 2) (.one (.var 1)) (.cmp .isnot (.var 2) (.con .non)) [2] false) .nil)))⟩
def cb_table_by_1 (ix : Nat → Nat) : CS := (.seq (.asg (.nm 7) (.call (ix 260) (.cons (.var 0) (.cons (.var 4) (.cons (.var 5) (.cons (.var 6) .nil)))))) (.ife (.and (.cmp .gt (.var 3) (.con (.int 0))) (.cmp .notin (.tup (.cons (.var 4) (.cons (.var 5) .nil))) (.var 7))) (.seq (.asg (.nm 8) (.bin .add (.con (.int 1)) (.call (ix 261) (.cons (.var 2) (.cons (.var 7) .nil))))) (.ife (.cmp .lt (.var 8) (.idx (.idx (.var 2) (.tup (.cons (.var 4) (.cons (.var 5) .nil)))) (.con (.int 0)))) (.set (.var 2) (.tup (.cons (.var 4) (.cons (.var 5) .nil))) (.tup (.cons (.var 8) (.cons (.var 6) .nil)))) .skip)) .skip))
def cb_table_by_2 (ix : Nat → Nat) : CS := (.seq (.asg (.nm 5) (.bin .add (.var 4) (.var 3))) (.seq (.set (.var 2) (.tup (.cons (.var 4) (.cons (.var 5) .nil))) (.tup (.cons (.con (.int 0)) (.cons (.con (.int 0)) .nil)))) (.seq (.ife (.cmp .gt (.var 3) (.con (.int 0))) (.set (.var 2) (.tup (.cons (.var 4) (.cons (.var 5) .nil))) (.tup (.cons (.blt .len (.cons (.var 0) .nil)) (.cons (.con (.int 0)) .nil)))) .skip) (.fr (.nm 6) (.rng (.con (.int 1)) (.bin .add (.var 1) (.con (.int 1)))) (cb_table_by_1 ix)))))
def cb_table_by_3 (ix : Nat → Nat) : CS := (.fr (.nm 4) (.rng (.con (.int 0)) (.bin .sub (.blt .len (.cons (.var 0) .nil)) (.var 3))) (cb_table_by_2 ix))
def cf_table_by (ix : Nat → Nat) : CF := ⟨2, 9, (.seq (.asg (.nm 2) .mdk) (.seq (.fr (.nm 3) (.rng (.con (.int 0)) (.blt .len (.cons (.var 0) .nil))) (cb_table_by_3 ix)) (.retF 2)))⟩
def cf_all_ways (ix : Nat → Nat) : CF := ⟨2, 2, (.seq (.expr (.call (ix 32) (.cons (.var 0) .nil))) (.ret (.call (ix 258) (.cons (.var 0) (.cons (.call (ix 230) (.cons (.var 0) (.cons (.var 1) .nil))) .nil)))))⟩
def cf_ways_of (ix : Nat → Nat) : CF := ⟨2, 2, (.ret (.call (ix 263) (.cons (.var 0) (.cons (.var 1) .nil))))⟩
def cf_lamp_needed (ix : Nat → Nat) : CF := ⟨2, 3, (.seq (.asg (.nm 2) (.call (ix 263) (.cons (.var 0) (.cons (.var 1) .nil)))) (.ret (.idx (.idx (.call (ix 262) (.cons (.var 2) (.cons (.bin .sub (.blt .len (.cons (.idx (.var 0) (.con (.int 0))) .nil)) (.con (.int 1))) .nil))) (.tup (.cons (.con (.int 0)) (.cons (.bin .sub (.blt .len (.cons (.var 2) .nil)) (.con (.int 1))) .nil)))) (.con (.int 0)))))⟩
def cf_plan_by (ix : Nat → Nat) : CF := ⟨3, 7, (.seq (.ife (.cmp .is (.var 2) (.con .non)) (.ret (.con .non)) .skip) (.seq (.asg (.tp (.cons (.nm 3) (.cons (.nm 4) .nil))) (.idx (.var 1) (.var 2))) (.seq (.ife (.cmp .eq (.var 3) (.con (.int 0))) (.ret (.tup .nil)) .skip) (.seq (.asg (.nm 5) (.call (ix 260) (.cons (.var 0) (.cons (.idx (.var 2) (.con (.int 0))) (.cons (.idx (.var 2) (.con (.int 1))) (.cons (.var 4) .nil)))))) (.ret (.bin .add (.tup (.cons (.var 4) .nil)) (.blt .tuple (.cons (.comp (.call (ix 0) (.cons (.var 0) (.cons (.var 1) (.cons (.var 6) .nil)))) (.nm 6) (.one (.var 5)) (.con (.bl true)) [6] false) .nil))))))))⟩
def cf_lamp_plan (ix : Nat → Nat) : CF := ⟨2, 3, (.seq (.asg (.nm 2) (.call (ix 263) (.cons (.var 0) (.cons (.var 1) .nil)))) (.ret (.call (ix 266) (.cons (.var 2) (.cons (.call (ix 262) (.cons (.var 2) (.cons (.bin .sub (.blt .len (.cons (.idx (.var 0) (.con (.int 0))) .nil)) (.con (.int 1))) .nil))) (.cons (.tup (.cons (.con (.int 0)) (.cons (.bin .sub (.blt .len (.cons (.var 2) .nil)) (.con (.int 1))) .nil))) .nil))))))⟩
def cb_pairs_of_two_2_1 (ix : Nat → Nat) : CS := (.seq (.asg (.nm 9) (.call (ix 6) (.cons (.idx (.var 1) (.con (.int 0))) (.cons (.var 8) .nil)))) (.expr (.mth .append (.var 7) (.cons (.tup (.cons (.var 9) (.cons .nil .nil))) .nil))))
def cf_pairs_of_two_2 (ix : Nat → Nat) : CF := ⟨3, 10, (.seq (.asg (.tp (.cons (.nm 3) (.cons (.nm 4) .nil))) (.tup (.cons (.call (ix 6) (.cons (.idx (.var 2) (.con (.int 0))) (.cons (.idx (.var 1) (.con (.int 0))) .nil))) (.cons (.call (ix 6) (.cons (.idx (.var 2) (.con (.int 1))) (.cons (.idx (.var 1) (.con (.int 1))) .nil))) .nil)))) (.seq (.asg (.tp (.cons (.nm 5) (.cons (.nm 6) .nil))) (.tup (.cons (.call (ix 7) (.cons (.idx (.var 1) (.con (.int 2))) (.cons (.idx (.var 1) (.con (.int 3))) .nil))) (.cons (.call (ix 7) (.cons (.idx (.var 2) (.con (.int 2))) (.cons (.idx (.var 2) (.con (.int 3))) .nil))) .nil)))) (.seq (.asg (.nm 7) (.mlst .nil)) (.seq (.fr (.nm 8) (.one (.call (ix 157) (.cons (.var 4) (.cons (.call (ix 6) (.cons (.call (ix 5) (.cons (.call (ix 7) (.cons (.var 4) (.cons (.var 3) .nil))) (.cons (.var 5) .nil))) (.cons (.var 6) .nil))) (.cons (.call (ix 7) (.cons (.var 5) (.cons (.var 3) .nil))) .nil))))) (cb_pairs_of_two_2_1 ix)) (.retF 7)))))⟩
def cf_pairs_with_2 (ix : Nat → Nat) : CF := ⟨3, 3, (.ret (.lst (.cons (.tup (.cons (.var 2) (.cons .nil .nil))) (.cons (.tup (.cons .nil (.cons (.var 2) .nil))) .nil))))⟩
def cf_pairs_of_3 (ix : Nat → Nat) : CF := ⟨3, 9, (.seq (.asg (.tp (.cons (.nm 3) (.cons (.nm 4) .nil))) (.tup (.cons (.call (ix 229) (.cons (.var 0) (.cons (.var 1) .nil))) (.cons (.call (ix 229) (.cons (.var 0) (.cons (.var 2) .nil))) .nil)))) (.seq (.ife (.and (.cmp .eq (.idx (.var 3) (.con (.int 0))) (.con (.str "one"))) (.cmp .eq (.idx (.var 4) (.con (.int 0))) (.con (.str "one")))) (.seq (.asg (.nm 5) (.tup (.cons (.idx (.idx (.var 3) (.con (.int 1))) (.con (.int 0))) (.cons (.idx (.idx (.var 4) (.con (.int 1))) (.con (.int 0))) .nil)))) (.ret (.lst (.cons (.ife (.call (ix 9) (.cons (.idx (.var 5) (.con (.int 0))) (.cons (.idx (.var 5) (.con (.int 1))) .nil))) (.var 5) (.rev (.var 5))) .nil)))) .skip) (.seq (.ife (.cmp .eq (.idx (.var 3) (.con (.int 0))) (.con (.str "one"))) (.asg (.nm 6) (.call (ix 269) (.cons (.var 0) (.cons .nil (.cons (.call (ix 43) (.cons (.var 0) (.cons (.idx (.idx (.var 3) (.con (.int 1))) (.con (.int 0))) .nil))) .nil))))) (.ife (.cmp .eq (.idx (.var 4) (.con (.int 0))) (.con (.str "one"))) (.asg (.nm 6) (.call (ix 269) (.cons (.var 0) (.cons .nil (.cons (.call (ix 43) (.cons (.var 0) (.cons (.idx (.idx (.var 4) (.con (.int 1))) (.con (.int 0))) .nil))) .nil))))) (.asg (.nm 6) (.call (ix 268) (.cons (.var 0) (.cons .nil (.cons .nil .nil))))))) (.ret (.comp (.tup (.cons (.call (ix 44) (.cons (.var 0) (.cons (.var 7) .nil))) (.cons (.call (ix 44) (.cons (.var 0) (.cons (.var 8) .nil))) .nil))) (.tp (.cons (.nm 7) (.cons (.nm 8) .nil))) (.one (.var 6)) (.and (.cmp .isnot (.var 7) (.con .non)) (.cmp .isnot (.var 8) (.con .non))) [7, 8] false)))))⟩
def cb_pairs_told_3_1 (ix : Nat → Nat) : CS := (.ife (.and (.cmp .notin (.var 5) (.var 4)) .nil) (.expr (.mth .append (.var 4) (.cons (.var 5) .nil))) .skip)
def cf_pairs_told_3 (ix : Nat → Nat) : CF := ⟨4, 6, (.seq (.asg (.nm 4) (.mlst .nil)) (.seq (.fr (.nm 5) (.one (.call (ix 270) (.cons (.var 0) (.cons (.var 2) (.cons (.var 3) .nil))))) (cb_pairs_told_3_1 ix)) (.seq (.ife (.and (.cmp .eq (.blt .len (.cons (.var 4) .nil)) (.con (.int 2))) (.call (ix 162) (.cons (.idx (.var 4) (.con (.int 1))) (.cons (.idx (.var 4) (.con (.int 0))) .nil)))) (.asg (.nm 4) (.rev (.var 4))) .skip) (.ret (.blt .tuple (.cons (.var 4) .nil))))))⟩
def cf_telling_by_3 (ix : Nat → Nat) : CF := ⟨2, 10, (.seq (.asg (.nm 2) (.comp (.call (ix 229) (.cons (.var 0) (.cons (.var 7) .nil))) (.nm 7) (.one (.var 1)) (.con (.bl true)) [7] false)) (.seq (.asg (.nm 3) (.comp (.var 8) (.nm 8) (.rng (.con (.int 0)) (.blt .len (.cons (.var 1) .nil))) (.cmp .ne (.idx (.var 2) (.var 8)) (.tup (.cons (.con (.str "sound")) .nil))) [8] false)) (.seq (.ife (.cmp .eq (.var 3) (.lst .nil)) (.ret (.tup (.cons (.con (.str "sound")) .nil))) .skip) (.seq (.ife (.cmp .isin (.con (.str "wrong")) (.comp (.idx (.var 9) (.con (.int 0))) (.nm 9) (.one (.var 2)) (.con (.bl true)) [9] false)) (.ret (.tup (.cons (.con (.str "clash")) .nil))) .skip) (.seq (.asg (.nm 4) (.idx (.var 3) (.con (.int 0)))) (.seq (.asg (.nm 5) (.comp (.var 8) (.nm 8) (.one (.var 3)) .nil [8] false)) (.seq (.ife (.and (.cmp .eq (.var 5) (.lst .nil)) (.cmp .eq (.idx (.idx (.var 2) (.var 4)) (.con (.int 0))) (.con (.str "one")))) (.ret (.tup (.cons (.con (.str "one")) (.cons (.idx (.idx (.idx (.var 2) (.var 4)) (.con (.int 1))) (.con (.int 0))) .nil)))) .skip) (.seq (.ife (.cmp .eq (.var 5) (.lst .nil)) (.ret (.tup (.cons (.con (.str "curve")) (.cons (.var 4) .nil)))) .skip) (.seq (.asg (.nm 6) (.call (ix 271) (.cons (.var 0) (.cons (.var 1) (.cons (.idx (.var 1) (.var 4)) (.cons (.idx (.var 1) (.idx (.var 5) (.con (.int 0)))) .nil)))))) (.seq (.ife (.cmp .eq (.var 6) (.tup .nil)) (.ret (.tup (.cons (.con (.str "clash")) .nil))) .skip) (.ret (.tup (.cons (.con (.str "pairs")) (.cons (.var 6) .nil))))))))))))))⟩
def cf_telling_3 (ix : Nat → Nat) : CF := ⟨2, 2, (.seq (.expr (.call (ix 32) (.cons (.var 0) .nil))) (.seq (.expr (.call (ix 152) (.cons (.var 1) .nil))) (.ret (.call (ix 272) (.cons (.var 0) (.cons (.var 1) .nil))))))⟩
def cb_clash_by_3_1 (ix : Nat → Nat) : CS := (.seq (.asg (.nm 4) (.comp (.var 5) (.nm 5) (.one (.var 2)) (.cmp .ne (.var 5) (.var 3)) [5] false)) (.ife (.cmp .eq (.call (ix 272) (.cons (.var 0) (.cons (.blt .tuple (.cons (.comp (.idx (.var 1) (.var 5)) (.nm 5) (.one (.var 4)) (.con (.bl true)) [5] false) .nil)) .nil))) (.tup (.cons (.con (.str "clash")) .nil))) (.asg (.nm 2) (.var 4)) .skip))
def cf_clash_by_3 (ix : Nat → Nat) : CF := ⟨2, 6, (.seq (.ife (.cmp .ne (.call (ix 272) (.cons (.var 0) (.cons (.var 1) .nil))) (.tup (.cons (.con (.str "clash")) .nil))) (.ret (.tup .nil)) .skip) (.seq (.asg (.nm 2) (.blt .list (.cons .nil .nil))) (.seq (.fr (.nm 3) (.one .nil) (cb_clash_by_3_1 ix)) (.ret (.blt .tuple (.cons (.var 2) .nil))))))⟩
def cf_paper_day (ix : Nat → Nat) : CF := ⟨2, 5, (.seq (.asg (.nm 2) (.call (ix 253) (.cons (.var 0) (.cons (.var 1) .nil)))) (.seq (.ife (.cmp .eq (.idx (.var 2) (.con (.int 0))) (.con (.str "sound"))) (.ret (.tup (.cons (.tup (.cons (.con (.str "sound")) (.cons (.var 0) (.cons (.var 1) .nil)))) (.cons (.con .non) .nil)))) .skip) (.seq (.ife (.cmp .eq (.idx (.var 2) (.con (.int 0))) (.con (.str "wrong"))) (.ret (.tup (.cons (.tup (.cons (.con (.str "wrong")) (.cons (.var 0) (.cons (.var 1) .nil)))) (.cons (.idx (.var 2) (.con (.int 1))) .nil)))) .skip) (.seq (.ife (.cmp .eq (.idx (.var 2) (.con (.int 0))) (.con (.str "one"))) (.ret (.tup (.cons (.tup (.cons (.con (.str "one")) (.cons (.var 0) (.cons (.var 1) (.cons (.idx (.var 2) (.con (.int 1))) .nil))))) (.cons (.con .non) .nil)))) .skip) (.seq (.asg (.tp (.cons (.nm 3) (.cons (.nm 4) .nil))) (.call (ix 251) (.cons (.var 0) (.cons (.var 1) .nil)))) (.ret (.tup (.cons (.tup (.cons (.con (.str "pair")) (.cons (.var 0) (.cons (.var 1) (.cons (.tup (.cons (.idx (.var 3) (.con (.int 0))) (.cons (.idx (.var 4) (.con (.int 0))) .nil))) .nil))))) (.cons (.tup (.cons (.idx (.var 3) (.con (.int 1))) (.cons (.idx (.var 4) (.con (.int 1))) .nil))) .nil)))))))))⟩
def cf_paper_cuts (ix : Nat → Nat) : CF := ⟨2, 4, (.seq (.asg (.tp (.cons (.nm 2) (.cons (.nm 3) .nil))) (.call (ix 256) (.cons (.var 0) (.cons (.var 1) .nil)))) (.ret (.tup (.cons (.tup (.cons (.con (.str "cuts")) (.cons (.var 0) (.cons (.var 1) (.cons (.blt .len (.cons (.var 2) .nil)) .nil))))) (.cons (.tup (.cons (.var 2) (.cons (.var 3) .nil))) .nil)))))⟩
def cf_paper_lamp (ix : Nat → Nat) : CF := ⟨2, 7, (.seq (.asg (.tp (.cons (.nm 2) (.cons (.nm 3) .nil))) (.tup (.cons (.call (ix 265) (.cons (.var 0) (.cons (.var 1) .nil))) (.cons (.call (ix 267) (.cons (.var 0) (.cons (.var 1) .nil))) .nil)))) (.seq (.asg (.nm 4) (.call (ix 262) (.cons (.call (ix 264) (.cons (.var 0) (.cons (.var 1) .nil))) (.cons (.bin .sub (.blt .len (.cons (.idx (.var 0) (.con (.int 0))) .nil)) (.con (.int 1))) .nil)))) (.seq (.asg (.nm 5) (.comp (.bin .add (.var 6) (.tup (.cons (.idx (.idx (.var 4) (.var 6)) (.con (.int 0))) .nil))) (.nm 6) (.one (.blt .sorted (.cons (.var 4) .nil))) (.cmp .gt (.idx (.idx (.var 4) (.var 6)) (.con (.int 0))) (.con (.int 0))) [6] false)) (.ret (.tup (.cons (.tup (.cons (.con (.str "lamp")) (.cons (.var 0) (.cons (.var 1) (.cons (.var 2) .nil))))) (.cons (.tup (.cons (.var 3) (.cons (.blt .tuple (.cons (.var 5) .nil)) .nil))) .nil)))))))⟩
def cf_places_that_fit_2 (ix : Nat → Nat) : CF := ⟨2, 5, (.seq (.asg (.nm 2) (.call (ix 272) (.cons (.var 0) (.cons (.var 1) .nil)))) (.seq (.ife (.cmp .eq (.idx (.var 2) (.con (.int 0))) (.con (.str "sound"))) (.ret (.tup .nil)) .skip) (.seq (.ife (.cmp .eq (.idx (.var 2) (.con (.int 0))) (.con (.str "one"))) (.ret (.tup (.cons (.idx (.var 2) (.con (.int 1))) .nil))) .skip) (.seq (.ife (.cmp .eq (.idx (.var 2) (.con (.int 0))) (.con (.str "pairs"))) (.ret (.idx (.idx (.var 2) (.con (.int 1))) (.con (.int 0)))) .skip) (.seq (.asg (.tp (.cons (.nm 3) (.cons (.nm 4) .nil))) (.call (ix 251) (.cons (.var 0) (.cons (.idx (.var 1) (.idx (.var 2) (.con (.int 1)))) .nil)))) (.ret (.tup (.cons (.idx (.var 3) (.con (.int 0))) (.cons (.idx (.var 4) (.con (.int 0))) .nil)))))))))⟩
def cb_clash_paper_2_1 (ix : Nat → Nat) : CS := (.expr (.mth .append (.var 3) (.cons (.call (ix 278) (.cons (.var 0) (.cons (.blt .tuple (.cons (.comp (.idx (.var 1) (.var 5)) (.nm 5) (.one (.var 2)) (.cmp .ne (.var 5) (.var 4)) [5] false) .nil)) .nil))) .nil)))
def cf_clash_paper_2 (ix : Nat → Nat) : CF := ⟨3, 6, (.seq (.asg (.nm 3) (.mlst .nil)) (.seq (.fr (.nm 4) (.one (.var 2)) (cb_clash_paper_2_1 ix)) (.ret (.blt .tuple (.cons (.var 3) .nil)))))⟩
def cf_paper_days_2 (ix : Nat → Nat) : CF := ⟨2, 5, (.seq (.asg (.nm 2) (.call (ix 273) (.cons (.var 0) (.cons (.var 1) .nil)))) (.seq (.ife (.cmp .eq (.idx (.var 2) (.con (.int 0))) (.con (.str "pairs"))) (.ret (.tup (.cons (.tup (.cons (.con (.str "all")) (.cons (.var 0) (.cons (.var 1) (.cons (.idx (.var 2) (.con (.int 1))) .nil))))) (.cons (.call (ix 252) (.cons (.var 0) (.cons (.var 1) .nil))) .nil)))) .skip) (.seq (.ife (.cmp .eq (.idx (.var 2) (.con (.int 0))) (.con (.str "clash"))) (.seq (.asg (.nm 3) (.call (ix 274) (.cons (.var 0) (.cons (.var 1) .nil)))) (.ret (.tup (.cons (.tup (.cons (.con (.str "clash")) (.cons (.var 0) (.cons (.var 1) (.cons (.var 3) .nil))))) (.cons (.call (ix 279) (.cons (.var 0) (.cons (.var 1) (.cons (.var 3) .nil)))) .nil))))) .skip) (.seq (.asg (.nm 4) (.call (ix 278) (.cons (.var 0) (.cons (.var 1) .nil)))) (.ret (.tup (.cons (.tup (.cons (.con (.str "fits")) (.cons (.var 0) (.cons (.var 1) (.cons (.var 4) .nil))))) (.cons (.call (ix 250) (.cons (.var 0) (.cons (.var 1) (.cons (.var 4) .nil)))) .nil))))))))⟩
def cf_cover_of_4 (ix : Nat → Nat) : CF := ⟨2, 6, (.seq (.expr (.call (ix 32) (.cons (.var 0) .nil))) (.seq (.asg (.nm 2) (.call (ix 110) (.cons (.var 0) (.cons (.var 1) .nil)))) (.seq (.asg (.tp (.cons (.nm 3) (.cons (.nm 4) .nil))) (.call (ix 255) (.cons (.var 0) (.cons (.var 2) .nil)))) (.ret (.tup (.cons (.var 3) (.cons (.blt .tuple (.cons (.comp (.call (ix 44) (.cons (.var 0) (.cons (.var 5) .nil))) (.nm 5) (.one (.var 4)) (.con (.bl true)) [5] false) .nil)) .nil)))))))⟩
def cf_pairs_of_4 (ix : Nat → Nat) : CF := ⟨3, 9, (.seq (.asg (.tp (.cons (.nm 3) (.cons (.nm 4) .nil))) (.tup (.cons (.call (ix 105) (.cons (.var 0) (.cons (.var 1) .nil))) (.cons (.call (ix 105) (.cons (.var 0) (.cons (.var 2) .nil))) .nil)))) (.seq (.ife (.and (.cmp .eq (.idx (.var 3) (.con (.int 0))) (.con (.str "one"))) (.cmp .eq (.idx (.var 4) (.con (.int 0))) (.con (.str "one")))) (.seq (.asg (.nm 5) (.tup (.cons (.idx (.idx (.var 3) (.con (.int 1))) (.con (.int 0))) (.cons (.idx (.idx (.var 4) (.con (.int 1))) (.con (.int 0))) .nil)))) (.ret (.lst (.cons (.ife (.call (ix 9) (.cons (.idx (.var 5) (.con (.int 0))) (.cons (.idx (.var 5) (.con (.int 1))) .nil))) (.var 5) (.rev (.var 5))) .nil)))) .skip) (.seq (.ife (.cmp .eq (.idx (.var 3) (.con (.int 0))) (.con (.str "one"))) (.asg (.nm 6) (.call (ix 269) (.cons (.var 0) (.cons (.call (ix 103) (.cons (.var 0) (.cons (.var 2) .nil))) (.cons (.call (ix 43) (.cons (.var 0) (.cons (.idx (.idx (.var 3) (.con (.int 1))) (.con (.int 0))) .nil))) .nil))))) (.ife (.cmp .eq (.idx (.var 4) (.con (.int 0))) (.con (.str "one"))) (.asg (.nm 6) (.call (ix 269) (.cons (.var 0) (.cons (.call (ix 103) (.cons (.var 0) (.cons (.var 1) .nil))) (.cons (.call (ix 43) (.cons (.var 0) (.cons (.idx (.idx (.var 4) (.con (.int 1))) (.con (.int 0))) .nil))) .nil))))) (.asg (.nm 6) (.call (ix 268) (.cons (.var 0) (.cons (.call (ix 103) (.cons (.var 0) (.cons (.var 1) .nil))) (.cons (.call (ix 103) (.cons (.var 0) (.cons (.var 2) .nil))) .nil))))))) (.ret (.comp (.tup (.cons (.call (ix 44) (.cons (.var 0) (.cons (.var 7) .nil))) (.cons (.call (ix 44) (.cons (.var 0) (.cons (.var 8) .nil))) .nil))) (.tp (.cons (.nm 7) (.cons (.nm 8) .nil))) (.one (.var 6)) (.and (.cmp .isnot (.var 7) (.con .non)) (.cmp .isnot (.var 8) (.con .non))) [7, 8] false)))))⟩
def cb_pairs_told_4_1 (ix : Nat → Nat) : CS := (.ife (.and (.cmp .notin (.var 5) (.var 4)) (.call (ix 161) (.cons (.var 0) (.cons (.var 1) (.cons (.var 5) .nil))))) (.expr (.mth .append (.var 4) (.cons (.var 5) .nil))) .skip)
def cf_pairs_told_4 (ix : Nat → Nat) : CF := ⟨4, 6, (.seq (.asg (.nm 4) (.mlst .nil)) (.seq (.fr (.nm 5) (.one (.call (ix 282) (.cons (.var 0) (.cons (.var 2) (.cons (.var 3) .nil))))) (cb_pairs_told_4_1 ix)) (.seq (.ife (.and (.cmp .eq (.blt .len (.cons (.var 4) .nil)) (.con (.int 2))) (.call (ix 162) (.cons (.idx (.var 4) (.con (.int 1))) (.cons (.idx (.var 4) (.con (.int 0))) .nil)))) (.asg (.nm 4) (.rev (.var 4))) .skip) (.ret (.blt .tuple (.cons (.var 4) .nil))))))⟩
def cf_telling_by_4 (ix : Nat → Nat) : CF := ⟨2, 10, (.seq (.asg (.nm 2) (.comp (.call (ix 105) (.cons (.var 0) (.cons (.var 7) .nil))) (.nm 7) (.one (.var 1)) (.con (.bl true)) [7] false)) (.seq (.asg (.nm 3) (.comp (.var 8) (.nm 8) (.rng (.con (.int 0)) (.blt .len (.cons (.var 1) .nil))) (.cmp .ne (.idx (.var 2) (.var 8)) (.tup (.cons (.con (.str "sound")) .nil))) [8] false)) (.seq (.ife (.cmp .eq (.var 3) (.lst .nil)) (.ret (.tup (.cons (.con (.str "sound")) .nil))) .skip) (.seq (.ife (.cmp .isin (.con (.str "wrong")) (.comp (.idx (.var 9) (.con (.int 0))) (.nm 9) (.one (.var 2)) (.con (.bl true)) [9] false)) (.ret (.tup (.cons (.con (.str "clash")) .nil))) .skip) (.seq (.asg (.nm 4) (.idx (.var 3) (.con (.int 0)))) (.seq (.asg (.nm 5) (.comp (.var 8) (.nm 8) (.one (.var 3)) (.call (ix 164) (.cons (.var 0) (.cons (.idx (.var 1) (.var 4)) (.cons (.idx (.var 1) (.var 8)) .nil)))) [8] false)) (.seq (.ife (.and (.cmp .eq (.var 5) (.lst .nil)) (.cmp .eq (.idx (.idx (.var 2) (.var 4)) (.con (.int 0))) (.con (.str "one")))) (.ret (.tup (.cons (.con (.str "one")) (.cons (.idx (.idx (.idx (.var 2) (.var 4)) (.con (.int 1))) (.con (.int 0))) .nil)))) .skip) (.seq (.ife (.cmp .eq (.var 5) (.lst .nil)) (.ret (.tup (.cons (.con (.str "curve")) (.cons (.var 4) .nil)))) .skip) (.seq (.asg (.nm 6) (.call (ix 283) (.cons (.var 0) (.cons (.var 1) (.cons (.idx (.var 1) (.var 4)) (.cons (.idx (.var 1) (.idx (.var 5) (.con (.int 0)))) .nil)))))) (.seq (.ife (.cmp .eq (.var 6) (.tup .nil)) (.ret (.tup (.cons (.con (.str "clash")) .nil))) .skip) (.ret (.tup (.cons (.con (.str "pairs")) (.cons (.var 6) .nil))))))))))))))⟩
def cf_telling_4 (ix : Nat → Nat) : CF := ⟨2, 2, (.seq (.expr (.call (ix 32) (.cons (.var 0) .nil))) (.seq (.expr (.call (ix 152) (.cons (.var 1) .nil))) (.ret (.call (ix 284) (.cons (.var 0) (.cons (.var 1) .nil))))))⟩
def cb_clash_by_4_1 (ix : Nat → Nat) : CS := (.seq (.asg (.nm 4) (.comp (.var 5) (.nm 5) (.one (.var 2)) (.cmp .ne (.var 5) (.var 3)) [5] false)) (.ife (.cmp .eq (.call (ix 284) (.cons (.var 0) (.cons (.blt .tuple (.cons (.comp (.idx (.var 1) (.var 5)) (.nm 5) (.one (.var 4)) (.con (.bl true)) [5] false) .nil)) .nil))) (.tup (.cons (.con (.str "clash")) .nil))) (.asg (.nm 2) (.var 4)) .skip))
def cf_clash_by_4 (ix : Nat → Nat) : CF := ⟨2, 6, (.seq (.ife (.cmp .ne (.call (ix 284) (.cons (.var 0) (.cons (.var 1) .nil))) (.tup (.cons (.con (.str "clash")) .nil))) (.ret (.tup .nil)) .skip) (.seq (.asg (.nm 2) (.blt .list (.cons .nil .nil))) (.seq (.fr (.nm 3) (.one .nil) (cb_clash_by_4_1 ix)) (.ret (.blt .tuple (.cons (.var 2) .nil))))))⟩
def cf_pair_of_2 (ix : Nat → Nat) : CF := ⟨2, 2, (.ret (.call (ix 118) (.cons (.var 0) (.cons (.var 1) (.cons (.idx (.call (ix 116) (.cons (.var 0) (.cons (.var 1) .nil))) (.con (.int 0))) .nil)))))⟩
def cf_paper_day_2 (ix : Nat → Nat) : CF := ⟨2, 5, (.seq (.asg (.nm 2) (.call (ix 109) (.cons (.var 0) (.cons (.var 1) .nil)))) (.seq (.ife (.cmp .eq (.idx (.var 2) (.con (.int 0))) (.con (.str "sound"))) (.ret (.tup (.cons (.tup (.cons (.con (.str "sound")) (.cons (.var 0) (.cons (.var 1) .nil)))) (.cons (.con .non) .nil)))) .skip) (.seq (.ife (.cmp .eq (.idx (.var 2) (.con (.int 0))) (.con (.str "wrong"))) (.ret (.tup (.cons (.tup (.cons (.con (.str "wrong")) (.cons (.var 0) (.cons (.var 1) .nil)))) (.cons (.idx (.var 2) (.con (.int 1))) .nil)))) .skip) (.seq (.ife (.cmp .eq (.idx (.var 2) (.con (.int 0))) (.con (.str "one"))) (.ret (.tup (.cons (.tup (.cons (.con (.str "one")) (.cons (.var 0) (.cons (.var 1) (.cons (.idx (.var 2) (.con (.int 1))) .nil))))) (.cons (.con .non) .nil)))) .skip) (.seq (.asg (.tp (.cons (.nm 3) (.cons (.nm 4) .nil))) (.call (ix 287) (.cons (.var 0) (.cons (.var 1) .nil)))) (.ret (.tup (.cons (.tup (.cons (.con (.str "pair")) (.cons (.var 0) (.cons (.var 1) (.cons (.tup (.cons (.idx (.var 3) (.con (.int 0))) (.cons (.idx (.var 4) (.con (.int 0))) .nil))) .nil))))) (.cons (.tup (.cons (.idx (.var 3) (.con (.int 1))) (.cons (.idx (.var 4) (.con (.int 1))) .nil))) .nil)))))))))⟩
def cf_paper_cuts_2 (ix : Nat → Nat) : CF := ⟨2, 4, (.seq (.asg (.tp (.cons (.nm 2) (.cons (.nm 3) .nil))) (.call (ix 281) (.cons (.var 0) (.cons (.var 1) .nil)))) (.ret (.tup (.cons (.tup (.cons (.con (.str "cuts")) (.cons (.var 0) (.cons (.var 1) (.cons (.blt .len (.cons (.var 2) .nil)) .nil))))) (.cons (.tup (.cons (.var 2) (.cons (.var 3) .nil))) .nil)))))⟩
def cf_places_that_fit_3 (ix : Nat → Nat) : CF := ⟨2, 5, (.seq (.asg (.nm 2) (.call (ix 284) (.cons (.var 0) (.cons (.var 1) .nil)))) (.seq (.ife (.cmp .eq (.idx (.var 2) (.con (.int 0))) (.con (.str "sound"))) (.ret (.tup .nil)) .skip) (.seq (.ife (.cmp .eq (.idx (.var 2) (.con (.int 0))) (.con (.str "one"))) (.ret (.tup (.cons (.idx (.var 2) (.con (.int 1))) .nil))) .skip) (.seq (.ife (.cmp .eq (.idx (.var 2) (.con (.int 0))) (.con (.str "pairs"))) (.ret (.idx (.idx (.var 2) (.con (.int 1))) (.con (.int 0)))) .skip) (.seq (.asg (.tp (.cons (.nm 3) (.cons (.nm 4) .nil))) (.call (ix 287) (.cons (.var 0) (.cons (.idx (.var 1) (.idx (.var 2) (.con (.int 1)))) .nil)))) (.ret (.tup (.cons (.idx (.var 3) (.con (.int 0))) (.cons (.idx (.var 4) (.con (.int 0))) .nil)))))))))⟩
def cf_unlike_days_2 (ix : Nat → Nat) : CF := ⟨2, 5, (.seq (.asg (.nm 2) (.comp (.var 4) (.nm 4) (.rng (.con (.int 0)) (.blt .len (.cons (.var 1) .nil))) (.cmp .ne (.call (ix 105) (.cons (.var 0) (.cons (.idx (.var 1) (.var 4)) .nil))) (.tup (.cons (.con (.str "sound")) .nil))) [4] false)) (.seq (.asg (.nm 3) (.idx (.var 2) (.con (.int 0)))) (.ret (.tup (.cons (.var 3) (.cons (.idx (.comp (.var 4) (.nm 4) (.one (.var 2)) (.call (ix 164) (.cons (.var 0) (.cons (.idx (.var 1) (.var 3)) (.cons (.idx (.var 1) (.var 4)) .nil)))) [4] false) (.con (.int 0))) .nil))))))⟩
def cb_clash_paper_3_1 (ix : Nat → Nat) : CS := (.expr (.mth .append (.var 3) (.cons (.call (ix 290) (.cons (.var 0) (.cons (.blt .tuple (.cons (.comp (.idx (.var 1) (.var 5)) (.nm 5) (.one (.var 2)) (.cmp .ne (.var 5) (.var 4)) [5] false) .nil)) .nil))) .nil)))
def cf_clash_paper_3 (ix : Nat → Nat) : CF := ⟨3, 6, (.seq (.asg (.nm 3) (.mlst .nil)) (.seq (.fr (.nm 4) (.one (.var 2)) (cb_clash_paper_3_1 ix)) (.ret (.blt .tuple (.cons (.var 3) .nil)))))⟩
def cf_paper_days_3 (ix : Nat → Nat) : CF := ⟨2, 5, (.seq (.asg (.nm 2) (.call (ix 285) (.cons (.var 0) (.cons (.var 1) .nil)))) (.seq (.ife (.cmp .eq (.idx (.var 2) (.con (.int 0))) (.con (.str "pairs"))) (.ret (.tup (.cons (.tup (.cons (.con (.str "all")) (.cons (.var 0) (.cons (.var 1) (.cons (.idx (.var 2) (.con (.int 1))) .nil))))) (.cons (.call (ix 291) (.cons (.var 0) (.cons (.var 1) .nil))) .nil)))) .skip) (.seq (.ife (.cmp .eq (.idx (.var 2) (.con (.int 0))) (.con (.str "clash"))) (.seq (.asg (.nm 3) (.call (ix 286) (.cons (.var 0) (.cons (.var 1) .nil)))) (.ret (.tup (.cons (.tup (.cons (.con (.str "clash")) (.cons (.var 0) (.cons (.var 1) (.cons (.var 3) .nil))))) (.cons (.call (ix 292) (.cons (.var 0) (.cons (.var 1) (.cons (.var 3) .nil)))) .nil))))) .skip) (.seq (.asg (.nm 4) (.call (ix 290) (.cons (.var 0) (.cons (.var 1) .nil)))) (.ret (.tup (.cons (.tup (.cons (.con (.str "fits")) (.cons (.var 0) (.cons (.var 1) (.cons (.var 4) .nil))))) (.cons (.call (ix 174) (.cons (.var 0) (.cons (.var 1) (.cons (.var 4) .nil)))) .nil))))))))⟩
def cf_cuts_needed_2 (ix : Nat → Nat) : CF := ⟨2, 2, (.seq (.expr (.call (ix 32) (.cons (.var 0) .nil))) (.ret (.call (ix 141) (.cons (.blt .len (.cons (.idx (.call (ix 255) (.cons (.var 0) (.cons (.call (ix 230) (.cons (.var 0) (.cons (.var 1) .nil))) .nil))) (.con (.int 0))) .nil)) .nil))))⟩
def cf_thing_in (ix : Nat → Nat) : CF := ⟨2, 2, (.seq (.ife (.cmp .eq (.var 0) (.con (.str "n"))) (.ret (.call (ix 54) (.cons (.var 1) (.cons (.con (.int 9)) .nil)))) .skip) (.ret (.call (ix 55) (.cons (.var 1) (.cons (.con (.int 40)) .nil)))))⟩
def cf_row_in (ix : Nat → Nat) : CF := ⟨1, 5, (.seq (.asg (.nm 1) .nil) (.seq (.ife (.or (.cmp .notin (.idx (.var 1) (.con (.int 0))) .nil) (.cmp .ne (.bin .sub (.blt .len (.cons (.var 1) .nil)) (.con (.int 1))) (.blt .len (.cons (.idx .nil (.idx (.var 1) (.con (.int 0)))) .nil)))) (.ret (.con .non)) .skip) (.seq (.asg (.nm 2) (.comp (.call (ix 295) (.cons (.var 3) (.cons (.var 4) .nil))) (.tp (.cons (.nm 3) (.cons (.nm 4) .nil))) (.one .nil) (.con (.bl true)) [3, 4] false)) (.seq (.ife (.cmp .isin (.con .non) (.var 2)) (.ret (.con .non)) .skip) (.ret (.tup (.cons (.idx (.var 1) (.con (.int 0))) (.cons (.var 2) .nil))))))))⟩
def cf_cable_text (ix : Nat → Nat) : CF := ⟨1, 1, (.ret .nil)⟩
def cf_leak_text (ix : Nat → Nat) : CF := ⟨1, 1, (.ret (.bin .add (.bin .add (.call (ix 52) (.cons (.idx (.var 0) (.con (.int 0))) .nil)) (.con (.str " "))) (.call (ix 52) (.cons (.idx (.var 0) (.con (.int 1))) .nil))))⟩
def cf_kind_text (ix : Nat → Nat) : CF := ⟨1, 1, (.seq (.ife (.cmp .eq (.idx (.var 0) (.con (.int 0))) (.con (.str "one"))) (.ret (.bin .add (.con (.str "one ")) (.call (ix 298) (.cons (.idx (.var 0) (.con (.int 1))) .nil)))) .skip) (.ret .nil))⟩
def cf_span_text (ix : Nat → Nat) : CF := ⟨1, 1, (.ret (.bin .add (.bin .add (.call (ix 52) (.cons (.idx (.var 0) (.con (.int 0))) .nil)) (.con (.str " to "))) (.call (ix 52) (.cons (.idx (.var 0) (.con (.int 1))) .nil))))⟩
def cf_numbers_text (ix : Nat → Nat) : CF := ⟨1, 2, (.seq (.ife (.cmp .eq (.blt .len (.cons (.var 0) .nil)) (.con (.int 0))) (.ret (.con (.str "none"))) .skip) (.ret .nil))⟩
def cf_telling_text (ix : Nat → Nat) : CF := ⟨1, 2, (.seq (.ife (.cmp .eq (.idx (.var 0) (.con (.int 0))) (.con (.str "one"))) (.ret (.bin .add (.con (.str "one ")) (.call (ix 52) (.cons (.idx (.var 0) (.con (.int 1))) .nil)))) .skip) (.seq (.ife (.cmp .eq (.idx (.var 0) (.con (.int 0))) (.con (.str "curve"))) (.ret (.bin .add (.con (.str "curve ")) (.blt .str (.cons (.idx (.var 0) (.con (.int 1))) .nil)))) .skip) (.seq (.ife (.cmp .eq (.idx (.var 0) (.con (.int 0))) (.con (.str "pairs"))) (.ret (.bin .add (.con (.str "pairs ")) .nil)) .skip) (.ret (.idx (.var 0) (.con (.int 0)))))))⟩
def cf_east_span_2 (ix : Nat → Nat) : CF := ⟨2, 2, (.seq (.expr (.call (ix 32) (.cons (.var 0) .nil))) (.ret (.call (ix 115) (.cons (.var 0) (.cons (.idx (.call (ix 111) (.cons (.var 0) (.cons (.call (ix 230) (.cons (.var 0) (.cons (.var 1) .nil))) .nil))) (.con (.int 1))) .nil)))))⟩
def cf_day_text (ix : Nat → Nat) : CF := ⟨4, 7, (.seq (.ife (.cmp .eq (.var 0) (.con (.str "kind"))) (.ret (.call (ix 299) (.cons (.call (ix 253) (.cons (.var 1) (.cons (.var 2) .nil))) .nil))) .skip) (.seq (.ife (.cmp .eq (.var 0) (.con (.str "spans"))) (.ret (.bin .add (.bin .add (.call (ix 300) (.cons (.call (ix 245) (.cons (.var 1) (.cons (.var 2) .nil))) .nil)) (.con (.str ", "))) (.call (ix 300) (.cons (.call (ix 303) (.cons (.var 1) (.cons (.var 2) .nil))) .nil)))) .skip) (.seq (.ife (.cmp .eq (.var 0) (.con (.str "pair"))) (.ret .nil) .skip) (.seq (.ife (.cmp .eq (.var 0) (.con (.str "cuts"))) (.ret (.blt .str (.cons (.call (ix 294) (.cons (.var 1) (.cons (.var 2) .nil))) .nil))) .skip) (.seq (.ife (.cmp .eq (.var 0) (.con (.str "lamp"))) (.ret (.blt .str (.cons (.call (ix 265) (.cons (.var 1) (.cons (.var 2) .nil))) .nil))) .skip) (.seq (.asg (.tp (.cons (.nm 4) (.cons (.nm 5) .nil))) (.call (ix 275) (.cons (.var 1) (.cons (.var 2) .nil)))) (.ret (.idx (.lst (.cons (.con (.str "no")) (.cons (.con (.str "holds")) .nil))) (.blt .int (.cons (.call (ix 244) (.cons (.var 4) (.cons (.var 5) .nil))) .nil))))))))))⟩
def cf_law_said (ix : Nat → Nat) : CF := ⟨2, 2, .never⟩
def cf_clash_of_2 (ix : Nat → Nat) : CF := ⟨2, 2, (.seq (.expr (.call (ix 32) (.cons (.var 0) .nil))) (.seq (.expr (.call (ix 152) (.cons (.var 1) .nil))) (.ret (.call (ix 286) (.cons (.var 0) (.cons (.var 1) .nil))))))⟩
def cf_cuts_needed_3 (ix : Nat → Nat) : CF := ⟨2, 2, (.seq (.expr (.call (ix 32) (.cons (.var 0) .nil))) (.ret (.call (ix 141) (.cons (.blt .len (.cons (.idx (.call (ix 255) (.cons (.var 0) (.cons (.call (ix 110) (.cons (.var 0) (.cons (.var 1) .nil))) .nil))) (.con (.int 0))) .nil)) .nil))))⟩
def cf_clash_of_3 (ix : Nat → Nat) : CF := ⟨2, 2, (.seq (.expr (.call (ix 32) (.cons (.var 0) .nil))) (.seq (.expr (.call (ix 152) (.cons (.var 1) .nil))) (.ret (.call (ix 274) (.cons (.var 0) (.cons (.var 1) .nil))))))⟩
def cf_marks_of_2 (ix : Nat → Nat) : CF := ⟨3, 6, (.seq (.asg (.nm 3) (.call (ix 6) (.cons (.idx (.var 2) (.con (.int 0))) (.cons (.call (ix 8) (.cons (.call (ix 7) (.cons (.idx (.var 2) (.con (.int 2))) (.cons (.idx (.var 2) (.con (.int 3))) .nil))) (.cons (.idx (.var 2) (.con (.int 1))) .nil))) .nil)))) (.seq (.asg (.nm 4) (.bin .add (.bin .add (.lst (.cons (.con (.tup [(.int 0), (.int 1)])) (.cons (.var 3) .nil))) (.comp (.call (ix 132) (.cons (.var 1) (.cons (.var 2) (.cons (.var 5) .nil)))) (.nm 5) (.one (.var 0)) (.con (.bl true)) [5] false)) (.blt .list (.cons (.var 0) .nil)))) (.ret (.comp (.var 5) (.nm 5) (.one (.var 4)) (.and (.cmp .isnot (.var 5) (.con .non)) (.and (.not (.call (ix 9) (.cons (.var 5) (.cons (.con (.tup [(.int 0), (.int 1)])) .nil)))) (.not (.call (ix 9) (.cons (.var 3) (.cons (.var 5) .nil)))))) [5] false))))⟩
def cb_ways_by_2_1 (ix : Nat → Nat) : CS := (.seq (.asg (.nm 6) (.call (ix 131) (.cons (.var 2) (.cons (.var 1) (.cons (.var 5) .nil))))) (.seq (.asg (.nm 7) (.blt .len (.cons (.comp (.var 9) (.nm 9) (.one (.var 3)) (.call (ix 9) (.cons (.var 9) (.cons (.var 5) .nil))) [9] false) .nil))) (.set (.var 4) (.tup (.cons (.var 7) (.cons (.blt .len (.cons (.comp (.var 9) (.nm 9) (.one (.var 3)) (.call (ix 9) (.cons (.var 9) (.cons (.var 6) .nil))) [9] false) .nil)) .nil))) (.con (.bl true)))))
def cf_ways_by_2 (ix : Nat → Nat) : CF := ⟨2, 10, (.seq (.asg (.nm 2) (.call (ix 34) (.cons (.var 0) .nil))) (.seq (.asg (.nm 3) (.comp (.call (ix 43) (.cons (.var 0) (.cons (.tup (.cons (.var 8) (.cons (.con (.int 1)) .nil))) .nil))) (.nm 8) (.one (.call (ix 35) (.cons (.var 0) .nil))) (.con (.bl true)) [8] false)) (.seq (.asg (.nm 4) .mdk) (.seq (.fr (.nm 5) (.one (.call (ix 309) (.cons (.var 3) (.cons (.var 2) (.cons (.var 1) .nil))))) (cb_ways_by_2_1 ix)) (.ret (.blt .tuple (.cons (.blt .sorted (.cons (.var 4) .nil)) .nil)))))))⟩
def cf_all_ways_3 (ix : Nat → Nat) : CF := ⟨2, 2, (.seq (.expr (.call (ix 32) (.cons (.var 0) .nil))) (.ret (.call (ix 310) (.cons (.var 0) (.cons (.call (ix 110) (.cons (.var 0) (.cons (.var 1) .nil))) .nil)))))⟩
def cf_ways_of_3 (ix : Nat → Nat) : CF := ⟨2, 2, (.ret (.call (ix 311) (.cons (.var 0) (.cons (.var 1) .nil))))⟩
def cf_lamp_needed_3 (ix : Nat → Nat) : CF := ⟨2, 3, (.seq (.asg (.nm 2) (.call (ix 311) (.cons (.var 0) (.cons (.var 1) .nil)))) (.ret (.idx (.idx (.call (ix 262) (.cons (.var 2) (.cons (.bin .sub (.blt .len (.cons (.idx (.var 0) (.con (.int 0))) .nil)) (.con (.int 1))) .nil))) (.tup (.cons (.con (.int 0)) (.cons (.bin .sub (.blt .len (.cons (.var 2) .nil)) (.con (.int 1))) .nil)))) (.con (.int 0)))))⟩
def cf_lamp_plan_3 (ix : Nat → Nat) : CF := ⟨2, 3, (.seq (.asg (.nm 2) (.call (ix 311) (.cons (.var 0) (.cons (.var 1) .nil)))) (.ret (.call (ix 266) (.cons (.var 2) (.cons (.call (ix 262) (.cons (.var 2) (.cons (.bin .sub (.blt .len (.cons (.idx (.var 0) (.con (.int 0))) .nil)) (.con (.int 1))) .nil))) (.cons (.tup (.cons (.con (.int 0)) (.cons (.bin .sub (.blt .len (.cons (.var 2) .nil)) (.con (.int 1))) .nil))) .nil))))))⟩
def cf_law_way (ix : Nat → Nat) : CF := ⟨4, 7, (.seq (.asg (.nm 4) (.call (ix 136) (.cons (.var 0) (.cons (.var 1) (.cons (.var 3) .nil))))) (.seq (.asg (.nm 5) (.blt .len (.cons (.comp (.var 6) (.nm 6) (.one (.var 2)) (.call (ix 49) (.cons (.var 6) (.cons (.var 3) .nil))) [6] false) .nil))) (.ret (.tup (.cons (.var 5) (.cons (.blt .len (.cons (.comp (.var 6) (.nm 6) (.one (.var 2)) (.call (ix 49) (.cons (.var 6) (.cons (.var 4) .nil))) [6] false) .nil)) .nil))))))⟩
def cb_law_ways_1 (ix : Nat → Nat) : CS := (.ife (.and (.cmp .isnot (.var 5) (.con .non)) (.not (.call (ix 49) (.cons (.var 3) (.cons (.var 5) .nil))))) (.set (.var 4) (.call (ix 315) (.cons (.var 0) (.cons (.var 1) (.cons (.var 2) (.cons (.var 5) .nil))))) (.con (.bl true))) .skip)
def cf_law_ways (ix : Nat → Nat) : CF := ⟨2, 7, (.seq (.asg (.tp (.cons (.nm 2) (.cons (.nm 3) .nil))) (.tup (.cons (.call (ix 138) (.cons (.var 0) .nil)) (.cons (.call (ix 139) (.cons (.var 0) (.cons (.var 1) .nil))) .nil)))) (.seq (.asg (.nm 4) .mdk) (.seq (.fr (.nm 5) (.one (.bin .add (.bin .add (.lst (.cons (.tup (.cons (.con (.int 0)) (.cons (.con (.int 1)) .nil))) (.cons (.var 3) .nil))) (.var 2)) (.comp (.call (ix 137) (.cons (.var 0) (.cons (.var 1) (.cons (.var 6) .nil)))) (.nm 6) (.one (.var 2)) (.con (.bl true)) [6] false))) (cb_law_ways_1 ix)) (.ret (.blt .sorted (.cons (.var 4) .nil))))))⟩
def tab_0 (ix : Nat → Nat) : List (Nat × CF) := [(0, cf_is_whole ix), (1, cf_share_of ix), (2, cf_low ix), (3, cf_is_fraction ix), (4, cf_check_fraction ix), (5, cf_add ix), (6, cf_less ix), (7, cf_mul ix), (8, cf_div ix), (9, cf_is_less ix), (10, cf_fraction ix), (11, cf_check_both ix), (12, cf_plus ix), (13, cf_minus ix), (14, cf_times ix), (15, cf_over ix), (16, cf_below ix), (17, cf_law_cell ix), (18, cf_law_purse ix), (19, cf_law_pick ix)]
def tab_1 (ix : Nat → Nat) : List (Nat × CF) := [(20, cf_law_whole ix), (21, cf_law_low ix), (22, cf_law_is_fraction ix), (23, cf_law_sort ix), (24, cf_law_told ix), (25, cf_whole_root ix), (26, cf_root ix), (27, cf_is_from_zero ix), (28, cf_is_above_zero ix), (29, cf_is_small ix), (30, cf_is_length ix), (31, cf_is_cable ix), (32, cf_check_cable ix), (33, cf_all_steps ix), (34, cf_all_drag ix), (35, cf_splice_steps ix), (36, cf_steps_of ix), (37, cf_drag_of ix), (38, cf_splices_of ix), (39, cf_law_plus ix)]
def tab_2 (ix : Nat → Nat) : List (Nat × CF) := [(40, cf_law_times ix), (41, cf_is_place ix), (42, cf_check_place ix), (43, cf_drag_at ix), (44, cf_place_with ix), (45, cf_drag_to ix), (46, cf_place_at ix), (47, cf_law_minus ix), (48, cf_law_over ix), (49, cf_law_below ix), (50, cf_law_all ix), (51, cf_law_cable ix), (52, cf_show_fraction ix), (53, cf_show_cable ix), (54, cf_number_in ix), (55, cf_fraction_in ix), (56, cf_back_in ix), (57, cf_length_in ix), (58, cf_read_cable ix), (59, cf_law_fraction_text ix)]
def tab_3 (ix : Nat → Nat) : List (Nat × CF) := [(60, cf_law_text ix), (61, cf_is_leak ix), (62, cf_are_leaks ix), (63, cf_is_leaks ix), (64, cf_law_sixths ix), (65, cf_check_leaks ix), (66, cf_both_seen ix), (67, cf_join ix), (68, cf_stretch_by ix), (69, cf_beside ix), (70, cf_reading ix), (71, cf_measure ix), (72, cf_law_drag_to ix), (73, cf_law_points ix), (74, cf_law_steps_seen ix), (75, cf_law_seen ix), (76, cf_law_day ix), (77, cf_law_leaks_2 ix), (78, cf_law_sort_2 ix), (79, cf_lack_of ix)]
def tab_4 (ix : Nat → Nat) : List (Nat × CF) := [(80, cf_is_seen ix), (81, cf_is_stretch ix), (82, cf_joined ix), (83, cf_law_stretch ix), (84, cf_stretch_of ix), (85, cf_check_word ix), (86, cf_check_reading ix), (87, cf_drag_with ix), (88, cf_drag_by ix), (89, cf_law_place_at ix), (90, cf_law_read ix), (91, cf_law_leak ix), (92, cf_half ix), (93, cf_by_free_and_earth ix), (94, cf_by_free_and_far_earth ix), (95, cf_by_earths ix), (96, cf_possible_drags ix), (97, cf_leak_with ix), (98, cf_one_leak ix), (99, cf_is_day ix)]
def tab_5 (ix : Nat → Nat) : List (Nat × CF) := [(100, cf_check_day ix), (101, cf_day_by ix), (102, cf_day_of ix), (103, cf_four_of ix), (104, cf_fault_in ix), (105, cf_kind_by ix), (106, cf_seen_of ix), (107, cf_seen_by ix), (108, cf_law_star ix), (109, cf_kind_of ix), (110, cf_check_two ix), (111, cf_spans_by ix), (112, cf_partner_by ix), (113, cf_partner_west ix), (114, cf_drag_within ix), (115, cf_places_with ix), (116, cf_west_span ix), (117, cf_east_span ix), (118, cf_pair_at ix), (119, cf_east_of ix)]
def tab_6 (ix : Nat → Nat) : List (Nat × CF) := [(120, cf_west_of ix), (121, cf_law_partner ix), (122, cf_law_pair ix), (123, cf_law_listed ix), (124, cf_law_two_more ix), (125, cf_law_spans ix), (126, cf_law_spots ix), (127, cf_check_splice ix), (128, cf_part_cables ix), (129, cf_parts ix), (130, cf_leaks_parted ix), (131, cf_east_drag ix), (132, cf_west_drag ix), (133, cf_next_cut ix), (134, cf_cover_by ix), (135, cf_cover_of ix), (136, cf_law_east ix), (137, cf_law_west ix), (138, cf_law_splices ix), (139, cf_law_most_west ix)]
def tab_7 (ix : Nat → Nat) : List (Nat × CF) := [(140, cf_law_two ix), (141, cf_needed_for ix), (142, cf_cuts_needed ix), (143, cf_stretch_told ix), (144, cf_edge_drags ix), (145, cf_leak_moved ix), (146, cf_law_small_3 ix), (147, cf_law_pair_2 ix), (148, cf_law_drags ix), (149, cf_law_least ix), (150, cf_law_part ix), (151, cf_law_days_cut ix), (152, cf_check_days ix), (153, cf_two_drags ix), (154, cf_fits_by ix), (155, cf_east_drag_2 ix), (156, cf_west_drag_2 ix), (157, cf_roots_of ix), (158, cf_pairs_of_two ix), (159, cf_pairs_with ix)]
def tab_8 (ix : Nat → Nat) : List (Nat × CF) := [(160, cf_pairs_of ix), (161, cf_fit_all ix), (162, cf_is_before ix), (163, cf_pairs_told ix), (164, cf_are_apart ix), (165, cf_telling_by ix), (166, cf_telling ix), (167, cf_law_kind_2 ix), (168, cf_law_fits ix), (169, cf_law_some_drag ix), (170, cf_law_hidden_2 ix), (171, cf_law_hidden_day ix), (172, cf_law_days ix), (173, cf_check_places ix), (174, cf_drags_by ix), (175, cf_clash_by ix), (176, cf_clash_of ix), (177, cf_check_length ix), (178, cf_check_number ix), (179, cf_exchange ix)]
def tab_9 (ix : Nat → Nat) : List (Nat × CF) := [(180, cf_exchanged ix), (181, cf_check_room ix), (182, cf_add_cables ix), (183, cf_added ix), (184, cf_turned ix), (185, cf_leaks_turned ix), (186, cf_leaks_added ix), (187, cf_wall ix), (188, cf_check_date ix), (189, cf_law_length ix), (190, cf_law_any_readings ix), (191, cf_is_day_of ix), (192, cf_read_by ix), (193, cf_four_of_2 ix), (194, cf_is_quiet ix), (195, cf_wrong_word ix), (196, cf_kind_seen ix), (197, cf_one_taken ix), (198, cf_pair_taken ix), (199, cf_wrong_taken ix)]
def tab_10 (ix : Nat → Nat) : List (Nat × CF) := [(200, cf_least_parted ix), (201, cf_does_part ix), (202, cf_most_west ix), (203, cf_is_covered ix), (204, cf_are_cuts ix), (205, cf_are_spots ix), (206, cf_are_apart_2 ix), (207, cf_are_days ix), (208, cf_are_places ix), (209, cf_made_so ix), (210, cf_do_fit ix), (211, cf_arms_fit ix), (212, cf_does_fit ix), (213, cf_fit_all_2 ix), (214, cf_are_unlike ix), (215, cf_beside_2 ix), (216, cf_arms_of_both ix), (217, cf_possible_pairs ix), (218, cf_is_number ix), (219, cf_are_numbers ix)]
def tab_11 (ix : Nat → Nat) : List (Nat × CF) := [(220, cf_east_with ix), (221, cf_ways_seen ix), (222, cf_left_by ix), (223, cf_are_stretches ix), (224, cf_holds_one ix), (225, cf_does_need ix), (226, cf_is_plan ix), (227, cf_lamp_taken ix), (228, cf_short_taken ix), (229, cf_kind_by_2 ix), (230, cf_check_two_2 ix), (231, cf_pair_at_2 ix), (232, cf_law_day_2 ix), (233, cf_law_is_day ix), (234, cf_law_kind_3 ix), (235, cf_law_any_day ix), (236, cf_law_some_days_2 ix), (237, cf_cuts_taken_3 ix), (238, cf_pairs_that_fit_3 ix), (239, cf_are_all_3 ix)]
def tab_12 (ix : Nat → Nat) : List (Nat × CF) := [(240, cf_clash_together_3 ix), (241, cf_do_clash_3 ix), (242, cf_day_taken_3 ix), (243, cf_days_taken_3 ix), (244, cf_holds_3 ix), (245, cf_west_span_2 ix), (246, cf_two_drags_2 ix), (247, cf_fits_by_2 ix), (248, cf_fit_all_4 ix), (249, cf_are_apart_3 ix), (250, cf_drags_by_2 ix), (251, cf_pair_of ix), (252, cf_unlike_days ix), (253, cf_kind_of_2 ix), (254, cf_next_cut_2 ix), (255, cf_cover_by_2 ix), (256, cf_cover_of_3 ix), (257, cf_marks_of ix), (258, cf_ways_by ix), (259, cf_answer_of ix)]
def tab_13 (ix : Nat → Nat) : List (Nat × CF) := [(260, cf_stretches_left ix), (261, cf_needed_by ix), (262, cf_table_by ix), (263, cf_all_ways ix), (264, cf_ways_of ix), (265, cf_lamp_needed ix), (266, cf_plan_by ix), (267, cf_lamp_plan ix), (268, cf_pairs_of_two_2 ix), (269, cf_pairs_with_2 ix), (270, cf_pairs_of_3 ix), (271, cf_pairs_told_3 ix), (272, cf_telling_by_3 ix), (273, cf_telling_3 ix), (274, cf_clash_by_3 ix), (275, cf_paper_day ix), (276, cf_paper_cuts ix), (277, cf_paper_lamp ix), (278, cf_places_that_fit_2 ix), (279, cf_clash_paper_2 ix)]
def tab_14 (ix : Nat → Nat) : List (Nat × CF) := [(280, cf_paper_days_2 ix), (281, cf_cover_of_4 ix), (282, cf_pairs_of_4 ix), (283, cf_pairs_told_4 ix), (284, cf_telling_by_4 ix), (285, cf_telling_4 ix), (286, cf_clash_by_4 ix), (287, cf_pair_of_2 ix), (288, cf_paper_day_2 ix), (289, cf_paper_cuts_2 ix), (290, cf_places_that_fit_3 ix), (291, cf_unlike_days_2 ix), (292, cf_clash_paper_3 ix), (293, cf_paper_days_3 ix), (294, cf_cuts_needed_2 ix), (295, cf_thing_in ix), (296, cf_row_in ix), (297, cf_cable_text ix), (298, cf_leak_text ix), (299, cf_kind_text ix)]
def tab_15 (ix : Nat → Nat) : List (Nat × CF) := [(300, cf_span_text ix), (301, cf_numbers_text ix), (302, cf_telling_text ix), (303, cf_east_span_2 ix), (304, cf_day_text ix), (305, cf_law_said ix), (306, cf_clash_of_2 ix), (307, cf_cuts_needed_3 ix), (308, cf_clash_of_3 ix), (309, cf_marks_of_2 ix), (310, cf_ways_by_2 ix), (311, cf_all_ways_3 ix), (312, cf_ways_of_3 ix), (313, cf_lamp_needed_3 ix), (314, cf_lamp_plan_3 ix), (315, cf_law_way ix), (316, cf_law_ways ix)]
class Lib (P : Nat → Option CF) where
  ix : Nat → Nat
  q0 : ∀ x ∈ tab_0 ix, P (ix x.1) = some x.2
  q1 : ∀ x ∈ tab_1 ix, P (ix x.1) = some x.2
  q2 : ∀ x ∈ tab_2 ix, P (ix x.1) = some x.2
  q3 : ∀ x ∈ tab_3 ix, P (ix x.1) = some x.2
  q4 : ∀ x ∈ tab_4 ix, P (ix x.1) = some x.2
  q5 : ∀ x ∈ tab_5 ix, P (ix x.1) = some x.2
  q6 : ∀ x ∈ tab_6 ix, P (ix x.1) = some x.2
  q7 : ∀ x ∈ tab_7 ix, P (ix x.1) = some x.2
  q8 : ∀ x ∈ tab_8 ix, P (ix x.1) = some x.2
  q9 : ∀ x ∈ tab_9 ix, P (ix x.1) = some x.2
  q10 : ∀ x ∈ tab_10 ix, P (ix x.1) = some x.2
  q11 : ∀ x ∈ tab_11 ix, P (ix x.1) = some x.2
  q12 : ∀ x ∈ tab_12 ix, P (ix x.1) = some x.2
  q13 : ∀ x ∈ tab_13 ix, P (ix x.1) = some x.2
  q14 : ∀ x ∈ tab_14 ix, P (ix x.1) = some x.2
  q15 : ∀ x ∈ tab_15 ix, P (ix x.1) = some x.2
section
variable (P : Nat → Option CF) [Lib P]
abbrev f_is_whole : Nat := Lib.ix P 0
theorem p_is_whole : P (f_is_whole P) = some (cf_is_whole (Lib.ix P)) := Lib.q0 (0, cf_is_whole (Lib.ix P)) (.head _)
abbrev f_share_of : Nat := Lib.ix P 1
theorem p_share_of : P (f_share_of P) = some (cf_share_of (Lib.ix P)) := Lib.q0 (1, cf_share_of (Lib.ix P)) (.tail _ (.head _))
abbrev f_low : Nat := Lib.ix P 2
theorem p_low : P (f_low P) = some (cf_low (Lib.ix P)) := Lib.q0 (2, cf_low (Lib.ix P)) (.tail _ (.tail _ (.head _)))
abbrev f_is_fraction : Nat := Lib.ix P 3
theorem p_is_fraction : P (f_is_fraction P) = some (cf_is_fraction (Lib.ix P)) := Lib.q0 (3, cf_is_fraction (Lib.ix P)) (.tail _ (.tail _ (.tail _ (.head _))))
abbrev f_check_fraction : Nat := Lib.ix P 4
theorem p_check_fraction : P (f_check_fraction P) = some (cf_check_fraction (Lib.ix P)) := Lib.q0 (4, cf_check_fraction (Lib.ix P)) (.tail _ (.tail _ (.tail _ (.tail _ (.head _)))))
abbrev f_add : Nat := Lib.ix P 5
theorem p_add : P (f_add P) = some (cf_add (Lib.ix P)) := Lib.q0 (5, cf_add (Lib.ix P)) (.tail _ (.tail _ (.tail _ (.tail _ (.tail _ (.head _))))))
abbrev f_less : Nat := Lib.ix P 6
theorem p_less : P (f_less P) = some (cf_less (Lib.ix P)) := Lib.q0 (6, cf_less (Lib.ix P)) (.tail _ (.tail _ (.tail _ (.tail _ (.tail _ (.tail _ (.head _)))))))
abbrev f_mul : Nat := Lib.ix P 7
theorem p_mul : P (f_mul P) = some (cf_mul (Lib.ix P)) := Lib.q0 (7, cf_mul (Lib.ix P)) (.tail _ (.tail _ (.tail _ (.tail _ (.tail _ (.tail _ (.tail _ (.head _))))))))
abbrev f_div : Nat := Lib.ix P 8
theorem p_div : P (f_div P) = some (cf_div (Lib.ix P)) := Lib.q0 (8, cf_div (Lib.ix P)) (.tail _ (.tail _ (.tail _ (.tail _ (.tail _ (.tail _ (.tail _ (.tail _ (.head _)))))))))
abbrev f_is_less : Nat := Lib.ix P 9
theorem p_is_less : P (f_is_less P) = some (cf_is_less (Lib.ix P)) := Lib.q0 (9, cf_is_less (Lib.ix P)) (.tail _ (.tail _ (.tail _ (.tail _ (.tail _ (.tail _ (.tail _ (.tail _ (.tail _ (.head _))))))))))
abbrev f_fraction : Nat := Lib.ix P 10
theorem p_fraction : P (f_fraction P) = some (cf_fraction (Lib.ix P)) := Lib.q0 (10, cf_fraction (Lib.ix P)) (.tail _ (.tail _ (.tail _ (.tail _ (.tail _ (.tail _ (.tail _ (.tail _ (.tail _ (.tail _ (.head _)))))))))))
abbrev f_check_both : Nat := Lib.ix P 11
theorem p_check_both : P (f_check_both P) = some (cf_check_both (Lib.ix P)) := Lib.q0 (11, cf_check_both (Lib.ix P)) (.tail _ (.tail _ (.tail _ (.tail _ (.tail _ (.tail _ (.tail _ (.tail _ (.tail _ (.tail _ (.tail _ (.head _))))))))))))
abbrev f_plus : Nat := Lib.ix P 12
theorem p_plus : P (f_plus P) = some (cf_plus (Lib.ix P)) := Lib.q0 (12, cf_plus (Lib.ix P)) (.tail _ (.tail _ (.tail _ (.tail _ (.tail _ (.tail _ (.tail _ (.tail _ (.tail _ (.tail _ (.tail _ (.tail _ (.head _)))))))))))))
abbrev f_minus : Nat := Lib.ix P 13
theorem p_minus : P (f_minus P) = some (cf_minus (Lib.ix P)) := Lib.q0 (13, cf_minus (Lib.ix P)) (.tail _ (.tail _ (.tail _ (.tail _ (.tail _ (.tail _ (.tail _ (.tail _ (.tail _ (.tail _ (.tail _ (.tail _ (.tail _ (.head _))))))))))))))
abbrev f_times : Nat := Lib.ix P 14
theorem p_times : P (f_times P) = some (cf_times (Lib.ix P)) := Lib.q0 (14, cf_times (Lib.ix P)) (.tail _ (.tail _ (.tail _ (.tail _ (.tail _ (.tail _ (.tail _ (.tail _ (.tail _ (.tail _ (.tail _ (.tail _ (.tail _ (.tail _ (.head _)))))))))))))))
abbrev f_over : Nat := Lib.ix P 15
theorem p_over : P (f_over P) = some (cf_over (Lib.ix P)) := Lib.q0 (15, cf_over (Lib.ix P)) (.tail _ (.tail _ (.tail _ (.tail _ (.tail _ (.tail _ (.tail _ (.tail _ (.tail _ (.tail _ (.tail _ (.tail _ (.tail _ (.tail _ (.tail _ (.head _))))))))))))))))
abbrev f_below : Nat := Lib.ix P 16
theorem p_below : P (f_below P) = some (cf_below (Lib.ix P)) := Lib.q0 (16, cf_below (Lib.ix P)) (.tail _ (.tail _ (.tail _ (.tail _ (.tail _ (.tail _ (.tail _ (.tail _ (.tail _ (.tail _ (.tail _ (.tail _ (.tail _ (.tail _ (.tail _ (.tail _ (.head _)))))))))))))))))
abbrev f_law_cell : Nat := Lib.ix P 17
theorem p_law_cell : P (f_law_cell P) = some (cf_law_cell (Lib.ix P)) := Lib.q0 (17, cf_law_cell (Lib.ix P)) (.tail _ (.tail _ (.tail _ (.tail _ (.tail _ (.tail _ (.tail _ (.tail _ (.tail _ (.tail _ (.tail _ (.tail _ (.tail _ (.tail _ (.tail _ (.tail _ (.tail _ (.head _))))))))))))))))))
abbrev f_law_purse : Nat := Lib.ix P 18
theorem p_law_purse : P (f_law_purse P) = some (cf_law_purse (Lib.ix P)) := Lib.q0 (18, cf_law_purse (Lib.ix P)) (.tail _ (.tail _ (.tail _ (.tail _ (.tail _ (.tail _ (.tail _ (.tail _ (.tail _ (.tail _ (.tail _ (.tail _ (.tail _ (.tail _ (.tail _ (.tail _ (.tail _ (.tail _ (.head _)))))))))))))))))))
abbrev f_law_pick : Nat := Lib.ix P 19
theorem p_law_pick : P (f_law_pick P) = some (cf_law_pick (Lib.ix P)) := Lib.q0 (19, cf_law_pick (Lib.ix P)) (.tail _ (.tail _ (.tail _ (.tail _ (.tail _ (.tail _ (.tail _ (.tail _ (.tail _ (.tail _ (.tail _ (.tail _ (.tail _ (.tail _ (.tail _ (.tail _ (.tail _ (.tail _ (.tail _ (.head _))))))))))))))))))))
abbrev f_law_whole : Nat := Lib.ix P 20
theorem p_law_whole : P (f_law_whole P) = some (cf_law_whole (Lib.ix P)) := Lib.q1 (20, cf_law_whole (Lib.ix P)) (.head _)
abbrev f_law_low : Nat := Lib.ix P 21
theorem p_law_low : P (f_law_low P) = some (cf_law_low (Lib.ix P)) := Lib.q1 (21, cf_law_low (Lib.ix P)) (.tail _ (.head _))
abbrev f_law_is_fraction : Nat := Lib.ix P 22
theorem p_law_is_fraction : P (f_law_is_fraction P) = some (cf_law_is_fraction (Lib.ix P)) := Lib.q1 (22, cf_law_is_fraction (Lib.ix P)) (.tail _ (.tail _ (.head _)))
abbrev f_law_sort : Nat := Lib.ix P 23
theorem p_law_sort : P (f_law_sort P) = some (cf_law_sort (Lib.ix P)) := Lib.q1 (23, cf_law_sort (Lib.ix P)) (.tail _ (.tail _ (.tail _ (.head _))))
abbrev f_law_told : Nat := Lib.ix P 24
theorem p_law_told : P (f_law_told P) = some (cf_law_told (Lib.ix P)) := Lib.q1 (24, cf_law_told (Lib.ix P)) (.tail _ (.tail _ (.tail _ (.tail _ (.head _)))))
abbrev f_whole_root : Nat := Lib.ix P 25
theorem p_whole_root : P (f_whole_root P) = some (cf_whole_root (Lib.ix P)) := Lib.q1 (25, cf_whole_root (Lib.ix P)) (.tail _ (.tail _ (.tail _ (.tail _ (.tail _ (.head _))))))
abbrev f_root : Nat := Lib.ix P 26
theorem p_root : P (f_root P) = some (cf_root (Lib.ix P)) := Lib.q1 (26, cf_root (Lib.ix P)) (.tail _ (.tail _ (.tail _ (.tail _ (.tail _ (.tail _ (.head _)))))))
abbrev f_is_from_zero : Nat := Lib.ix P 27
theorem p_is_from_zero : P (f_is_from_zero P) = some (cf_is_from_zero (Lib.ix P)) := Lib.q1 (27, cf_is_from_zero (Lib.ix P)) (.tail _ (.tail _ (.tail _ (.tail _ (.tail _ (.tail _ (.tail _ (.head _))))))))
abbrev f_is_above_zero : Nat := Lib.ix P 28
theorem p_is_above_zero : P (f_is_above_zero P) = some (cf_is_above_zero (Lib.ix P)) := Lib.q1 (28, cf_is_above_zero (Lib.ix P)) (.tail _ (.tail _ (.tail _ (.tail _ (.tail _ (.tail _ (.tail _ (.tail _ (.head _)))))))))
abbrev f_is_small : Nat := Lib.ix P 29
theorem p_is_small : P (f_is_small P) = some (cf_is_small (Lib.ix P)) := Lib.q1 (29, cf_is_small (Lib.ix P)) (.tail _ (.tail _ (.tail _ (.tail _ (.tail _ (.tail _ (.tail _ (.tail _ (.tail _ (.head _))))))))))
abbrev f_is_length : Nat := Lib.ix P 30
theorem p_is_length : P (f_is_length P) = some (cf_is_length (Lib.ix P)) := Lib.q1 (30, cf_is_length (Lib.ix P)) (.tail _ (.tail _ (.tail _ (.tail _ (.tail _ (.tail _ (.tail _ (.tail _ (.tail _ (.tail _ (.head _)))))))))))
abbrev f_is_cable : Nat := Lib.ix P 31
theorem p_is_cable : P (f_is_cable P) = some (cf_is_cable (Lib.ix P)) := Lib.q1 (31, cf_is_cable (Lib.ix P)) (.tail _ (.tail _ (.tail _ (.tail _ (.tail _ (.tail _ (.tail _ (.tail _ (.tail _ (.tail _ (.tail _ (.head _))))))))))))
abbrev f_check_cable : Nat := Lib.ix P 32
theorem p_check_cable : P (f_check_cable P) = some (cf_check_cable (Lib.ix P)) := Lib.q1 (32, cf_check_cable (Lib.ix P)) (.tail _ (.tail _ (.tail _ (.tail _ (.tail _ (.tail _ (.tail _ (.tail _ (.tail _ (.tail _ (.tail _ (.tail _ (.head _)))))))))))))
abbrev f_all_steps : Nat := Lib.ix P 33
theorem p_all_steps : P (f_all_steps P) = some (cf_all_steps (Lib.ix P)) := Lib.q1 (33, cf_all_steps (Lib.ix P)) (.tail _ (.tail _ (.tail _ (.tail _ (.tail _ (.tail _ (.tail _ (.tail _ (.tail _ (.tail _ (.tail _ (.tail _ (.tail _ (.head _))))))))))))))
abbrev f_all_drag : Nat := Lib.ix P 34
theorem p_all_drag : P (f_all_drag P) = some (cf_all_drag (Lib.ix P)) := Lib.q1 (34, cf_all_drag (Lib.ix P)) (.tail _ (.tail _ (.tail _ (.tail _ (.tail _ (.tail _ (.tail _ (.tail _ (.tail _ (.tail _ (.tail _ (.tail _ (.tail _ (.tail _ (.head _)))))))))))))))
abbrev f_splice_steps : Nat := Lib.ix P 35
theorem p_splice_steps : P (f_splice_steps P) = some (cf_splice_steps (Lib.ix P)) := Lib.q1 (35, cf_splice_steps (Lib.ix P)) (.tail _ (.tail _ (.tail _ (.tail _ (.tail _ (.tail _ (.tail _ (.tail _ (.tail _ (.tail _ (.tail _ (.tail _ (.tail _ (.tail _ (.tail _ (.head _))))))))))))))))
abbrev f_steps_of : Nat := Lib.ix P 36
theorem p_steps_of : P (f_steps_of P) = some (cf_steps_of (Lib.ix P)) := Lib.q1 (36, cf_steps_of (Lib.ix P)) (.tail _ (.tail _ (.tail _ (.tail _ (.tail _ (.tail _ (.tail _ (.tail _ (.tail _ (.tail _ (.tail _ (.tail _ (.tail _ (.tail _ (.tail _ (.tail _ (.head _)))))))))))))))))
abbrev f_drag_of : Nat := Lib.ix P 37
theorem p_drag_of : P (f_drag_of P) = some (cf_drag_of (Lib.ix P)) := Lib.q1 (37, cf_drag_of (Lib.ix P)) (.tail _ (.tail _ (.tail _ (.tail _ (.tail _ (.tail _ (.tail _ (.tail _ (.tail _ (.tail _ (.tail _ (.tail _ (.tail _ (.tail _ (.tail _ (.tail _ (.tail _ (.head _))))))))))))))))))
abbrev f_splices_of : Nat := Lib.ix P 38
theorem p_splices_of : P (f_splices_of P) = some (cf_splices_of (Lib.ix P)) := Lib.q1 (38, cf_splices_of (Lib.ix P)) (.tail _ (.tail _ (.tail _ (.tail _ (.tail _ (.tail _ (.tail _ (.tail _ (.tail _ (.tail _ (.tail _ (.tail _ (.tail _ (.tail _ (.tail _ (.tail _ (.tail _ (.tail _ (.head _)))))))))))))))))))
abbrev f_law_plus : Nat := Lib.ix P 39
theorem p_law_plus : P (f_law_plus P) = some (cf_law_plus (Lib.ix P)) := Lib.q1 (39, cf_law_plus (Lib.ix P)) (.tail _ (.tail _ (.tail _ (.tail _ (.tail _ (.tail _ (.tail _ (.tail _ (.tail _ (.tail _ (.tail _ (.tail _ (.tail _ (.tail _ (.tail _ (.tail _ (.tail _ (.tail _ (.tail _ (.head _))))))))))))))))))))
abbrev f_law_times : Nat := Lib.ix P 40
theorem p_law_times : P (f_law_times P) = some (cf_law_times (Lib.ix P)) := Lib.q2 (40, cf_law_times (Lib.ix P)) (.head _)
abbrev f_is_place : Nat := Lib.ix P 41
theorem p_is_place : P (f_is_place P) = some (cf_is_place (Lib.ix P)) := Lib.q2 (41, cf_is_place (Lib.ix P)) (.tail _ (.head _))
abbrev f_check_place : Nat := Lib.ix P 42
theorem p_check_place : P (f_check_place P) = some (cf_check_place (Lib.ix P)) := Lib.q2 (42, cf_check_place (Lib.ix P)) (.tail _ (.tail _ (.head _)))
abbrev f_drag_at : Nat := Lib.ix P 43
theorem p_drag_at : P (f_drag_at P) = some (cf_drag_at (Lib.ix P)) := Lib.q2 (43, cf_drag_at (Lib.ix P)) (.tail _ (.tail _ (.tail _ (.head _))))
abbrev f_place_with : Nat := Lib.ix P 44
theorem p_place_with : P (f_place_with P) = some (cf_place_with (Lib.ix P)) := Lib.q2 (44, cf_place_with (Lib.ix P)) (.tail _ (.tail _ (.tail _ (.tail _ (.head _)))))
abbrev f_drag_to : Nat := Lib.ix P 45
theorem p_drag_to : P (f_drag_to P) = some (cf_drag_to (Lib.ix P)) := Lib.q2 (45, cf_drag_to (Lib.ix P)) (.tail _ (.tail _ (.tail _ (.tail _ (.tail _ (.head _))))))
abbrev f_place_at : Nat := Lib.ix P 46
theorem p_place_at : P (f_place_at P) = some (cf_place_at (Lib.ix P)) := Lib.q2 (46, cf_place_at (Lib.ix P)) (.tail _ (.tail _ (.tail _ (.tail _ (.tail _ (.tail _ (.head _)))))))
abbrev f_law_minus : Nat := Lib.ix P 47
theorem p_law_minus : P (f_law_minus P) = some (cf_law_minus (Lib.ix P)) := Lib.q2 (47, cf_law_minus (Lib.ix P)) (.tail _ (.tail _ (.tail _ (.tail _ (.tail _ (.tail _ (.tail _ (.head _))))))))
abbrev f_law_over : Nat := Lib.ix P 48
theorem p_law_over : P (f_law_over P) = some (cf_law_over (Lib.ix P)) := Lib.q2 (48, cf_law_over (Lib.ix P)) (.tail _ (.tail _ (.tail _ (.tail _ (.tail _ (.tail _ (.tail _ (.tail _ (.head _)))))))))
abbrev f_law_below : Nat := Lib.ix P 49
theorem p_law_below : P (f_law_below P) = some (cf_law_below (Lib.ix P)) := Lib.q2 (49, cf_law_below (Lib.ix P)) (.tail _ (.tail _ (.tail _ (.tail _ (.tail _ (.tail _ (.tail _ (.tail _ (.tail _ (.head _))))))))))
abbrev f_law_all : Nat := Lib.ix P 50
theorem p_law_all : P (f_law_all P) = some (cf_law_all (Lib.ix P)) := Lib.q2 (50, cf_law_all (Lib.ix P)) (.tail _ (.tail _ (.tail _ (.tail _ (.tail _ (.tail _ (.tail _ (.tail _ (.tail _ (.tail _ (.head _)))))))))))
abbrev f_law_cable : Nat := Lib.ix P 51
theorem p_law_cable : P (f_law_cable P) = some (cf_law_cable (Lib.ix P)) := Lib.q2 (51, cf_law_cable (Lib.ix P)) (.tail _ (.tail _ (.tail _ (.tail _ (.tail _ (.tail _ (.tail _ (.tail _ (.tail _ (.tail _ (.tail _ (.head _))))))))))))
abbrev f_show_fraction : Nat := Lib.ix P 52
theorem p_show_fraction : P (f_show_fraction P) = some (cf_show_fraction (Lib.ix P)) := Lib.q2 (52, cf_show_fraction (Lib.ix P)) (.tail _ (.tail _ (.tail _ (.tail _ (.tail _ (.tail _ (.tail _ (.tail _ (.tail _ (.tail _ (.tail _ (.tail _ (.head _)))))))))))))
abbrev f_show_cable : Nat := Lib.ix P 53
theorem p_show_cable : P (f_show_cable P) = some (cf_show_cable (Lib.ix P)) := Lib.q2 (53, cf_show_cable (Lib.ix P)) (.tail _ (.tail _ (.tail _ (.tail _ (.tail _ (.tail _ (.tail _ (.tail _ (.tail _ (.tail _ (.tail _ (.tail _ (.tail _ (.head _))))))))))))))
abbrev f_number_in : Nat := Lib.ix P 54
theorem p_number_in : P (f_number_in P) = some (cf_number_in (Lib.ix P)) := Lib.q2 (54, cf_number_in (Lib.ix P)) (.tail _ (.tail _ (.tail _ (.tail _ (.tail _ (.tail _ (.tail _ (.tail _ (.tail _ (.tail _ (.tail _ (.tail _ (.tail _ (.tail _ (.head _)))))))))))))))
abbrev f_fraction_in : Nat := Lib.ix P 55
theorem p_fraction_in : P (f_fraction_in P) = some (cf_fraction_in (Lib.ix P)) := Lib.q2 (55, cf_fraction_in (Lib.ix P)) (.tail _ (.tail _ (.tail _ (.tail _ (.tail _ (.tail _ (.tail _ (.tail _ (.tail _ (.tail _ (.tail _ (.tail _ (.tail _ (.tail _ (.tail _ (.head _))))))))))))))))
abbrev f_back_in : Nat := Lib.ix P 56
theorem p_back_in : P (f_back_in P) = some (cf_back_in (Lib.ix P)) := Lib.q2 (56, cf_back_in (Lib.ix P)) (.tail _ (.tail _ (.tail _ (.tail _ (.tail _ (.tail _ (.tail _ (.tail _ (.tail _ (.tail _ (.tail _ (.tail _ (.tail _ (.tail _ (.tail _ (.tail _ (.head _)))))))))))))))))
abbrev f_length_in : Nat := Lib.ix P 57
theorem p_length_in : P (f_length_in P) = some (cf_length_in (Lib.ix P)) := Lib.q2 (57, cf_length_in (Lib.ix P)) (.tail _ (.tail _ (.tail _ (.tail _ (.tail _ (.tail _ (.tail _ (.tail _ (.tail _ (.tail _ (.tail _ (.tail _ (.tail _ (.tail _ (.tail _ (.tail _ (.tail _ (.head _))))))))))))))))))
abbrev f_read_cable : Nat := Lib.ix P 58
theorem p_read_cable : P (f_read_cable P) = some (cf_read_cable (Lib.ix P)) := Lib.q2 (58, cf_read_cable (Lib.ix P)) (.tail _ (.tail _ (.tail _ (.tail _ (.tail _ (.tail _ (.tail _ (.tail _ (.tail _ (.tail _ (.tail _ (.tail _ (.tail _ (.tail _ (.tail _ (.tail _ (.tail _ (.tail _ (.head _)))))))))))))))))))
abbrev f_law_fraction_text : Nat := Lib.ix P 59
theorem p_law_fraction_text : P (f_law_fraction_text P) = some (cf_law_fraction_text (Lib.ix P)) := Lib.q2 (59, cf_law_fraction_text (Lib.ix P)) (.tail _ (.tail _ (.tail _ (.tail _ (.tail _ (.tail _ (.tail _ (.tail _ (.tail _ (.tail _ (.tail _ (.tail _ (.tail _ (.tail _ (.tail _ (.tail _ (.tail _ (.tail _ (.tail _ (.head _))))))))))))))))))))
abbrev f_law_text : Nat := Lib.ix P 60
theorem p_law_text : P (f_law_text P) = some (cf_law_text (Lib.ix P)) := Lib.q3 (60, cf_law_text (Lib.ix P)) (.head _)
abbrev f_is_leak : Nat := Lib.ix P 61
theorem p_is_leak : P (f_is_leak P) = some (cf_is_leak (Lib.ix P)) := Lib.q3 (61, cf_is_leak (Lib.ix P)) (.tail _ (.head _))
abbrev f_are_leaks : Nat := Lib.ix P 62
theorem p_are_leaks : P (f_are_leaks P) = some (cf_are_leaks (Lib.ix P)) := Lib.q3 (62, cf_are_leaks (Lib.ix P)) (.tail _ (.tail _ (.head _)))
abbrev f_is_leaks : Nat := Lib.ix P 63
theorem p_is_leaks : P (f_is_leaks P) = some (cf_is_leaks (Lib.ix P)) := Lib.q3 (63, cf_is_leaks (Lib.ix P)) (.tail _ (.tail _ (.tail _ (.head _))))
abbrev f_law_sixths : Nat := Lib.ix P 64
theorem p_law_sixths : P (f_law_sixths P) = some (cf_law_sixths (Lib.ix P)) := Lib.q3 (64, cf_law_sixths (Lib.ix P)) (.tail _ (.tail _ (.tail _ (.tail _ (.head _)))))
abbrev f_check_leaks : Nat := Lib.ix P 65
theorem p_check_leaks : P (f_check_leaks P) = some (cf_check_leaks (Lib.ix P)) := Lib.q3 (65, cf_check_leaks (Lib.ix P)) (.tail _ (.tail _ (.tail _ (.tail _ (.tail _ (.head _))))))
abbrev f_both_seen : Nat := Lib.ix P 66
theorem p_both_seen : P (f_both_seen P) = some (cf_both_seen (Lib.ix P)) := Lib.q3 (66, cf_both_seen (Lib.ix P)) (.tail _ (.tail _ (.tail _ (.tail _ (.tail _ (.tail _ (.head _)))))))
abbrev f_join : Nat := Lib.ix P 67
theorem p_join : P (f_join P) = some (cf_join (Lib.ix P)) := Lib.q3 (67, cf_join (Lib.ix P)) (.tail _ (.tail _ (.tail _ (.tail _ (.tail _ (.tail _ (.tail _ (.head _))))))))
abbrev f_stretch_by : Nat := Lib.ix P 68
theorem p_stretch_by : P (f_stretch_by P) = some (cf_stretch_by (Lib.ix P)) := Lib.q3 (68, cf_stretch_by (Lib.ix P)) (.tail _ (.tail _ (.tail _ (.tail _ (.tail _ (.tail _ (.tail _ (.tail _ (.head _)))))))))
abbrev f_beside : Nat := Lib.ix P 69
theorem p_beside : P (f_beside P) = some (cf_beside (Lib.ix P)) := Lib.q3 (69, cf_beside (Lib.ix P)) (.tail _ (.tail _ (.tail _ (.tail _ (.tail _ (.tail _ (.tail _ (.tail _ (.tail _ (.head _))))))))))
abbrev f_reading : Nat := Lib.ix P 70
theorem p_reading : P (f_reading P) = some (cf_reading (Lib.ix P)) := Lib.q3 (70, cf_reading (Lib.ix P)) (.tail _ (.tail _ (.tail _ (.tail _ (.tail _ (.tail _ (.tail _ (.tail _ (.tail _ (.tail _ (.head _)))))))))))
abbrev f_measure : Nat := Lib.ix P 71
theorem p_measure : P (f_measure P) = some (cf_measure (Lib.ix P)) := Lib.q3 (71, cf_measure (Lib.ix P)) (.tail _ (.tail _ (.tail _ (.tail _ (.tail _ (.tail _ (.tail _ (.tail _ (.tail _ (.tail _ (.tail _ (.head _))))))))))))
abbrev f_law_drag_to : Nat := Lib.ix P 72
theorem p_law_drag_to : P (f_law_drag_to P) = some (cf_law_drag_to (Lib.ix P)) := Lib.q3 (72, cf_law_drag_to (Lib.ix P)) (.tail _ (.tail _ (.tail _ (.tail _ (.tail _ (.tail _ (.tail _ (.tail _ (.tail _ (.tail _ (.tail _ (.tail _ (.head _)))))))))))))
abbrev f_law_points : Nat := Lib.ix P 73
theorem p_law_points : P (f_law_points P) = some (cf_law_points (Lib.ix P)) := Lib.q3 (73, cf_law_points (Lib.ix P)) (.tail _ (.tail _ (.tail _ (.tail _ (.tail _ (.tail _ (.tail _ (.tail _ (.tail _ (.tail _ (.tail _ (.tail _ (.tail _ (.head _))))))))))))))
abbrev f_law_steps_seen : Nat := Lib.ix P 74
theorem p_law_steps_seen : P (f_law_steps_seen P) = some (cf_law_steps_seen (Lib.ix P)) := Lib.q3 (74, cf_law_steps_seen (Lib.ix P)) (.tail _ (.tail _ (.tail _ (.tail _ (.tail _ (.tail _ (.tail _ (.tail _ (.tail _ (.tail _ (.tail _ (.tail _ (.tail _ (.tail _ (.head _)))))))))))))))
abbrev f_law_seen : Nat := Lib.ix P 75
theorem p_law_seen : P (f_law_seen P) = some (cf_law_seen (Lib.ix P)) := Lib.q3 (75, cf_law_seen (Lib.ix P)) (.tail _ (.tail _ (.tail _ (.tail _ (.tail _ (.tail _ (.tail _ (.tail _ (.tail _ (.tail _ (.tail _ (.tail _ (.tail _ (.tail _ (.tail _ (.head _))))))))))))))))
abbrev f_law_day : Nat := Lib.ix P 76
theorem p_law_day : P (f_law_day P) = some (cf_law_day (Lib.ix P)) := Lib.q3 (76, cf_law_day (Lib.ix P)) (.tail _ (.tail _ (.tail _ (.tail _ (.tail _ (.tail _ (.tail _ (.tail _ (.tail _ (.tail _ (.tail _ (.tail _ (.tail _ (.tail _ (.tail _ (.tail _ (.head _)))))))))))))))))
abbrev f_law_leaks_2 : Nat := Lib.ix P 77
theorem p_law_leaks_2 : P (f_law_leaks_2 P) = some (cf_law_leaks_2 (Lib.ix P)) := Lib.q3 (77, cf_law_leaks_2 (Lib.ix P)) (.tail _ (.tail _ (.tail _ (.tail _ (.tail _ (.tail _ (.tail _ (.tail _ (.tail _ (.tail _ (.tail _ (.tail _ (.tail _ (.tail _ (.tail _ (.tail _ (.tail _ (.head _))))))))))))))))))
abbrev f_law_sort_2 : Nat := Lib.ix P 78
theorem p_law_sort_2 : P (f_law_sort_2 P) = some (cf_law_sort_2 (Lib.ix P)) := Lib.q3 (78, cf_law_sort_2 (Lib.ix P)) (.tail _ (.tail _ (.tail _ (.tail _ (.tail _ (.tail _ (.tail _ (.tail _ (.tail _ (.tail _ (.tail _ (.tail _ (.tail _ (.tail _ (.tail _ (.tail _ (.tail _ (.tail _ (.head _)))))))))))))))))))
abbrev f_lack_of : Nat := Lib.ix P 79
theorem p_lack_of : P (f_lack_of P) = some (cf_lack_of (Lib.ix P)) := Lib.q3 (79, cf_lack_of (Lib.ix P)) (.tail _ (.tail _ (.tail _ (.tail _ (.tail _ (.tail _ (.tail _ (.tail _ (.tail _ (.tail _ (.tail _ (.tail _ (.tail _ (.tail _ (.tail _ (.tail _ (.tail _ (.tail _ (.tail _ (.head _))))))))))))))))))))
abbrev f_is_seen : Nat := Lib.ix P 80
theorem p_is_seen : P (f_is_seen P) = some (cf_is_seen (Lib.ix P)) := Lib.q4 (80, cf_is_seen (Lib.ix P)) (.head _)
abbrev f_is_stretch : Nat := Lib.ix P 81
theorem p_is_stretch : P (f_is_stretch P) = some (cf_is_stretch (Lib.ix P)) := Lib.q4 (81, cf_is_stretch (Lib.ix P)) (.tail _ (.head _))
abbrev f_joined : Nat := Lib.ix P 82
theorem p_joined : P (f_joined P) = some (cf_joined (Lib.ix P)) := Lib.q4 (82, cf_joined (Lib.ix P)) (.tail _ (.tail _ (.head _)))
abbrev f_law_stretch : Nat := Lib.ix P 83
theorem p_law_stretch : P (f_law_stretch P) = some (cf_law_stretch (Lib.ix P)) := Lib.q4 (83, cf_law_stretch (Lib.ix P)) (.tail _ (.tail _ (.tail _ (.head _))))
abbrev f_stretch_of : Nat := Lib.ix P 84
theorem p_stretch_of : P (f_stretch_of P) = some (cf_stretch_of (Lib.ix P)) := Lib.q4 (84, cf_stretch_of (Lib.ix P)) (.tail _ (.tail _ (.tail _ (.tail _ (.head _)))))
abbrev f_check_word : Nat := Lib.ix P 85
theorem p_check_word : P (f_check_word P) = some (cf_check_word (Lib.ix P)) := Lib.q4 (85, cf_check_word (Lib.ix P)) (.tail _ (.tail _ (.tail _ (.tail _ (.tail _ (.head _))))))
abbrev f_check_reading : Nat := Lib.ix P 86
theorem p_check_reading : P (f_check_reading P) = some (cf_check_reading (Lib.ix P)) := Lib.q4 (86, cf_check_reading (Lib.ix P)) (.tail _ (.tail _ (.tail _ (.tail _ (.tail _ (.tail _ (.head _)))))))
abbrev f_drag_with : Nat := Lib.ix P 87
theorem p_drag_with : P (f_drag_with P) = some (cf_drag_with (Lib.ix P)) := Lib.q4 (87, cf_drag_with (Lib.ix P)) (.tail _ (.tail _ (.tail _ (.tail _ (.tail _ (.tail _ (.tail _ (.head _))))))))
abbrev f_drag_by : Nat := Lib.ix P 88
theorem p_drag_by : P (f_drag_by P) = some (cf_drag_by (Lib.ix P)) := Lib.q4 (88, cf_drag_by (Lib.ix P)) (.tail _ (.tail _ (.tail _ (.tail _ (.tail _ (.tail _ (.tail _ (.tail _ (.head _)))))))))
abbrev f_law_place_at : Nat := Lib.ix P 89
theorem p_law_place_at : P (f_law_place_at P) = some (cf_law_place_at (Lib.ix P)) := Lib.q4 (89, cf_law_place_at (Lib.ix P)) (.tail _ (.tail _ (.tail _ (.tail _ (.tail _ (.tail _ (.tail _ (.tail _ (.tail _ (.head _))))))))))
abbrev f_law_read : Nat := Lib.ix P 90
theorem p_law_read : P (f_law_read P) = some (cf_law_read (Lib.ix P)) := Lib.q4 (90, cf_law_read (Lib.ix P)) (.tail _ (.tail _ (.tail _ (.tail _ (.tail _ (.tail _ (.tail _ (.tail _ (.tail _ (.tail _ (.head _)))))))))))
abbrev f_law_leak : Nat := Lib.ix P 91
theorem p_law_leak : P (f_law_leak P) = some (cf_law_leak (Lib.ix P)) := Lib.q4 (91, cf_law_leak (Lib.ix P)) (.tail _ (.tail _ (.tail _ (.tail _ (.tail _ (.tail _ (.tail _ (.tail _ (.tail _ (.tail _ (.tail _ (.head _))))))))))))
abbrev f_half : Nat := Lib.ix P 92
theorem p_half : P (f_half P) = some (cf_half (Lib.ix P)) := Lib.q4 (92, cf_half (Lib.ix P)) (.tail _ (.tail _ (.tail _ (.tail _ (.tail _ (.tail _ (.tail _ (.tail _ (.tail _ (.tail _ (.tail _ (.tail _ (.head _)))))))))))))
abbrev f_by_free_and_earth : Nat := Lib.ix P 93
theorem p_by_free_and_earth : P (f_by_free_and_earth P) = some (cf_by_free_and_earth (Lib.ix P)) := Lib.q4 (93, cf_by_free_and_earth (Lib.ix P)) (.tail _ (.tail _ (.tail _ (.tail _ (.tail _ (.tail _ (.tail _ (.tail _ (.tail _ (.tail _ (.tail _ (.tail _ (.tail _ (.head _))))))))))))))
abbrev f_by_free_and_far_earth : Nat := Lib.ix P 94
theorem p_by_free_and_far_earth : P (f_by_free_and_far_earth P) = some (cf_by_free_and_far_earth (Lib.ix P)) := Lib.q4 (94, cf_by_free_and_far_earth (Lib.ix P)) (.tail _ (.tail _ (.tail _ (.tail _ (.tail _ (.tail _ (.tail _ (.tail _ (.tail _ (.tail _ (.tail _ (.tail _ (.tail _ (.tail _ (.head _)))))))))))))))
abbrev f_by_earths : Nat := Lib.ix P 95
theorem p_by_earths : P (f_by_earths P) = some (cf_by_earths (Lib.ix P)) := Lib.q4 (95, cf_by_earths (Lib.ix P)) (.tail _ (.tail _ (.tail _ (.tail _ (.tail _ (.tail _ (.tail _ (.tail _ (.tail _ (.tail _ (.tail _ (.tail _ (.tail _ (.tail _ (.tail _ (.head _))))))))))))))))
abbrev f_possible_drags : Nat := Lib.ix P 96
theorem p_possible_drags : P (f_possible_drags P) = some (cf_possible_drags (Lib.ix P)) := Lib.q4 (96, cf_possible_drags (Lib.ix P)) (.tail _ (.tail _ (.tail _ (.tail _ (.tail _ (.tail _ (.tail _ (.tail _ (.tail _ (.tail _ (.tail _ (.tail _ (.tail _ (.tail _ (.tail _ (.tail _ (.head _)))))))))))))))))
abbrev f_leak_with : Nat := Lib.ix P 97
theorem p_leak_with : P (f_leak_with P) = some (cf_leak_with (Lib.ix P)) := Lib.q4 (97, cf_leak_with (Lib.ix P)) (.tail _ (.tail _ (.tail _ (.tail _ (.tail _ (.tail _ (.tail _ (.tail _ (.tail _ (.tail _ (.tail _ (.tail _ (.tail _ (.tail _ (.tail _ (.tail _ (.tail _ (.head _))))))))))))))))))
abbrev f_one_leak : Nat := Lib.ix P 98
theorem p_one_leak : P (f_one_leak P) = some (cf_one_leak (Lib.ix P)) := Lib.q4 (98, cf_one_leak (Lib.ix P)) (.tail _ (.tail _ (.tail _ (.tail _ (.tail _ (.tail _ (.tail _ (.tail _ (.tail _ (.tail _ (.tail _ (.tail _ (.tail _ (.tail _ (.tail _ (.tail _ (.tail _ (.tail _ (.head _)))))))))))))))))))
abbrev f_is_day : Nat := Lib.ix P 99
theorem p_is_day : P (f_is_day P) = some (cf_is_day (Lib.ix P)) := Lib.q4 (99, cf_is_day (Lib.ix P)) (.tail _ (.tail _ (.tail _ (.tail _ (.tail _ (.tail _ (.tail _ (.tail _ (.tail _ (.tail _ (.tail _ (.tail _ (.tail _ (.tail _ (.tail _ (.tail _ (.tail _ (.tail _ (.tail _ (.head _))))))))))))))))))))
abbrev f_check_day : Nat := Lib.ix P 100
theorem p_check_day : P (f_check_day P) = some (cf_check_day (Lib.ix P)) := Lib.q5 (100, cf_check_day (Lib.ix P)) (.head _)
abbrev f_day_by : Nat := Lib.ix P 101
theorem p_day_by : P (f_day_by P) = some (cf_day_by (Lib.ix P)) := Lib.q5 (101, cf_day_by (Lib.ix P)) (.tail _ (.head _))
abbrev f_day_of : Nat := Lib.ix P 102
theorem p_day_of : P (f_day_of P) = some (cf_day_of (Lib.ix P)) := Lib.q5 (102, cf_day_of (Lib.ix P)) (.tail _ (.tail _ (.head _)))
abbrev f_four_of : Nat := Lib.ix P 103
theorem p_four_of : P (f_four_of P) = some (cf_four_of (Lib.ix P)) := Lib.q5 (103, cf_four_of (Lib.ix P)) (.tail _ (.tail _ (.tail _ (.head _))))
abbrev f_fault_in : Nat := Lib.ix P 104
theorem p_fault_in : P (f_fault_in P) = some (cf_fault_in (Lib.ix P)) := Lib.q5 (104, cf_fault_in (Lib.ix P)) (.tail _ (.tail _ (.tail _ (.tail _ (.head _)))))
abbrev f_kind_by : Nat := Lib.ix P 105
theorem p_kind_by : P (f_kind_by P) = some (cf_kind_by (Lib.ix P)) := Lib.q5 (105, cf_kind_by (Lib.ix P)) (.tail _ (.tail _ (.tail _ (.tail _ (.tail _ (.head _))))))
abbrev f_seen_of : Nat := Lib.ix P 106
theorem p_seen_of : P (f_seen_of P) = some (cf_seen_of (Lib.ix P)) := Lib.q5 (106, cf_seen_of (Lib.ix P)) (.tail _ (.tail _ (.tail _ (.tail _ (.tail _ (.tail _ (.head _)))))))
abbrev f_seen_by : Nat := Lib.ix P 107
theorem p_seen_by : P (f_seen_by P) = some (cf_seen_by (Lib.ix P)) := Lib.q5 (107, cf_seen_by (Lib.ix P)) (.tail _ (.tail _ (.tail _ (.tail _ (.tail _ (.tail _ (.tail _ (.head _))))))))
abbrev f_law_star : Nat := Lib.ix P 108
theorem p_law_star : P (f_law_star P) = some (cf_law_star (Lib.ix P)) := Lib.q5 (108, cf_law_star (Lib.ix P)) (.tail _ (.tail _ (.tail _ (.tail _ (.tail _ (.tail _ (.tail _ (.tail _ (.head _)))))))))
abbrev f_kind_of : Nat := Lib.ix P 109
theorem p_kind_of : P (f_kind_of P) = some (cf_kind_of (Lib.ix P)) := Lib.q5 (109, cf_kind_of (Lib.ix P)) (.tail _ (.tail _ (.tail _ (.tail _ (.tail _ (.tail _ (.tail _ (.tail _ (.tail _ (.head _))))))))))
abbrev f_check_two : Nat := Lib.ix P 110
theorem p_check_two : P (f_check_two P) = some (cf_check_two (Lib.ix P)) := Lib.q5 (110, cf_check_two (Lib.ix P)) (.tail _ (.tail _ (.tail _ (.tail _ (.tail _ (.tail _ (.tail _ (.tail _ (.tail _ (.tail _ (.head _)))))))))))
abbrev f_spans_by : Nat := Lib.ix P 111
theorem p_spans_by : P (f_spans_by P) = some (cf_spans_by (Lib.ix P)) := Lib.q5 (111, cf_spans_by (Lib.ix P)) (.tail _ (.tail _ (.tail _ (.tail _ (.tail _ (.tail _ (.tail _ (.tail _ (.tail _ (.tail _ (.tail _ (.head _))))))))))))
abbrev f_partner_by : Nat := Lib.ix P 112
theorem p_partner_by : P (f_partner_by P) = some (cf_partner_by (Lib.ix P)) := Lib.q5 (112, cf_partner_by (Lib.ix P)) (.tail _ (.tail _ (.tail _ (.tail _ (.tail _ (.tail _ (.tail _ (.tail _ (.tail _ (.tail _ (.tail _ (.tail _ (.head _)))))))))))))
abbrev f_partner_west : Nat := Lib.ix P 113
theorem p_partner_west : P (f_partner_west P) = some (cf_partner_west (Lib.ix P)) := Lib.q5 (113, cf_partner_west (Lib.ix P)) (.tail _ (.tail _ (.tail _ (.tail _ (.tail _ (.tail _ (.tail _ (.tail _ (.tail _ (.tail _ (.tail _ (.tail _ (.tail _ (.head _))))))))))))))
abbrev f_drag_within : Nat := Lib.ix P 114
theorem p_drag_within : P (f_drag_within P) = some (cf_drag_within (Lib.ix P)) := Lib.q5 (114, cf_drag_within (Lib.ix P)) (.tail _ (.tail _ (.tail _ (.tail _ (.tail _ (.tail _ (.tail _ (.tail _ (.tail _ (.tail _ (.tail _ (.tail _ (.tail _ (.tail _ (.head _)))))))))))))))
abbrev f_places_with : Nat := Lib.ix P 115
theorem p_places_with : P (f_places_with P) = some (cf_places_with (Lib.ix P)) := Lib.q5 (115, cf_places_with (Lib.ix P)) (.tail _ (.tail _ (.tail _ (.tail _ (.tail _ (.tail _ (.tail _ (.tail _ (.tail _ (.tail _ (.tail _ (.tail _ (.tail _ (.tail _ (.tail _ (.head _))))))))))))))))
abbrev f_west_span : Nat := Lib.ix P 116
theorem p_west_span : P (f_west_span P) = some (cf_west_span (Lib.ix P)) := Lib.q5 (116, cf_west_span (Lib.ix P)) (.tail _ (.tail _ (.tail _ (.tail _ (.tail _ (.tail _ (.tail _ (.tail _ (.tail _ (.tail _ (.tail _ (.tail _ (.tail _ (.tail _ (.tail _ (.tail _ (.head _)))))))))))))))))
abbrev f_east_span : Nat := Lib.ix P 117
theorem p_east_span : P (f_east_span P) = some (cf_east_span (Lib.ix P)) := Lib.q5 (117, cf_east_span (Lib.ix P)) (.tail _ (.tail _ (.tail _ (.tail _ (.tail _ (.tail _ (.tail _ (.tail _ (.tail _ (.tail _ (.tail _ (.tail _ (.tail _ (.tail _ (.tail _ (.tail _ (.tail _ (.head _))))))))))))))))))
abbrev f_pair_at : Nat := Lib.ix P 118
theorem p_pair_at : P (f_pair_at P) = some (cf_pair_at (Lib.ix P)) := Lib.q5 (118, cf_pair_at (Lib.ix P)) (.tail _ (.tail _ (.tail _ (.tail _ (.tail _ (.tail _ (.tail _ (.tail _ (.tail _ (.tail _ (.tail _ (.tail _ (.tail _ (.tail _ (.tail _ (.tail _ (.tail _ (.tail _ (.head _)))))))))))))))))))
abbrev f_east_of : Nat := Lib.ix P 119
theorem p_east_of : P (f_east_of P) = some (cf_east_of (Lib.ix P)) := Lib.q5 (119, cf_east_of (Lib.ix P)) (.tail _ (.tail _ (.tail _ (.tail _ (.tail _ (.tail _ (.tail _ (.tail _ (.tail _ (.tail _ (.tail _ (.tail _ (.tail _ (.tail _ (.tail _ (.tail _ (.tail _ (.tail _ (.tail _ (.head _))))))))))))))))))))
abbrev f_west_of : Nat := Lib.ix P 120
theorem p_west_of : P (f_west_of P) = some (cf_west_of (Lib.ix P)) := Lib.q6 (120, cf_west_of (Lib.ix P)) (.head _)
abbrev f_law_partner : Nat := Lib.ix P 121
theorem p_law_partner : P (f_law_partner P) = some (cf_law_partner (Lib.ix P)) := Lib.q6 (121, cf_law_partner (Lib.ix P)) (.tail _ (.head _))
abbrev f_law_pair : Nat := Lib.ix P 122
theorem p_law_pair : P (f_law_pair P) = some (cf_law_pair (Lib.ix P)) := Lib.q6 (122, cf_law_pair (Lib.ix P)) (.tail _ (.tail _ (.head _)))
abbrev f_law_listed : Nat := Lib.ix P 123
theorem p_law_listed : P (f_law_listed P) = some (cf_law_listed (Lib.ix P)) := Lib.q6 (123, cf_law_listed (Lib.ix P)) (.tail _ (.tail _ (.tail _ (.head _))))
abbrev f_law_two_more : Nat := Lib.ix P 124
theorem p_law_two_more : P (f_law_two_more P) = some (cf_law_two_more (Lib.ix P)) := Lib.q6 (124, cf_law_two_more (Lib.ix P)) (.tail _ (.tail _ (.tail _ (.tail _ (.head _)))))
abbrev f_law_spans : Nat := Lib.ix P 125
theorem p_law_spans : P (f_law_spans P) = some (cf_law_spans (Lib.ix P)) := Lib.q6 (125, cf_law_spans (Lib.ix P)) (.tail _ (.tail _ (.tail _ (.tail _ (.tail _ (.head _))))))
abbrev f_law_spots : Nat := Lib.ix P 126
theorem p_law_spots : P (f_law_spots P) = some (cf_law_spots (Lib.ix P)) := Lib.q6 (126, cf_law_spots (Lib.ix P)) (.tail _ (.tail _ (.tail _ (.tail _ (.tail _ (.tail _ (.head _)))))))
abbrev f_check_splice : Nat := Lib.ix P 127
theorem p_check_splice : P (f_check_splice P) = some (cf_check_splice (Lib.ix P)) := Lib.q6 (127, cf_check_splice (Lib.ix P)) (.tail _ (.tail _ (.tail _ (.tail _ (.tail _ (.tail _ (.tail _ (.head _))))))))
abbrev f_part_cables : Nat := Lib.ix P 128
theorem p_part_cables : P (f_part_cables P) = some (cf_part_cables (Lib.ix P)) := Lib.q6 (128, cf_part_cables (Lib.ix P)) (.tail _ (.tail _ (.tail _ (.tail _ (.tail _ (.tail _ (.tail _ (.tail _ (.head _)))))))))
abbrev f_parts : Nat := Lib.ix P 129
theorem p_parts : P (f_parts P) = some (cf_parts (Lib.ix P)) := Lib.q6 (129, cf_parts (Lib.ix P)) (.tail _ (.tail _ (.tail _ (.tail _ (.tail _ (.tail _ (.tail _ (.tail _ (.tail _ (.head _))))))))))
abbrev f_leaks_parted : Nat := Lib.ix P 130
theorem p_leaks_parted : P (f_leaks_parted P) = some (cf_leaks_parted (Lib.ix P)) := Lib.q6 (130, cf_leaks_parted (Lib.ix P)) (.tail _ (.tail _ (.tail _ (.tail _ (.tail _ (.tail _ (.tail _ (.tail _ (.tail _ (.tail _ (.head _)))))))))))
abbrev f_east_drag : Nat := Lib.ix P 131
theorem p_east_drag : P (f_east_drag P) = some (cf_east_drag (Lib.ix P)) := Lib.q6 (131, cf_east_drag (Lib.ix P)) (.tail _ (.tail _ (.tail _ (.tail _ (.tail _ (.tail _ (.tail _ (.tail _ (.tail _ (.tail _ (.tail _ (.head _))))))))))))
abbrev f_west_drag : Nat := Lib.ix P 132
theorem p_west_drag : P (f_west_drag P) = some (cf_west_drag (Lib.ix P)) := Lib.q6 (132, cf_west_drag (Lib.ix P)) (.tail _ (.tail _ (.tail _ (.tail _ (.tail _ (.tail _ (.tail _ (.tail _ (.tail _ (.tail _ (.tail _ (.tail _ (.head _)))))))))))))
abbrev f_next_cut : Nat := Lib.ix P 133
theorem p_next_cut : P (f_next_cut P) = some (cf_next_cut (Lib.ix P)) := Lib.q6 (133, cf_next_cut (Lib.ix P)) (.tail _ (.tail _ (.tail _ (.tail _ (.tail _ (.tail _ (.tail _ (.tail _ (.tail _ (.tail _ (.tail _ (.tail _ (.tail _ (.head _))))))))))))))
abbrev f_cover_by : Nat := Lib.ix P 134
theorem p_cover_by : P (f_cover_by P) = some (cf_cover_by (Lib.ix P)) := Lib.q6 (134, cf_cover_by (Lib.ix P)) (.tail _ (.tail _ (.tail _ (.tail _ (.tail _ (.tail _ (.tail _ (.tail _ (.tail _ (.tail _ (.tail _ (.tail _ (.tail _ (.tail _ (.head _)))))))))))))))
abbrev f_cover_of : Nat := Lib.ix P 135
theorem p_cover_of : P (f_cover_of P) = some (cf_cover_of (Lib.ix P)) := Lib.q6 (135, cf_cover_of (Lib.ix P)) (.tail _ (.tail _ (.tail _ (.tail _ (.tail _ (.tail _ (.tail _ (.tail _ (.tail _ (.tail _ (.tail _ (.tail _ (.tail _ (.tail _ (.tail _ (.head _))))))))))))))))
abbrev f_law_east : Nat := Lib.ix P 136
theorem p_law_east : P (f_law_east P) = some (cf_law_east (Lib.ix P)) := Lib.q6 (136, cf_law_east (Lib.ix P)) (.tail _ (.tail _ (.tail _ (.tail _ (.tail _ (.tail _ (.tail _ (.tail _ (.tail _ (.tail _ (.tail _ (.tail _ (.tail _ (.tail _ (.tail _ (.tail _ (.head _)))))))))))))))))
abbrev f_law_west : Nat := Lib.ix P 137
theorem p_law_west : P (f_law_west P) = some (cf_law_west (Lib.ix P)) := Lib.q6 (137, cf_law_west (Lib.ix P)) (.tail _ (.tail _ (.tail _ (.tail _ (.tail _ (.tail _ (.tail _ (.tail _ (.tail _ (.tail _ (.tail _ (.tail _ (.tail _ (.tail _ (.tail _ (.tail _ (.tail _ (.head _))))))))))))))))))
abbrev f_law_splices : Nat := Lib.ix P 138
theorem p_law_splices : P (f_law_splices P) = some (cf_law_splices (Lib.ix P)) := Lib.q6 (138, cf_law_splices (Lib.ix P)) (.tail _ (.tail _ (.tail _ (.tail _ (.tail _ (.tail _ (.tail _ (.tail _ (.tail _ (.tail _ (.tail _ (.tail _ (.tail _ (.tail _ (.tail _ (.tail _ (.tail _ (.tail _ (.head _)))))))))))))))))))
abbrev f_law_most_west : Nat := Lib.ix P 139
theorem p_law_most_west : P (f_law_most_west P) = some (cf_law_most_west (Lib.ix P)) := Lib.q6 (139, cf_law_most_west (Lib.ix P)) (.tail _ (.tail _ (.tail _ (.tail _ (.tail _ (.tail _ (.tail _ (.tail _ (.tail _ (.tail _ (.tail _ (.tail _ (.tail _ (.tail _ (.tail _ (.tail _ (.tail _ (.tail _ (.tail _ (.head _))))))))))))))))))))
abbrev f_law_two : Nat := Lib.ix P 140
theorem p_law_two : P (f_law_two P) = some (cf_law_two (Lib.ix P)) := Lib.q7 (140, cf_law_two (Lib.ix P)) (.head _)
abbrev f_needed_for : Nat := Lib.ix P 141
theorem p_needed_for : P (f_needed_for P) = some (cf_needed_for (Lib.ix P)) := Lib.q7 (141, cf_needed_for (Lib.ix P)) (.tail _ (.head _))
abbrev f_cuts_needed : Nat := Lib.ix P 142
theorem p_cuts_needed : P (f_cuts_needed P) = some (cf_cuts_needed (Lib.ix P)) := Lib.q7 (142, cf_cuts_needed (Lib.ix P)) (.tail _ (.tail _ (.head _)))
abbrev f_stretch_told : Nat := Lib.ix P 143
theorem p_stretch_told : P (f_stretch_told P) = some (cf_stretch_told (Lib.ix P)) := Lib.q7 (143, cf_stretch_told (Lib.ix P)) (.tail _ (.tail _ (.tail _ (.head _))))
abbrev f_edge_drags : Nat := Lib.ix P 144
theorem p_edge_drags : P (f_edge_drags P) = some (cf_edge_drags (Lib.ix P)) := Lib.q7 (144, cf_edge_drags (Lib.ix P)) (.tail _ (.tail _ (.tail _ (.tail _ (.head _)))))
abbrev f_leak_moved : Nat := Lib.ix P 145
theorem p_leak_moved : P (f_leak_moved P) = some (cf_leak_moved (Lib.ix P)) := Lib.q7 (145, cf_leak_moved (Lib.ix P)) (.tail _ (.tail _ (.tail _ (.tail _ (.tail _ (.head _))))))
abbrev f_law_small_3 : Nat := Lib.ix P 146
theorem p_law_small_3 : P (f_law_small_3 P) = some (cf_law_small_3 (Lib.ix P)) := Lib.q7 (146, cf_law_small_3 (Lib.ix P)) (.tail _ (.tail _ (.tail _ (.tail _ (.tail _ (.tail _ (.head _)))))))
abbrev f_law_pair_2 : Nat := Lib.ix P 147
theorem p_law_pair_2 : P (f_law_pair_2 P) = some (cf_law_pair_2 (Lib.ix P)) := Lib.q7 (147, cf_law_pair_2 (Lib.ix P)) (.tail _ (.tail _ (.tail _ (.tail _ (.tail _ (.tail _ (.tail _ (.head _))))))))
abbrev f_law_drags : Nat := Lib.ix P 148
theorem p_law_drags : P (f_law_drags P) = some (cf_law_drags (Lib.ix P)) := Lib.q7 (148, cf_law_drags (Lib.ix P)) (.tail _ (.tail _ (.tail _ (.tail _ (.tail _ (.tail _ (.tail _ (.tail _ (.head _)))))))))
abbrev f_law_least : Nat := Lib.ix P 149
theorem p_law_least : P (f_law_least P) = some (cf_law_least (Lib.ix P)) := Lib.q7 (149, cf_law_least (Lib.ix P)) (.tail _ (.tail _ (.tail _ (.tail _ (.tail _ (.tail _ (.tail _ (.tail _ (.tail _ (.head _))))))))))
abbrev f_law_part : Nat := Lib.ix P 150
theorem p_law_part : P (f_law_part P) = some (cf_law_part (Lib.ix P)) := Lib.q7 (150, cf_law_part (Lib.ix P)) (.tail _ (.tail _ (.tail _ (.tail _ (.tail _ (.tail _ (.tail _ (.tail _ (.tail _ (.tail _ (.head _)))))))))))
abbrev f_law_days_cut : Nat := Lib.ix P 151
theorem p_law_days_cut : P (f_law_days_cut P) = some (cf_law_days_cut (Lib.ix P)) := Lib.q7 (151, cf_law_days_cut (Lib.ix P)) (.tail _ (.tail _ (.tail _ (.tail _ (.tail _ (.tail _ (.tail _ (.tail _ (.tail _ (.tail _ (.tail _ (.head _))))))))))))
abbrev f_check_days : Nat := Lib.ix P 152
theorem p_check_days : P (f_check_days P) = some (cf_check_days (Lib.ix P)) := Lib.q7 (152, cf_check_days (Lib.ix P)) (.tail _ (.tail _ (.tail _ (.tail _ (.tail _ (.tail _ (.tail _ (.tail _ (.tail _ (.tail _ (.tail _ (.tail _ (.head _)))))))))))))
abbrev f_two_drags : Nat := Lib.ix P 153
theorem p_two_drags : P (f_two_drags P) = some (cf_two_drags (Lib.ix P)) := Lib.q7 (153, cf_two_drags (Lib.ix P)) (.tail _ (.tail _ (.tail _ (.tail _ (.tail _ (.tail _ (.tail _ (.tail _ (.tail _ (.tail _ (.tail _ (.tail _ (.tail _ (.head _))))))))))))))
abbrev f_fits_by : Nat := Lib.ix P 154
theorem p_fits_by : P (f_fits_by P) = some (cf_fits_by (Lib.ix P)) := Lib.q7 (154, cf_fits_by (Lib.ix P)) (.tail _ (.tail _ (.tail _ (.tail _ (.tail _ (.tail _ (.tail _ (.tail _ (.tail _ (.tail _ (.tail _ (.tail _ (.tail _ (.tail _ (.head _)))))))))))))))
abbrev f_east_drag_2 : Nat := Lib.ix P 155
theorem p_east_drag_2 : P (f_east_drag_2 P) = some (cf_east_drag_2 (Lib.ix P)) := Lib.q7 (155, cf_east_drag_2 (Lib.ix P)) (.tail _ (.tail _ (.tail _ (.tail _ (.tail _ (.tail _ (.tail _ (.tail _ (.tail _ (.tail _ (.tail _ (.tail _ (.tail _ (.tail _ (.tail _ (.head _))))))))))))))))
abbrev f_west_drag_2 : Nat := Lib.ix P 156
theorem p_west_drag_2 : P (f_west_drag_2 P) = some (cf_west_drag_2 (Lib.ix P)) := Lib.q7 (156, cf_west_drag_2 (Lib.ix P)) (.tail _ (.tail _ (.tail _ (.tail _ (.tail _ (.tail _ (.tail _ (.tail _ (.tail _ (.tail _ (.tail _ (.tail _ (.tail _ (.tail _ (.tail _ (.tail _ (.head _)))))))))))))))))
abbrev f_roots_of : Nat := Lib.ix P 157
theorem p_roots_of : P (f_roots_of P) = some (cf_roots_of (Lib.ix P)) := Lib.q7 (157, cf_roots_of (Lib.ix P)) (.tail _ (.tail _ (.tail _ (.tail _ (.tail _ (.tail _ (.tail _ (.tail _ (.tail _ (.tail _ (.tail _ (.tail _ (.tail _ (.tail _ (.tail _ (.tail _ (.tail _ (.head _))))))))))))))))))
abbrev f_pairs_of_two : Nat := Lib.ix P 158
theorem p_pairs_of_two : P (f_pairs_of_two P) = some (cf_pairs_of_two (Lib.ix P)) := Lib.q7 (158, cf_pairs_of_two (Lib.ix P)) (.tail _ (.tail _ (.tail _ (.tail _ (.tail _ (.tail _ (.tail _ (.tail _ (.tail _ (.tail _ (.tail _ (.tail _ (.tail _ (.tail _ (.tail _ (.tail _ (.tail _ (.tail _ (.head _)))))))))))))))))))
abbrev f_pairs_with : Nat := Lib.ix P 159
theorem p_pairs_with : P (f_pairs_with P) = some (cf_pairs_with (Lib.ix P)) := Lib.q7 (159, cf_pairs_with (Lib.ix P)) (.tail _ (.tail _ (.tail _ (.tail _ (.tail _ (.tail _ (.tail _ (.tail _ (.tail _ (.tail _ (.tail _ (.tail _ (.tail _ (.tail _ (.tail _ (.tail _ (.tail _ (.tail _ (.tail _ (.head _))))))))))))))))))))
abbrev f_pairs_of : Nat := Lib.ix P 160
theorem p_pairs_of : P (f_pairs_of P) = some (cf_pairs_of (Lib.ix P)) := Lib.q8 (160, cf_pairs_of (Lib.ix P)) (.head _)
abbrev f_fit_all : Nat := Lib.ix P 161
theorem p_fit_all : P (f_fit_all P) = some (cf_fit_all (Lib.ix P)) := Lib.q8 (161, cf_fit_all (Lib.ix P)) (.tail _ (.head _))
abbrev f_is_before : Nat := Lib.ix P 162
theorem p_is_before : P (f_is_before P) = some (cf_is_before (Lib.ix P)) := Lib.q8 (162, cf_is_before (Lib.ix P)) (.tail _ (.tail _ (.head _)))
abbrev f_pairs_told : Nat := Lib.ix P 163
theorem p_pairs_told : P (f_pairs_told P) = some (cf_pairs_told (Lib.ix P)) := Lib.q8 (163, cf_pairs_told (Lib.ix P)) (.tail _ (.tail _ (.tail _ (.head _))))
abbrev f_are_apart : Nat := Lib.ix P 164
theorem p_are_apart : P (f_are_apart P) = some (cf_are_apart (Lib.ix P)) := Lib.q8 (164, cf_are_apart (Lib.ix P)) (.tail _ (.tail _ (.tail _ (.tail _ (.head _)))))
abbrev f_telling_by : Nat := Lib.ix P 165
theorem p_telling_by : P (f_telling_by P) = some (cf_telling_by (Lib.ix P)) := Lib.q8 (165, cf_telling_by (Lib.ix P)) (.tail _ (.tail _ (.tail _ (.tail _ (.tail _ (.head _))))))
abbrev f_telling : Nat := Lib.ix P 166
theorem p_telling : P (f_telling P) = some (cf_telling (Lib.ix P)) := Lib.q8 (166, cf_telling (Lib.ix P)) (.tail _ (.tail _ (.tail _ (.tail _ (.tail _ (.tail _ (.head _)))))))
abbrev f_law_kind_2 : Nat := Lib.ix P 167
theorem p_law_kind_2 : P (f_law_kind_2 P) = some (cf_law_kind_2 (Lib.ix P)) := Lib.q8 (167, cf_law_kind_2 (Lib.ix P)) (.tail _ (.tail _ (.tail _ (.tail _ (.tail _ (.tail _ (.tail _ (.head _))))))))
abbrev f_law_fits : Nat := Lib.ix P 168
theorem p_law_fits : P (f_law_fits P) = some (cf_law_fits (Lib.ix P)) := Lib.q8 (168, cf_law_fits (Lib.ix P)) (.tail _ (.tail _ (.tail _ (.tail _ (.tail _ (.tail _ (.tail _ (.tail _ (.head _)))))))))
abbrev f_law_some_drag : Nat := Lib.ix P 169
theorem p_law_some_drag : P (f_law_some_drag P) = some (cf_law_some_drag (Lib.ix P)) := Lib.q8 (169, cf_law_some_drag (Lib.ix P)) (.tail _ (.tail _ (.tail _ (.tail _ (.tail _ (.tail _ (.tail _ (.tail _ (.tail _ (.head _))))))))))
abbrev f_law_hidden_2 : Nat := Lib.ix P 170
theorem p_law_hidden_2 : P (f_law_hidden_2 P) = some (cf_law_hidden_2 (Lib.ix P)) := Lib.q8 (170, cf_law_hidden_2 (Lib.ix P)) (.tail _ (.tail _ (.tail _ (.tail _ (.tail _ (.tail _ (.tail _ (.tail _ (.tail _ (.tail _ (.head _)))))))))))
abbrev f_law_hidden_day : Nat := Lib.ix P 171
theorem p_law_hidden_day : P (f_law_hidden_day P) = some (cf_law_hidden_day (Lib.ix P)) := Lib.q8 (171, cf_law_hidden_day (Lib.ix P)) (.tail _ (.tail _ (.tail _ (.tail _ (.tail _ (.tail _ (.tail _ (.tail _ (.tail _ (.tail _ (.tail _ (.head _))))))))))))
abbrev f_law_days : Nat := Lib.ix P 172
theorem p_law_days : P (f_law_days P) = some (cf_law_days (Lib.ix P)) := Lib.q8 (172, cf_law_days (Lib.ix P)) (.tail _ (.tail _ (.tail _ (.tail _ (.tail _ (.tail _ (.tail _ (.tail _ (.tail _ (.tail _ (.tail _ (.tail _ (.head _)))))))))))))
abbrev f_check_places : Nat := Lib.ix P 173
theorem p_check_places : P (f_check_places P) = some (cf_check_places (Lib.ix P)) := Lib.q8 (173, cf_check_places (Lib.ix P)) (.tail _ (.tail _ (.tail _ (.tail _ (.tail _ (.tail _ (.tail _ (.tail _ (.tail _ (.tail _ (.tail _ (.tail _ (.tail _ (.head _))))))))))))))
abbrev f_drags_by : Nat := Lib.ix P 174
theorem p_drags_by : P (f_drags_by P) = some (cf_drags_by (Lib.ix P)) := Lib.q8 (174, cf_drags_by (Lib.ix P)) (.tail _ (.tail _ (.tail _ (.tail _ (.tail _ (.tail _ (.tail _ (.tail _ (.tail _ (.tail _ (.tail _ (.tail _ (.tail _ (.tail _ (.head _)))))))))))))))
abbrev f_clash_by : Nat := Lib.ix P 175
theorem p_clash_by : P (f_clash_by P) = some (cf_clash_by (Lib.ix P)) := Lib.q8 (175, cf_clash_by (Lib.ix P)) (.tail _ (.tail _ (.tail _ (.tail _ (.tail _ (.tail _ (.tail _ (.tail _ (.tail _ (.tail _ (.tail _ (.tail _ (.tail _ (.tail _ (.tail _ (.head _))))))))))))))))
abbrev f_clash_of : Nat := Lib.ix P 176
theorem p_clash_of : P (f_clash_of P) = some (cf_clash_of (Lib.ix P)) := Lib.q8 (176, cf_clash_of (Lib.ix P)) (.tail _ (.tail _ (.tail _ (.tail _ (.tail _ (.tail _ (.tail _ (.tail _ (.tail _ (.tail _ (.tail _ (.tail _ (.tail _ (.tail _ (.tail _ (.tail _ (.head _)))))))))))))))))
abbrev f_check_length : Nat := Lib.ix P 177
theorem p_check_length : P (f_check_length P) = some (cf_check_length (Lib.ix P)) := Lib.q8 (177, cf_check_length (Lib.ix P)) (.tail _ (.tail _ (.tail _ (.tail _ (.tail _ (.tail _ (.tail _ (.tail _ (.tail _ (.tail _ (.tail _ (.tail _ (.tail _ (.tail _ (.tail _ (.tail _ (.tail _ (.head _))))))))))))))))))
abbrev f_check_number : Nat := Lib.ix P 178
theorem p_check_number : P (f_check_number P) = some (cf_check_number (Lib.ix P)) := Lib.q8 (178, cf_check_number (Lib.ix P)) (.tail _ (.tail _ (.tail _ (.tail _ (.tail _ (.tail _ (.tail _ (.tail _ (.tail _ (.tail _ (.tail _ (.tail _ (.tail _ (.tail _ (.tail _ (.tail _ (.tail _ (.tail _ (.head _)))))))))))))))))))
abbrev f_exchange : Nat := Lib.ix P 179
theorem p_exchange : P (f_exchange P) = some (cf_exchange (Lib.ix P)) := Lib.q8 (179, cf_exchange (Lib.ix P)) (.tail _ (.tail _ (.tail _ (.tail _ (.tail _ (.tail _ (.tail _ (.tail _ (.tail _ (.tail _ (.tail _ (.tail _ (.tail _ (.tail _ (.tail _ (.tail _ (.tail _ (.tail _ (.tail _ (.head _))))))))))))))))))))
abbrev f_exchanged : Nat := Lib.ix P 180
theorem p_exchanged : P (f_exchanged P) = some (cf_exchanged (Lib.ix P)) := Lib.q9 (180, cf_exchanged (Lib.ix P)) (.head _)
abbrev f_check_room : Nat := Lib.ix P 181
theorem p_check_room : P (f_check_room P) = some (cf_check_room (Lib.ix P)) := Lib.q9 (181, cf_check_room (Lib.ix P)) (.tail _ (.head _))
abbrev f_add_cables : Nat := Lib.ix P 182
theorem p_add_cables : P (f_add_cables P) = some (cf_add_cables (Lib.ix P)) := Lib.q9 (182, cf_add_cables (Lib.ix P)) (.tail _ (.tail _ (.head _)))
abbrev f_added : Nat := Lib.ix P 183
theorem p_added : P (f_added P) = some (cf_added (Lib.ix P)) := Lib.q9 (183, cf_added (Lib.ix P)) (.tail _ (.tail _ (.tail _ (.head _))))
abbrev f_turned : Nat := Lib.ix P 184
theorem p_turned : P (f_turned P) = some (cf_turned (Lib.ix P)) := Lib.q9 (184, cf_turned (Lib.ix P)) (.tail _ (.tail _ (.tail _ (.tail _ (.head _)))))
abbrev f_leaks_turned : Nat := Lib.ix P 185
theorem p_leaks_turned : P (f_leaks_turned P) = some (cf_leaks_turned (Lib.ix P)) := Lib.q9 (185, cf_leaks_turned (Lib.ix P)) (.tail _ (.tail _ (.tail _ (.tail _ (.tail _ (.head _))))))
abbrev f_leaks_added : Nat := Lib.ix P 186
theorem p_leaks_added : P (f_leaks_added P) = some (cf_leaks_added (Lib.ix P)) := Lib.q9 (186, cf_leaks_added (Lib.ix P)) (.tail _ (.tail _ (.tail _ (.tail _ (.tail _ (.tail _ (.head _)))))))
abbrev f_wall : Nat := Lib.ix P 187
theorem p_wall : P (f_wall P) = some (cf_wall (Lib.ix P)) := Lib.q9 (187, cf_wall (Lib.ix P)) (.tail _ (.tail _ (.tail _ (.tail _ (.tail _ (.tail _ (.tail _ (.head _))))))))
abbrev f_check_date : Nat := Lib.ix P 188
theorem p_check_date : P (f_check_date P) = some (cf_check_date (Lib.ix P)) := Lib.q9 (188, cf_check_date (Lib.ix P)) (.tail _ (.tail _ (.tail _ (.tail _ (.tail _ (.tail _ (.tail _ (.tail _ (.head _)))))))))
abbrev f_law_length : Nat := Lib.ix P 189
theorem p_law_length : P (f_law_length P) = some (cf_law_length (Lib.ix P)) := Lib.q9 (189, cf_law_length (Lib.ix P)) (.tail _ (.tail _ (.tail _ (.tail _ (.tail _ (.tail _ (.tail _ (.tail _ (.tail _ (.head _))))))))))
abbrev f_law_any_readings : Nat := Lib.ix P 190
theorem p_law_any_readings : P (f_law_any_readings P) = some (cf_law_any_readings (Lib.ix P)) := Lib.q9 (190, cf_law_any_readings (Lib.ix P)) (.tail _ (.tail _ (.tail _ (.tail _ (.tail _ (.tail _ (.tail _ (.tail _ (.tail _ (.tail _ (.head _)))))))))))
abbrev f_is_day_of : Nat := Lib.ix P 191
theorem p_is_day_of : P (f_is_day_of P) = some (cf_is_day_of (Lib.ix P)) := Lib.q9 (191, cf_is_day_of (Lib.ix P)) (.tail _ (.tail _ (.tail _ (.tail _ (.tail _ (.tail _ (.tail _ (.tail _ (.tail _ (.tail _ (.tail _ (.head _))))))))))))
abbrev f_read_by : Nat := Lib.ix P 192
theorem p_read_by : P (f_read_by P) = some (cf_read_by (Lib.ix P)) := Lib.q9 (192, cf_read_by (Lib.ix P)) (.tail _ (.tail _ (.tail _ (.tail _ (.tail _ (.tail _ (.tail _ (.tail _ (.tail _ (.tail _ (.tail _ (.tail _ (.head _)))))))))))))
abbrev f_four_of_2 : Nat := Lib.ix P 193
theorem p_four_of_2 : P (f_four_of_2 P) = some (cf_four_of_2 (Lib.ix P)) := Lib.q9 (193, cf_four_of_2 (Lib.ix P)) (.tail _ (.tail _ (.tail _ (.tail _ (.tail _ (.tail _ (.tail _ (.tail _ (.tail _ (.tail _ (.tail _ (.tail _ (.tail _ (.head _))))))))))))))
abbrev f_is_quiet : Nat := Lib.ix P 194
theorem p_is_quiet : P (f_is_quiet P) = some (cf_is_quiet (Lib.ix P)) := Lib.q9 (194, cf_is_quiet (Lib.ix P)) (.tail _ (.tail _ (.tail _ (.tail _ (.tail _ (.tail _ (.tail _ (.tail _ (.tail _ (.tail _ (.tail _ (.tail _ (.tail _ (.tail _ (.head _)))))))))))))))
abbrev f_wrong_word : Nat := Lib.ix P 195
theorem p_wrong_word : P (f_wrong_word P) = some (cf_wrong_word (Lib.ix P)) := Lib.q9 (195, cf_wrong_word (Lib.ix P)) (.tail _ (.tail _ (.tail _ (.tail _ (.tail _ (.tail _ (.tail _ (.tail _ (.tail _ (.tail _ (.tail _ (.tail _ (.tail _ (.tail _ (.tail _ (.head _))))))))))))))))
abbrev f_kind_seen : Nat := Lib.ix P 196
theorem p_kind_seen : P (f_kind_seen P) = some (cf_kind_seen (Lib.ix P)) := Lib.q9 (196, cf_kind_seen (Lib.ix P)) (.tail _ (.tail _ (.tail _ (.tail _ (.tail _ (.tail _ (.tail _ (.tail _ (.tail _ (.tail _ (.tail _ (.tail _ (.tail _ (.tail _ (.tail _ (.tail _ (.head _)))))))))))))))))
abbrev f_one_taken : Nat := Lib.ix P 197
theorem p_one_taken : P (f_one_taken P) = some (cf_one_taken (Lib.ix P)) := Lib.q9 (197, cf_one_taken (Lib.ix P)) (.tail _ (.tail _ (.tail _ (.tail _ (.tail _ (.tail _ (.tail _ (.tail _ (.tail _ (.tail _ (.tail _ (.tail _ (.tail _ (.tail _ (.tail _ (.tail _ (.tail _ (.head _))))))))))))))))))
abbrev f_pair_taken : Nat := Lib.ix P 198
theorem p_pair_taken : P (f_pair_taken P) = some (cf_pair_taken (Lib.ix P)) := Lib.q9 (198, cf_pair_taken (Lib.ix P)) (.tail _ (.tail _ (.tail _ (.tail _ (.tail _ (.tail _ (.tail _ (.tail _ (.tail _ (.tail _ (.tail _ (.tail _ (.tail _ (.tail _ (.tail _ (.tail _ (.tail _ (.tail _ (.head _)))))))))))))))))))
abbrev f_wrong_taken : Nat := Lib.ix P 199
theorem p_wrong_taken : P (f_wrong_taken P) = some (cf_wrong_taken (Lib.ix P)) := Lib.q9 (199, cf_wrong_taken (Lib.ix P)) (.tail _ (.tail _ (.tail _ (.tail _ (.tail _ (.tail _ (.tail _ (.tail _ (.tail _ (.tail _ (.tail _ (.tail _ (.tail _ (.tail _ (.tail _ (.tail _ (.tail _ (.tail _ (.tail _ (.head _))))))))))))))))))))
abbrev f_least_parted : Nat := Lib.ix P 200
theorem p_least_parted : P (f_least_parted P) = some (cf_least_parted (Lib.ix P)) := Lib.q10 (200, cf_least_parted (Lib.ix P)) (.head _)
abbrev f_does_part : Nat := Lib.ix P 201
theorem p_does_part : P (f_does_part P) = some (cf_does_part (Lib.ix P)) := Lib.q10 (201, cf_does_part (Lib.ix P)) (.tail _ (.head _))
abbrev f_most_west : Nat := Lib.ix P 202
theorem p_most_west : P (f_most_west P) = some (cf_most_west (Lib.ix P)) := Lib.q10 (202, cf_most_west (Lib.ix P)) (.tail _ (.tail _ (.head _)))
abbrev f_is_covered : Nat := Lib.ix P 203
theorem p_is_covered : P (f_is_covered P) = some (cf_is_covered (Lib.ix P)) := Lib.q10 (203, cf_is_covered (Lib.ix P)) (.tail _ (.tail _ (.tail _ (.head _))))
abbrev f_are_cuts : Nat := Lib.ix P 204
theorem p_are_cuts : P (f_are_cuts P) = some (cf_are_cuts (Lib.ix P)) := Lib.q10 (204, cf_are_cuts (Lib.ix P)) (.tail _ (.tail _ (.tail _ (.tail _ (.head _)))))
abbrev f_are_spots : Nat := Lib.ix P 205
theorem p_are_spots : P (f_are_spots P) = some (cf_are_spots (Lib.ix P)) := Lib.q10 (205, cf_are_spots (Lib.ix P)) (.tail _ (.tail _ (.tail _ (.tail _ (.tail _ (.head _))))))
abbrev f_are_apart_2 : Nat := Lib.ix P 206
theorem p_are_apart_2 : P (f_are_apart_2 P) = some (cf_are_apart_2 (Lib.ix P)) := Lib.q10 (206, cf_are_apart_2 (Lib.ix P)) (.tail _ (.tail _ (.tail _ (.tail _ (.tail _ (.tail _ (.head _)))))))
abbrev f_are_days : Nat := Lib.ix P 207
theorem p_are_days : P (f_are_days P) = some (cf_are_days (Lib.ix P)) := Lib.q10 (207, cf_are_days (Lib.ix P)) (.tail _ (.tail _ (.tail _ (.tail _ (.tail _ (.tail _ (.tail _ (.head _))))))))
abbrev f_are_places : Nat := Lib.ix P 208
theorem p_are_places : P (f_are_places P) = some (cf_are_places (Lib.ix P)) := Lib.q10 (208, cf_are_places (Lib.ix P)) (.tail _ (.tail _ (.tail _ (.tail _ (.tail _ (.tail _ (.tail _ (.tail _ (.head _)))))))))
abbrev f_made_so : Nat := Lib.ix P 209
theorem p_made_so : P (f_made_so P) = some (cf_made_so (Lib.ix P)) := Lib.q10 (209, cf_made_so (Lib.ix P)) (.tail _ (.tail _ (.tail _ (.tail _ (.tail _ (.tail _ (.tail _ (.tail _ (.tail _ (.head _))))))))))
abbrev f_do_fit : Nat := Lib.ix P 210
theorem p_do_fit : P (f_do_fit P) = some (cf_do_fit (Lib.ix P)) := Lib.q10 (210, cf_do_fit (Lib.ix P)) (.tail _ (.tail _ (.tail _ (.tail _ (.tail _ (.tail _ (.tail _ (.tail _ (.tail _ (.tail _ (.head _)))))))))))
abbrev f_arms_fit : Nat := Lib.ix P 211
theorem p_arms_fit : P (f_arms_fit P) = some (cf_arms_fit (Lib.ix P)) := Lib.q10 (211, cf_arms_fit (Lib.ix P)) (.tail _ (.tail _ (.tail _ (.tail _ (.tail _ (.tail _ (.tail _ (.tail _ (.tail _ (.tail _ (.tail _ (.head _))))))))))))
abbrev f_does_fit : Nat := Lib.ix P 212
theorem p_does_fit : P (f_does_fit P) = some (cf_does_fit (Lib.ix P)) := Lib.q10 (212, cf_does_fit (Lib.ix P)) (.tail _ (.tail _ (.tail _ (.tail _ (.tail _ (.tail _ (.tail _ (.tail _ (.tail _ (.tail _ (.tail _ (.tail _ (.head _)))))))))))))
abbrev f_fit_all_2 : Nat := Lib.ix P 213
theorem p_fit_all_2 : P (f_fit_all_2 P) = some (cf_fit_all_2 (Lib.ix P)) := Lib.q10 (213, cf_fit_all_2 (Lib.ix P)) (.tail _ (.tail _ (.tail _ (.tail _ (.tail _ (.tail _ (.tail _ (.tail _ (.tail _ (.tail _ (.tail _ (.tail _ (.tail _ (.head _))))))))))))))
abbrev f_are_unlike : Nat := Lib.ix P 214
theorem p_are_unlike : P (f_are_unlike P) = some (cf_are_unlike (Lib.ix P)) := Lib.q10 (214, cf_are_unlike (Lib.ix P)) (.tail _ (.tail _ (.tail _ (.tail _ (.tail _ (.tail _ (.tail _ (.tail _ (.tail _ (.tail _ (.tail _ (.tail _ (.tail _ (.tail _ (.head _)))))))))))))))
abbrev f_beside_2 : Nat := Lib.ix P 215
theorem p_beside_2 : P (f_beside_2 P) = some (cf_beside_2 (Lib.ix P)) := Lib.q10 (215, cf_beside_2 (Lib.ix P)) (.tail _ (.tail _ (.tail _ (.tail _ (.tail _ (.tail _ (.tail _ (.tail _ (.tail _ (.tail _ (.tail _ (.tail _ (.tail _ (.tail _ (.tail _ (.head _))))))))))))))))
abbrev f_arms_of_both : Nat := Lib.ix P 216
theorem p_arms_of_both : P (f_arms_of_both P) = some (cf_arms_of_both (Lib.ix P)) := Lib.q10 (216, cf_arms_of_both (Lib.ix P)) (.tail _ (.tail _ (.tail _ (.tail _ (.tail _ (.tail _ (.tail _ (.tail _ (.tail _ (.tail _ (.tail _ (.tail _ (.tail _ (.tail _ (.tail _ (.tail _ (.head _)))))))))))))))))
abbrev f_possible_pairs : Nat := Lib.ix P 217
theorem p_possible_pairs : P (f_possible_pairs P) = some (cf_possible_pairs (Lib.ix P)) := Lib.q10 (217, cf_possible_pairs (Lib.ix P)) (.tail _ (.tail _ (.tail _ (.tail _ (.tail _ (.tail _ (.tail _ (.tail _ (.tail _ (.tail _ (.tail _ (.tail _ (.tail _ (.tail _ (.tail _ (.tail _ (.tail _ (.head _))))))))))))))))))
abbrev f_is_number : Nat := Lib.ix P 218
theorem p_is_number : P (f_is_number P) = some (cf_is_number (Lib.ix P)) := Lib.q10 (218, cf_is_number (Lib.ix P)) (.tail _ (.tail _ (.tail _ (.tail _ (.tail _ (.tail _ (.tail _ (.tail _ (.tail _ (.tail _ (.tail _ (.tail _ (.tail _ (.tail _ (.tail _ (.tail _ (.tail _ (.tail _ (.head _)))))))))))))))))))
abbrev f_are_numbers : Nat := Lib.ix P 219
theorem p_are_numbers : P (f_are_numbers P) = some (cf_are_numbers (Lib.ix P)) := Lib.q10 (219, cf_are_numbers (Lib.ix P)) (.tail _ (.tail _ (.tail _ (.tail _ (.tail _ (.tail _ (.tail _ (.tail _ (.tail _ (.tail _ (.tail _ (.tail _ (.tail _ (.tail _ (.tail _ (.tail _ (.tail _ (.tail _ (.tail _ (.head _))))))))))))))))))))
abbrev f_east_with : Nat := Lib.ix P 220
theorem p_east_with : P (f_east_with P) = some (cf_east_with (Lib.ix P)) := Lib.q11 (220, cf_east_with (Lib.ix P)) (.head _)
abbrev f_ways_seen : Nat := Lib.ix P 221
theorem p_ways_seen : P (f_ways_seen P) = some (cf_ways_seen (Lib.ix P)) := Lib.q11 (221, cf_ways_seen (Lib.ix P)) (.tail _ (.head _))
abbrev f_left_by : Nat := Lib.ix P 222
theorem p_left_by : P (f_left_by P) = some (cf_left_by (Lib.ix P)) := Lib.q11 (222, cf_left_by (Lib.ix P)) (.tail _ (.tail _ (.head _)))
abbrev f_are_stretches : Nat := Lib.ix P 223
theorem p_are_stretches : P (f_are_stretches P) = some (cf_are_stretches (Lib.ix P)) := Lib.q11 (223, cf_are_stretches (Lib.ix P)) (.tail _ (.tail _ (.tail _ (.head _))))
abbrev f_holds_one : Nat := Lib.ix P 224
theorem p_holds_one : P (f_holds_one P) = some (cf_holds_one (Lib.ix P)) := Lib.q11 (224, cf_holds_one (Lib.ix P)) (.tail _ (.tail _ (.tail _ (.tail _ (.head _)))))
abbrev f_does_need : Nat := Lib.ix P 225
theorem p_does_need : P (f_does_need P) = some (cf_does_need (Lib.ix P)) := Lib.q11 (225, cf_does_need (Lib.ix P)) (.tail _ (.tail _ (.tail _ (.tail _ (.tail _ (.head _))))))
abbrev f_is_plan : Nat := Lib.ix P 226
theorem p_is_plan : P (f_is_plan P) = some (cf_is_plan (Lib.ix P)) := Lib.q11 (226, cf_is_plan (Lib.ix P)) (.tail _ (.tail _ (.tail _ (.tail _ (.tail _ (.tail _ (.head _)))))))
abbrev f_lamp_taken : Nat := Lib.ix P 227
theorem p_lamp_taken : P (f_lamp_taken P) = some (cf_lamp_taken (Lib.ix P)) := Lib.q11 (227, cf_lamp_taken (Lib.ix P)) (.tail _ (.tail _ (.tail _ (.tail _ (.tail _ (.tail _ (.tail _ (.head _))))))))
abbrev f_short_taken : Nat := Lib.ix P 228
theorem p_short_taken : P (f_short_taken P) = some (cf_short_taken (Lib.ix P)) := Lib.q11 (228, cf_short_taken (Lib.ix P)) (.tail _ (.tail _ (.tail _ (.tail _ (.tail _ (.tail _ (.tail _ (.tail _ (.head _)))))))))
abbrev f_kind_by_2 : Nat := Lib.ix P 229
theorem p_kind_by_2 : P (f_kind_by_2 P) = some (cf_kind_by_2 (Lib.ix P)) := Lib.q11 (229, cf_kind_by_2 (Lib.ix P)) (.tail _ (.tail _ (.tail _ (.tail _ (.tail _ (.tail _ (.tail _ (.tail _ (.tail _ (.head _))))))))))
abbrev f_check_two_2 : Nat := Lib.ix P 230
theorem p_check_two_2 : P (f_check_two_2 P) = some (cf_check_two_2 (Lib.ix P)) := Lib.q11 (230, cf_check_two_2 (Lib.ix P)) (.tail _ (.tail _ (.tail _ (.tail _ (.tail _ (.tail _ (.tail _ (.tail _ (.tail _ (.tail _ (.head _)))))))))))
abbrev f_pair_at_2 : Nat := Lib.ix P 231
theorem p_pair_at_2 : P (f_pair_at_2 P) = some (cf_pair_at_2 (Lib.ix P)) := Lib.q11 (231, cf_pair_at_2 (Lib.ix P)) (.tail _ (.tail _ (.tail _ (.tail _ (.tail _ (.tail _ (.tail _ (.tail _ (.tail _ (.tail _ (.tail _ (.head _))))))))))))
abbrev f_law_day_2 : Nat := Lib.ix P 232
theorem p_law_day_2 : P (f_law_day_2 P) = some (cf_law_day_2 (Lib.ix P)) := Lib.q11 (232, cf_law_day_2 (Lib.ix P)) (.tail _ (.tail _ (.tail _ (.tail _ (.tail _ (.tail _ (.tail _ (.tail _ (.tail _ (.tail _ (.tail _ (.tail _ (.head _)))))))))))))
abbrev f_law_is_day : Nat := Lib.ix P 233
theorem p_law_is_day : P (f_law_is_day P) = some (cf_law_is_day (Lib.ix P)) := Lib.q11 (233, cf_law_is_day (Lib.ix P)) (.tail _ (.tail _ (.tail _ (.tail _ (.tail _ (.tail _ (.tail _ (.tail _ (.tail _ (.tail _ (.tail _ (.tail _ (.tail _ (.head _))))))))))))))
abbrev f_law_kind_3 : Nat := Lib.ix P 234
theorem p_law_kind_3 : P (f_law_kind_3 P) = some (cf_law_kind_3 (Lib.ix P)) := Lib.q11 (234, cf_law_kind_3 (Lib.ix P)) (.tail _ (.tail _ (.tail _ (.tail _ (.tail _ (.tail _ (.tail _ (.tail _ (.tail _ (.tail _ (.tail _ (.tail _ (.tail _ (.tail _ (.head _)))))))))))))))
abbrev f_law_any_day : Nat := Lib.ix P 235
theorem p_law_any_day : P (f_law_any_day P) = some (cf_law_any_day (Lib.ix P)) := Lib.q11 (235, cf_law_any_day (Lib.ix P)) (.tail _ (.tail _ (.tail _ (.tail _ (.tail _ (.tail _ (.tail _ (.tail _ (.tail _ (.tail _ (.tail _ (.tail _ (.tail _ (.tail _ (.tail _ (.head _))))))))))))))))
abbrev f_law_some_days_2 : Nat := Lib.ix P 236
theorem p_law_some_days_2 : P (f_law_some_days_2 P) = some (cf_law_some_days_2 (Lib.ix P)) := Lib.q11 (236, cf_law_some_days_2 (Lib.ix P)) (.tail _ (.tail _ (.tail _ (.tail _ (.tail _ (.tail _ (.tail _ (.tail _ (.tail _ (.tail _ (.tail _ (.tail _ (.tail _ (.tail _ (.tail _ (.tail _ (.head _)))))))))))))))))
abbrev f_cuts_taken_3 : Nat := Lib.ix P 237
theorem p_cuts_taken_3 : P (f_cuts_taken_3 P) = some (cf_cuts_taken_3 (Lib.ix P)) := Lib.q11 (237, cf_cuts_taken_3 (Lib.ix P)) (.tail _ (.tail _ (.tail _ (.tail _ (.tail _ (.tail _ (.tail _ (.tail _ (.tail _ (.tail _ (.tail _ (.tail _ (.tail _ (.tail _ (.tail _ (.tail _ (.tail _ (.head _))))))))))))))))))
abbrev f_pairs_that_fit_3 : Nat := Lib.ix P 238
theorem p_pairs_that_fit_3 : P (f_pairs_that_fit_3 P) = some (cf_pairs_that_fit_3 (Lib.ix P)) := Lib.q11 (238, cf_pairs_that_fit_3 (Lib.ix P)) (.tail _ (.tail _ (.tail _ (.tail _ (.tail _ (.tail _ (.tail _ (.tail _ (.tail _ (.tail _ (.tail _ (.tail _ (.tail _ (.tail _ (.tail _ (.tail _ (.tail _ (.tail _ (.head _)))))))))))))))))))
abbrev f_are_all_3 : Nat := Lib.ix P 239
theorem p_are_all_3 : P (f_are_all_3 P) = some (cf_are_all_3 (Lib.ix P)) := Lib.q11 (239, cf_are_all_3 (Lib.ix P)) (.tail _ (.tail _ (.tail _ (.tail _ (.tail _ (.tail _ (.tail _ (.tail _ (.tail _ (.tail _ (.tail _ (.tail _ (.tail _ (.tail _ (.tail _ (.tail _ (.tail _ (.tail _ (.tail _ (.head _))))))))))))))))))))
abbrev f_clash_together_3 : Nat := Lib.ix P 240
theorem p_clash_together_3 : P (f_clash_together_3 P) = some (cf_clash_together_3 (Lib.ix P)) := Lib.q12 (240, cf_clash_together_3 (Lib.ix P)) (.head _)
abbrev f_do_clash_3 : Nat := Lib.ix P 241
theorem p_do_clash_3 : P (f_do_clash_3 P) = some (cf_do_clash_3 (Lib.ix P)) := Lib.q12 (241, cf_do_clash_3 (Lib.ix P)) (.tail _ (.head _))
abbrev f_day_taken_3 : Nat := Lib.ix P 242
theorem p_day_taken_3 : P (f_day_taken_3 P) = some (cf_day_taken_3 (Lib.ix P)) := Lib.q12 (242, cf_day_taken_3 (Lib.ix P)) (.tail _ (.tail _ (.head _)))
abbrev f_days_taken_3 : Nat := Lib.ix P 243
theorem p_days_taken_3 : P (f_days_taken_3 P) = some (cf_days_taken_3 (Lib.ix P)) := Lib.q12 (243, cf_days_taken_3 (Lib.ix P)) (.tail _ (.tail _ (.tail _ (.head _))))
abbrev f_holds_3 : Nat := Lib.ix P 244
theorem p_holds_3 : P (f_holds_3 P) = some (cf_holds_3 (Lib.ix P)) := Lib.q12 (244, cf_holds_3 (Lib.ix P)) (.tail _ (.tail _ (.tail _ (.tail _ (.head _)))))
abbrev f_west_span_2 : Nat := Lib.ix P 245
theorem p_west_span_2 : P (f_west_span_2 P) = some (cf_west_span_2 (Lib.ix P)) := Lib.q12 (245, cf_west_span_2 (Lib.ix P)) (.tail _ (.tail _ (.tail _ (.tail _ (.tail _ (.head _))))))
abbrev f_two_drags_2 : Nat := Lib.ix P 246
theorem p_two_drags_2 : P (f_two_drags_2 P) = some (cf_two_drags_2 (Lib.ix P)) := Lib.q12 (246, cf_two_drags_2 (Lib.ix P)) (.tail _ (.tail _ (.tail _ (.tail _ (.tail _ (.tail _ (.head _)))))))
abbrev f_fits_by_2 : Nat := Lib.ix P 247
theorem p_fits_by_2 : P (f_fits_by_2 P) = some (cf_fits_by_2 (Lib.ix P)) := Lib.q12 (247, cf_fits_by_2 (Lib.ix P)) (.tail _ (.tail _ (.tail _ (.tail _ (.tail _ (.tail _ (.tail _ (.head _))))))))
abbrev f_fit_all_4 : Nat := Lib.ix P 248
theorem p_fit_all_4 : P (f_fit_all_4 P) = some (cf_fit_all_4 (Lib.ix P)) := Lib.q12 (248, cf_fit_all_4 (Lib.ix P)) (.tail _ (.tail _ (.tail _ (.tail _ (.tail _ (.tail _ (.tail _ (.tail _ (.head _)))))))))
abbrev f_are_apart_3 : Nat := Lib.ix P 249
theorem p_are_apart_3 : P (f_are_apart_3 P) = some (cf_are_apart_3 (Lib.ix P)) := Lib.q12 (249, cf_are_apart_3 (Lib.ix P)) (.tail _ (.tail _ (.tail _ (.tail _ (.tail _ (.tail _ (.tail _ (.tail _ (.tail _ (.head _))))))))))
abbrev f_drags_by_2 : Nat := Lib.ix P 250
theorem p_drags_by_2 : P (f_drags_by_2 P) = some (cf_drags_by_2 (Lib.ix P)) := Lib.q12 (250, cf_drags_by_2 (Lib.ix P)) (.tail _ (.tail _ (.tail _ (.tail _ (.tail _ (.tail _ (.tail _ (.tail _ (.tail _ (.tail _ (.head _)))))))))))
abbrev f_pair_of : Nat := Lib.ix P 251
theorem p_pair_of : P (f_pair_of P) = some (cf_pair_of (Lib.ix P)) := Lib.q12 (251, cf_pair_of (Lib.ix P)) (.tail _ (.tail _ (.tail _ (.tail _ (.tail _ (.tail _ (.tail _ (.tail _ (.tail _ (.tail _ (.tail _ (.head _))))))))))))
abbrev f_unlike_days : Nat := Lib.ix P 252
theorem p_unlike_days : P (f_unlike_days P) = some (cf_unlike_days (Lib.ix P)) := Lib.q12 (252, cf_unlike_days (Lib.ix P)) (.tail _ (.tail _ (.tail _ (.tail _ (.tail _ (.tail _ (.tail _ (.tail _ (.tail _ (.tail _ (.tail _ (.tail _ (.head _)))))))))))))
abbrev f_kind_of_2 : Nat := Lib.ix P 253
theorem p_kind_of_2 : P (f_kind_of_2 P) = some (cf_kind_of_2 (Lib.ix P)) := Lib.q12 (253, cf_kind_of_2 (Lib.ix P)) (.tail _ (.tail _ (.tail _ (.tail _ (.tail _ (.tail _ (.tail _ (.tail _ (.tail _ (.tail _ (.tail _ (.tail _ (.tail _ (.head _))))))))))))))
abbrev f_next_cut_2 : Nat := Lib.ix P 254
theorem p_next_cut_2 : P (f_next_cut_2 P) = some (cf_next_cut_2 (Lib.ix P)) := Lib.q12 (254, cf_next_cut_2 (Lib.ix P)) (.tail _ (.tail _ (.tail _ (.tail _ (.tail _ (.tail _ (.tail _ (.tail _ (.tail _ (.tail _ (.tail _ (.tail _ (.tail _ (.tail _ (.head _)))))))))))))))
abbrev f_cover_by_2 : Nat := Lib.ix P 255
theorem p_cover_by_2 : P (f_cover_by_2 P) = some (cf_cover_by_2 (Lib.ix P)) := Lib.q12 (255, cf_cover_by_2 (Lib.ix P)) (.tail _ (.tail _ (.tail _ (.tail _ (.tail _ (.tail _ (.tail _ (.tail _ (.tail _ (.tail _ (.tail _ (.tail _ (.tail _ (.tail _ (.tail _ (.head _))))))))))))))))
abbrev f_cover_of_3 : Nat := Lib.ix P 256
theorem p_cover_of_3 : P (f_cover_of_3 P) = some (cf_cover_of_3 (Lib.ix P)) := Lib.q12 (256, cf_cover_of_3 (Lib.ix P)) (.tail _ (.tail _ (.tail _ (.tail _ (.tail _ (.tail _ (.tail _ (.tail _ (.tail _ (.tail _ (.tail _ (.tail _ (.tail _ (.tail _ (.tail _ (.tail _ (.head _)))))))))))))))))
abbrev f_marks_of : Nat := Lib.ix P 257
theorem p_marks_of : P (f_marks_of P) = some (cf_marks_of (Lib.ix P)) := Lib.q12 (257, cf_marks_of (Lib.ix P)) (.tail _ (.tail _ (.tail _ (.tail _ (.tail _ (.tail _ (.tail _ (.tail _ (.tail _ (.tail _ (.tail _ (.tail _ (.tail _ (.tail _ (.tail _ (.tail _ (.tail _ (.head _))))))))))))))))))
abbrev f_ways_by : Nat := Lib.ix P 258
theorem p_ways_by : P (f_ways_by P) = some (cf_ways_by (Lib.ix P)) := Lib.q12 (258, cf_ways_by (Lib.ix P)) (.tail _ (.tail _ (.tail _ (.tail _ (.tail _ (.tail _ (.tail _ (.tail _ (.tail _ (.tail _ (.tail _ (.tail _ (.tail _ (.tail _ (.tail _ (.tail _ (.tail _ (.tail _ (.head _)))))))))))))))))))
abbrev f_answer_of : Nat := Lib.ix P 259
theorem p_answer_of : P (f_answer_of P) = some (cf_answer_of (Lib.ix P)) := Lib.q12 (259, cf_answer_of (Lib.ix P)) (.tail _ (.tail _ (.tail _ (.tail _ (.tail _ (.tail _ (.tail _ (.tail _ (.tail _ (.tail _ (.tail _ (.tail _ (.tail _ (.tail _ (.tail _ (.tail _ (.tail _ (.tail _ (.tail _ (.head _))))))))))))))))))))
abbrev f_stretches_left : Nat := Lib.ix P 260
theorem p_stretches_left : P (f_stretches_left P) = some (cf_stretches_left (Lib.ix P)) := Lib.q13 (260, cf_stretches_left (Lib.ix P)) (.head _)
abbrev f_needed_by : Nat := Lib.ix P 261
theorem p_needed_by : P (f_needed_by P) = some (cf_needed_by (Lib.ix P)) := Lib.q13 (261, cf_needed_by (Lib.ix P)) (.tail _ (.head _))
abbrev f_table_by : Nat := Lib.ix P 262
theorem p_table_by : P (f_table_by P) = some (cf_table_by (Lib.ix P)) := Lib.q13 (262, cf_table_by (Lib.ix P)) (.tail _ (.tail _ (.head _)))
abbrev f_all_ways : Nat := Lib.ix P 263
theorem p_all_ways : P (f_all_ways P) = some (cf_all_ways (Lib.ix P)) := Lib.q13 (263, cf_all_ways (Lib.ix P)) (.tail _ (.tail _ (.tail _ (.head _))))
abbrev f_ways_of : Nat := Lib.ix P 264
theorem p_ways_of : P (f_ways_of P) = some (cf_ways_of (Lib.ix P)) := Lib.q13 (264, cf_ways_of (Lib.ix P)) (.tail _ (.tail _ (.tail _ (.tail _ (.head _)))))
abbrev f_lamp_needed : Nat := Lib.ix P 265
theorem p_lamp_needed : P (f_lamp_needed P) = some (cf_lamp_needed (Lib.ix P)) := Lib.q13 (265, cf_lamp_needed (Lib.ix P)) (.tail _ (.tail _ (.tail _ (.tail _ (.tail _ (.head _))))))
abbrev f_plan_by : Nat := Lib.ix P 266
theorem p_plan_by : P (f_plan_by P) = some (cf_plan_by (Lib.ix P)) := Lib.q13 (266, cf_plan_by (Lib.ix P)) (.tail _ (.tail _ (.tail _ (.tail _ (.tail _ (.tail _ (.head _)))))))
abbrev f_lamp_plan : Nat := Lib.ix P 267
theorem p_lamp_plan : P (f_lamp_plan P) = some (cf_lamp_plan (Lib.ix P)) := Lib.q13 (267, cf_lamp_plan (Lib.ix P)) (.tail _ (.tail _ (.tail _ (.tail _ (.tail _ (.tail _ (.tail _ (.head _))))))))
abbrev f_pairs_of_two_2 : Nat := Lib.ix P 268
theorem p_pairs_of_two_2 : P (f_pairs_of_two_2 P) = some (cf_pairs_of_two_2 (Lib.ix P)) := Lib.q13 (268, cf_pairs_of_two_2 (Lib.ix P)) (.tail _ (.tail _ (.tail _ (.tail _ (.tail _ (.tail _ (.tail _ (.tail _ (.head _)))))))))
abbrev f_pairs_with_2 : Nat := Lib.ix P 269
theorem p_pairs_with_2 : P (f_pairs_with_2 P) = some (cf_pairs_with_2 (Lib.ix P)) := Lib.q13 (269, cf_pairs_with_2 (Lib.ix P)) (.tail _ (.tail _ (.tail _ (.tail _ (.tail _ (.tail _ (.tail _ (.tail _ (.tail _ (.head _))))))))))
abbrev f_pairs_of_3 : Nat := Lib.ix P 270
theorem p_pairs_of_3 : P (f_pairs_of_3 P) = some (cf_pairs_of_3 (Lib.ix P)) := Lib.q13 (270, cf_pairs_of_3 (Lib.ix P)) (.tail _ (.tail _ (.tail _ (.tail _ (.tail _ (.tail _ (.tail _ (.tail _ (.tail _ (.tail _ (.head _)))))))))))
abbrev f_pairs_told_3 : Nat := Lib.ix P 271
theorem p_pairs_told_3 : P (f_pairs_told_3 P) = some (cf_pairs_told_3 (Lib.ix P)) := Lib.q13 (271, cf_pairs_told_3 (Lib.ix P)) (.tail _ (.tail _ (.tail _ (.tail _ (.tail _ (.tail _ (.tail _ (.tail _ (.tail _ (.tail _ (.tail _ (.head _))))))))))))
abbrev f_telling_by_3 : Nat := Lib.ix P 272
theorem p_telling_by_3 : P (f_telling_by_3 P) = some (cf_telling_by_3 (Lib.ix P)) := Lib.q13 (272, cf_telling_by_3 (Lib.ix P)) (.tail _ (.tail _ (.tail _ (.tail _ (.tail _ (.tail _ (.tail _ (.tail _ (.tail _ (.tail _ (.tail _ (.tail _ (.head _)))))))))))))
abbrev f_telling_3 : Nat := Lib.ix P 273
theorem p_telling_3 : P (f_telling_3 P) = some (cf_telling_3 (Lib.ix P)) := Lib.q13 (273, cf_telling_3 (Lib.ix P)) (.tail _ (.tail _ (.tail _ (.tail _ (.tail _ (.tail _ (.tail _ (.tail _ (.tail _ (.tail _ (.tail _ (.tail _ (.tail _ (.head _))))))))))))))
abbrev f_clash_by_3 : Nat := Lib.ix P 274
theorem p_clash_by_3 : P (f_clash_by_3 P) = some (cf_clash_by_3 (Lib.ix P)) := Lib.q13 (274, cf_clash_by_3 (Lib.ix P)) (.tail _ (.tail _ (.tail _ (.tail _ (.tail _ (.tail _ (.tail _ (.tail _ (.tail _ (.tail _ (.tail _ (.tail _ (.tail _ (.tail _ (.head _)))))))))))))))
abbrev f_paper_day : Nat := Lib.ix P 275
theorem p_paper_day : P (f_paper_day P) = some (cf_paper_day (Lib.ix P)) := Lib.q13 (275, cf_paper_day (Lib.ix P)) (.tail _ (.tail _ (.tail _ (.tail _ (.tail _ (.tail _ (.tail _ (.tail _ (.tail _ (.tail _ (.tail _ (.tail _ (.tail _ (.tail _ (.tail _ (.head _))))))))))))))))
abbrev f_paper_cuts : Nat := Lib.ix P 276
theorem p_paper_cuts : P (f_paper_cuts P) = some (cf_paper_cuts (Lib.ix P)) := Lib.q13 (276, cf_paper_cuts (Lib.ix P)) (.tail _ (.tail _ (.tail _ (.tail _ (.tail _ (.tail _ (.tail _ (.tail _ (.tail _ (.tail _ (.tail _ (.tail _ (.tail _ (.tail _ (.tail _ (.tail _ (.head _)))))))))))))))))
abbrev f_paper_lamp : Nat := Lib.ix P 277
theorem p_paper_lamp : P (f_paper_lamp P) = some (cf_paper_lamp (Lib.ix P)) := Lib.q13 (277, cf_paper_lamp (Lib.ix P)) (.tail _ (.tail _ (.tail _ (.tail _ (.tail _ (.tail _ (.tail _ (.tail _ (.tail _ (.tail _ (.tail _ (.tail _ (.tail _ (.tail _ (.tail _ (.tail _ (.tail _ (.head _))))))))))))))))))
abbrev f_places_that_fit_2 : Nat := Lib.ix P 278
theorem p_places_that_fit_2 : P (f_places_that_fit_2 P) = some (cf_places_that_fit_2 (Lib.ix P)) := Lib.q13 (278, cf_places_that_fit_2 (Lib.ix P)) (.tail _ (.tail _ (.tail _ (.tail _ (.tail _ (.tail _ (.tail _ (.tail _ (.tail _ (.tail _ (.tail _ (.tail _ (.tail _ (.tail _ (.tail _ (.tail _ (.tail _ (.tail _ (.head _)))))))))))))))))))
abbrev f_clash_paper_2 : Nat := Lib.ix P 279
theorem p_clash_paper_2 : P (f_clash_paper_2 P) = some (cf_clash_paper_2 (Lib.ix P)) := Lib.q13 (279, cf_clash_paper_2 (Lib.ix P)) (.tail _ (.tail _ (.tail _ (.tail _ (.tail _ (.tail _ (.tail _ (.tail _ (.tail _ (.tail _ (.tail _ (.tail _ (.tail _ (.tail _ (.tail _ (.tail _ (.tail _ (.tail _ (.tail _ (.head _))))))))))))))))))))
abbrev f_paper_days_2 : Nat := Lib.ix P 280
theorem p_paper_days_2 : P (f_paper_days_2 P) = some (cf_paper_days_2 (Lib.ix P)) := Lib.q14 (280, cf_paper_days_2 (Lib.ix P)) (.head _)
abbrev f_cover_of_4 : Nat := Lib.ix P 281
theorem p_cover_of_4 : P (f_cover_of_4 P) = some (cf_cover_of_4 (Lib.ix P)) := Lib.q14 (281, cf_cover_of_4 (Lib.ix P)) (.tail _ (.head _))
abbrev f_pairs_of_4 : Nat := Lib.ix P 282
theorem p_pairs_of_4 : P (f_pairs_of_4 P) = some (cf_pairs_of_4 (Lib.ix P)) := Lib.q14 (282, cf_pairs_of_4 (Lib.ix P)) (.tail _ (.tail _ (.head _)))
abbrev f_pairs_told_4 : Nat := Lib.ix P 283
theorem p_pairs_told_4 : P (f_pairs_told_4 P) = some (cf_pairs_told_4 (Lib.ix P)) := Lib.q14 (283, cf_pairs_told_4 (Lib.ix P)) (.tail _ (.tail _ (.tail _ (.head _))))
abbrev f_telling_by_4 : Nat := Lib.ix P 284
theorem p_telling_by_4 : P (f_telling_by_4 P) = some (cf_telling_by_4 (Lib.ix P)) := Lib.q14 (284, cf_telling_by_4 (Lib.ix P)) (.tail _ (.tail _ (.tail _ (.tail _ (.head _)))))
abbrev f_telling_4 : Nat := Lib.ix P 285
theorem p_telling_4 : P (f_telling_4 P) = some (cf_telling_4 (Lib.ix P)) := Lib.q14 (285, cf_telling_4 (Lib.ix P)) (.tail _ (.tail _ (.tail _ (.tail _ (.tail _ (.head _))))))
abbrev f_clash_by_4 : Nat := Lib.ix P 286
theorem p_clash_by_4 : P (f_clash_by_4 P) = some (cf_clash_by_4 (Lib.ix P)) := Lib.q14 (286, cf_clash_by_4 (Lib.ix P)) (.tail _ (.tail _ (.tail _ (.tail _ (.tail _ (.tail _ (.head _)))))))
abbrev f_pair_of_2 : Nat := Lib.ix P 287
theorem p_pair_of_2 : P (f_pair_of_2 P) = some (cf_pair_of_2 (Lib.ix P)) := Lib.q14 (287, cf_pair_of_2 (Lib.ix P)) (.tail _ (.tail _ (.tail _ (.tail _ (.tail _ (.tail _ (.tail _ (.head _))))))))
abbrev f_paper_day_2 : Nat := Lib.ix P 288
theorem p_paper_day_2 : P (f_paper_day_2 P) = some (cf_paper_day_2 (Lib.ix P)) := Lib.q14 (288, cf_paper_day_2 (Lib.ix P)) (.tail _ (.tail _ (.tail _ (.tail _ (.tail _ (.tail _ (.tail _ (.tail _ (.head _)))))))))
abbrev f_paper_cuts_2 : Nat := Lib.ix P 289
theorem p_paper_cuts_2 : P (f_paper_cuts_2 P) = some (cf_paper_cuts_2 (Lib.ix P)) := Lib.q14 (289, cf_paper_cuts_2 (Lib.ix P)) (.tail _ (.tail _ (.tail _ (.tail _ (.tail _ (.tail _ (.tail _ (.tail _ (.tail _ (.head _))))))))))
abbrev f_places_that_fit_3 : Nat := Lib.ix P 290
theorem p_places_that_fit_3 : P (f_places_that_fit_3 P) = some (cf_places_that_fit_3 (Lib.ix P)) := Lib.q14 (290, cf_places_that_fit_3 (Lib.ix P)) (.tail _ (.tail _ (.tail _ (.tail _ (.tail _ (.tail _ (.tail _ (.tail _ (.tail _ (.tail _ (.head _)))))))))))
abbrev f_unlike_days_2 : Nat := Lib.ix P 291
theorem p_unlike_days_2 : P (f_unlike_days_2 P) = some (cf_unlike_days_2 (Lib.ix P)) := Lib.q14 (291, cf_unlike_days_2 (Lib.ix P)) (.tail _ (.tail _ (.tail _ (.tail _ (.tail _ (.tail _ (.tail _ (.tail _ (.tail _ (.tail _ (.tail _ (.head _))))))))))))
abbrev f_clash_paper_3 : Nat := Lib.ix P 292
theorem p_clash_paper_3 : P (f_clash_paper_3 P) = some (cf_clash_paper_3 (Lib.ix P)) := Lib.q14 (292, cf_clash_paper_3 (Lib.ix P)) (.tail _ (.tail _ (.tail _ (.tail _ (.tail _ (.tail _ (.tail _ (.tail _ (.tail _ (.tail _ (.tail _ (.tail _ (.head _)))))))))))))
abbrev f_paper_days_3 : Nat := Lib.ix P 293
theorem p_paper_days_3 : P (f_paper_days_3 P) = some (cf_paper_days_3 (Lib.ix P)) := Lib.q14 (293, cf_paper_days_3 (Lib.ix P)) (.tail _ (.tail _ (.tail _ (.tail _ (.tail _ (.tail _ (.tail _ (.tail _ (.tail _ (.tail _ (.tail _ (.tail _ (.tail _ (.head _))))))))))))))
abbrev f_cuts_needed_2 : Nat := Lib.ix P 294
theorem p_cuts_needed_2 : P (f_cuts_needed_2 P) = some (cf_cuts_needed_2 (Lib.ix P)) := Lib.q14 (294, cf_cuts_needed_2 (Lib.ix P)) (.tail _ (.tail _ (.tail _ (.tail _ (.tail _ (.tail _ (.tail _ (.tail _ (.tail _ (.tail _ (.tail _ (.tail _ (.tail _ (.tail _ (.head _)))))))))))))))
abbrev f_thing_in : Nat := Lib.ix P 295
theorem p_thing_in : P (f_thing_in P) = some (cf_thing_in (Lib.ix P)) := Lib.q14 (295, cf_thing_in (Lib.ix P)) (.tail _ (.tail _ (.tail _ (.tail _ (.tail _ (.tail _ (.tail _ (.tail _ (.tail _ (.tail _ (.tail _ (.tail _ (.tail _ (.tail _ (.tail _ (.head _))))))))))))))))
abbrev f_row_in : Nat := Lib.ix P 296
theorem p_row_in : P (f_row_in P) = some (cf_row_in (Lib.ix P)) := Lib.q14 (296, cf_row_in (Lib.ix P)) (.tail _ (.tail _ (.tail _ (.tail _ (.tail _ (.tail _ (.tail _ (.tail _ (.tail _ (.tail _ (.tail _ (.tail _ (.tail _ (.tail _ (.tail _ (.tail _ (.head _)))))))))))))))))
abbrev f_cable_text : Nat := Lib.ix P 297
theorem p_cable_text : P (f_cable_text P) = some (cf_cable_text (Lib.ix P)) := Lib.q14 (297, cf_cable_text (Lib.ix P)) (.tail _ (.tail _ (.tail _ (.tail _ (.tail _ (.tail _ (.tail _ (.tail _ (.tail _ (.tail _ (.tail _ (.tail _ (.tail _ (.tail _ (.tail _ (.tail _ (.tail _ (.head _))))))))))))))))))
abbrev f_leak_text : Nat := Lib.ix P 298
theorem p_leak_text : P (f_leak_text P) = some (cf_leak_text (Lib.ix P)) := Lib.q14 (298, cf_leak_text (Lib.ix P)) (.tail _ (.tail _ (.tail _ (.tail _ (.tail _ (.tail _ (.tail _ (.tail _ (.tail _ (.tail _ (.tail _ (.tail _ (.tail _ (.tail _ (.tail _ (.tail _ (.tail _ (.tail _ (.head _)))))))))))))))))))
abbrev f_kind_text : Nat := Lib.ix P 299
theorem p_kind_text : P (f_kind_text P) = some (cf_kind_text (Lib.ix P)) := Lib.q14 (299, cf_kind_text (Lib.ix P)) (.tail _ (.tail _ (.tail _ (.tail _ (.tail _ (.tail _ (.tail _ (.tail _ (.tail _ (.tail _ (.tail _ (.tail _ (.tail _ (.tail _ (.tail _ (.tail _ (.tail _ (.tail _ (.tail _ (.head _))))))))))))))))))))
abbrev f_span_text : Nat := Lib.ix P 300
theorem p_span_text : P (f_span_text P) = some (cf_span_text (Lib.ix P)) := Lib.q15 (300, cf_span_text (Lib.ix P)) (.head _)
abbrev f_numbers_text : Nat := Lib.ix P 301
theorem p_numbers_text : P (f_numbers_text P) = some (cf_numbers_text (Lib.ix P)) := Lib.q15 (301, cf_numbers_text (Lib.ix P)) (.tail _ (.head _))
abbrev f_telling_text : Nat := Lib.ix P 302
theorem p_telling_text : P (f_telling_text P) = some (cf_telling_text (Lib.ix P)) := Lib.q15 (302, cf_telling_text (Lib.ix P)) (.tail _ (.tail _ (.head _)))
abbrev f_east_span_2 : Nat := Lib.ix P 303
theorem p_east_span_2 : P (f_east_span_2 P) = some (cf_east_span_2 (Lib.ix P)) := Lib.q15 (303, cf_east_span_2 (Lib.ix P)) (.tail _ (.tail _ (.tail _ (.head _))))
abbrev f_day_text : Nat := Lib.ix P 304
theorem p_day_text : P (f_day_text P) = some (cf_day_text (Lib.ix P)) := Lib.q15 (304, cf_day_text (Lib.ix P)) (.tail _ (.tail _ (.tail _ (.tail _ (.head _)))))
abbrev f_law_said : Nat := Lib.ix P 305
theorem p_law_said : P (f_law_said P) = some (cf_law_said (Lib.ix P)) := Lib.q15 (305, cf_law_said (Lib.ix P)) (.tail _ (.tail _ (.tail _ (.tail _ (.tail _ (.head _))))))
abbrev f_clash_of_2 : Nat := Lib.ix P 306
theorem p_clash_of_2 : P (f_clash_of_2 P) = some (cf_clash_of_2 (Lib.ix P)) := Lib.q15 (306, cf_clash_of_2 (Lib.ix P)) (.tail _ (.tail _ (.tail _ (.tail _ (.tail _ (.tail _ (.head _)))))))
abbrev f_cuts_needed_3 : Nat := Lib.ix P 307
theorem p_cuts_needed_3 : P (f_cuts_needed_3 P) = some (cf_cuts_needed_3 (Lib.ix P)) := Lib.q15 (307, cf_cuts_needed_3 (Lib.ix P)) (.tail _ (.tail _ (.tail _ (.tail _ (.tail _ (.tail _ (.tail _ (.head _))))))))
abbrev f_clash_of_3 : Nat := Lib.ix P 308
theorem p_clash_of_3 : P (f_clash_of_3 P) = some (cf_clash_of_3 (Lib.ix P)) := Lib.q15 (308, cf_clash_of_3 (Lib.ix P)) (.tail _ (.tail _ (.tail _ (.tail _ (.tail _ (.tail _ (.tail _ (.tail _ (.head _)))))))))
abbrev f_marks_of_2 : Nat := Lib.ix P 309
theorem p_marks_of_2 : P (f_marks_of_2 P) = some (cf_marks_of_2 (Lib.ix P)) := Lib.q15 (309, cf_marks_of_2 (Lib.ix P)) (.tail _ (.tail _ (.tail _ (.tail _ (.tail _ (.tail _ (.tail _ (.tail _ (.tail _ (.head _))))))))))
abbrev f_ways_by_2 : Nat := Lib.ix P 310
theorem p_ways_by_2 : P (f_ways_by_2 P) = some (cf_ways_by_2 (Lib.ix P)) := Lib.q15 (310, cf_ways_by_2 (Lib.ix P)) (.tail _ (.tail _ (.tail _ (.tail _ (.tail _ (.tail _ (.tail _ (.tail _ (.tail _ (.tail _ (.head _)))))))))))
abbrev f_all_ways_3 : Nat := Lib.ix P 311
theorem p_all_ways_3 : P (f_all_ways_3 P) = some (cf_all_ways_3 (Lib.ix P)) := Lib.q15 (311, cf_all_ways_3 (Lib.ix P)) (.tail _ (.tail _ (.tail _ (.tail _ (.tail _ (.tail _ (.tail _ (.tail _ (.tail _ (.tail _ (.tail _ (.head _))))))))))))
abbrev f_ways_of_3 : Nat := Lib.ix P 312
theorem p_ways_of_3 : P (f_ways_of_3 P) = some (cf_ways_of_3 (Lib.ix P)) := Lib.q15 (312, cf_ways_of_3 (Lib.ix P)) (.tail _ (.tail _ (.tail _ (.tail _ (.tail _ (.tail _ (.tail _ (.tail _ (.tail _ (.tail _ (.tail _ (.tail _ (.head _)))))))))))))
abbrev f_lamp_needed_3 : Nat := Lib.ix P 313
theorem p_lamp_needed_3 : P (f_lamp_needed_3 P) = some (cf_lamp_needed_3 (Lib.ix P)) := Lib.q15 (313, cf_lamp_needed_3 (Lib.ix P)) (.tail _ (.tail _ (.tail _ (.tail _ (.tail _ (.tail _ (.tail _ (.tail _ (.tail _ (.tail _ (.tail _ (.tail _ (.tail _ (.head _))))))))))))))
abbrev f_lamp_plan_3 : Nat := Lib.ix P 314
theorem p_lamp_plan_3 : P (f_lamp_plan_3 P) = some (cf_lamp_plan_3 (Lib.ix P)) := Lib.q15 (314, cf_lamp_plan_3 (Lib.ix P)) (.tail _ (.tail _ (.tail _ (.tail _ (.tail _ (.tail _ (.tail _ (.tail _ (.tail _ (.tail _ (.tail _ (.tail _ (.tail _ (.tail _ (.head _)))))))))))))))
abbrev f_law_way : Nat := Lib.ix P 315
theorem p_law_way : P (f_law_way P) = some (cf_law_way (Lib.ix P)) := Lib.q15 (315, cf_law_way (Lib.ix P)) (.tail _ (.tail _ (.tail _ (.tail _ (.tail _ (.tail _ (.tail _ (.tail _ (.tail _ (.tail _ (.tail _ (.tail _ (.tail _ (.tail _ (.tail _ (.head _))))))))))))))))
abbrev f_law_ways : Nat := Lib.ix P 316
theorem p_law_ways : P (f_law_ways P) = some (cf_law_ways (Lib.ix P)) := Lib.q15 (316, cf_law_ways (Lib.ix P)) (.tail _ (.tail _ (.tail _ (.tail _ (.tail _ (.tail _ (.tail _ (.tail _ (.tail _ (.tail _ (.tail _ (.tail _ (.tail _ (.tail _ (.tail _ (.tail _ (.head _)))))))))))))))))
end
end Z

/-! X, part A: runs by simp. -/
namespace Z
open PySem
/-- the continuation behind stays as it is while the first is run: it stands in the type -/
abbrev Kk {γ : Type} (_k : γ) (t : Type) : Type := t
def R.bk {α β : Type} (r : R α) (k : α → Store → R β) : Kk k (R β) := r.bind k
def R.sk {α : Type} (r : R α) (δ : Env) (k : α → Store → SR) : Kk k SR := r.st δ k
def SR.bs (r : SR) (k : Env → Store → SR) : Kk k SR := r.bind k
@[simp] theorem R.bk_ok {α β : Type} (a : α) (S : Store) (k : α → Store → R β) : (R.ok a S).bk k = k a S := rfl
@[simp] theorem R.bk_exc {α β : Type} (c : Nat) (a : D) (S : Store) (k : α → Store → R β) : (R.exc c a S : R α).bk k = .exc c a S := rfl
@[simp] theorem R.bk_stuck {α β : Type} (k : α → Store → R β) : (R.stuck : R α).bk k = .stuck := rfl
@[simp] theorem R.sk_ok {α : Type} (a : α) (S : Store) (δ : Env) (k : α → Store → SR) : (R.ok a S).sk δ k = k a S := rfl
@[simp] theorem R.sk_exc {α : Type} (c : Nat) (a : D) (S : Store) (δ : Env) (k : α → Store → SR) : (R.exc c a S : R α).sk δ k = .xc c a δ S := rfl
@[simp] theorem R.sk_stuck {α : Type} (δ : Env) (k : α → Store → SR) : (R.stuck : R α).sk δ k = .stuck := rfl
@[simp] theorem SR.bs_nx (δ : Env) (S : Store) (k : Env → Store → SR) : (SR.nx δ S).bs k = k δ S := rfl
@[simp] theorem SR.bs_rt (d : D) (S : Store) (k : Env → Store → SR) : (SR.rt d S).bs k = .rt d S := rfl
@[simp] theorem SR.bs_bk (δ : Env) (S : Store) (k : Env → Store → SR) : (SR.bk δ S).bs k = .bk δ S := rfl
@[simp] theorem SR.bs_xc (c : Nat) (a : D) (δ : Env) (S : Store) (k : Env → Store → SR) : (SR.xc c a δ S).bs k = .xc c a δ S := rfl
@[simp] theorem SR.bs_stuck (k : Env → Store → SR) : (SR.stuck).bs k = .stuck := rfl
section
variable {P : Nat → Option CF} {n : Nat} {F : Fn} {S S' : Store} {δ : Env} {a b c e es : CE}
@[simp] theorem ev_var {i : Nat} : ev F (.var i) δ S = match δ[i]? with
    | some (some d) => .ok d S
    | _ => .stuck := by rw [ev] <;> rfl
@[simp] theorem ev_con' {d : D} : ev F (.con d) δ S = .ok d S := ev_con d δ S
@[simp] theorem ev_edic : ev F .edic δ S = .ok .edic S := by rw [ev] <;> rfl
@[simp] theorem ev_tup : ev F (.tup es) δ S = (evs F es δ S).bk fun ds S1 => .ok (.tup ds) S1 := by rw [ev] <;> rfl
@[simp] theorem ev_lst : ev F (.lst es) δ S = (evs F es δ S).bk fun ds S1 => .ok (.lst ds) S1 := by rw [ev] <;> rfl
@[simp] theorem ev_mlst : ev F (.mlst es) δ S = (evs F es δ S).bk fun ds S1 => .ok (.ref S1.length) (S1 ++ [.lst ds]) := by rw [ev] <;> rfl
@[simp] theorem ev_mdk : ev F .mdk δ S = .ok (.ref S.length) (S ++ [.dk []]) := by rw [ev] <;> rfl
@[simp] theorem ev_bin {op} : ev F (.bin op a b) δ S = (ev F a δ S).bk fun x S1 => (ev F b δ S1).bk fun y S2 => .opt (binEv op x y S2) S2 := by rw [ev] <;> rfl
@[simp] theorem ev_neg : ev F (.neg a) δ S = (ev F a δ S).bk fun x S1 => match x with
    | .int i => .ok (.int (-i)) S1
    | _ => .stuck := by rw [ev] <;> rfl
@[simp] theorem ev_cmp {op} : ev F (.cmp op a b) δ S = (ev F a δ S).bk fun x S1 => (ev F b δ S1).bk fun y S2 => .opt (cmpEv op x y S2) S2 := by rw [ev] <;> rfl
@[simp] theorem ev_chain {o1 o2} : ev F (.chain o1 o2 a b c) δ S = (ev F a δ S).bk fun x S1 => (ev F b δ S1).bk fun y S2 => match cmpB o1 x y S2 with
    | some true => (ev F c δ S2).bk fun z S4 => .opt (cmpEv o2 y z S4) S4
    | some false => .ok (.bl false) S2
    | none => .stuck := by rw [ev] <;> rfl
@[simp] theorem ev_not : ev F (.not a) δ S = (ev F a δ S).bk fun x S1 => match x with
    | .bl b => .ok (.bl (!b)) S1
    | _ => .stuck := by rw [ev] <;> rfl
@[simp] theorem ev_and : ev F (.and a b) δ S = (ev F a δ S).bk fun x S1 => match x with
    | .bl true => ev F b δ S1
    | .bl false => .ok (.bl false) S1
    | _ => .stuck := by rw [ev] <;> rfl
@[simp] theorem ev_or : ev F (.or a b) δ S = (ev F a δ S).bk fun x S1 => match x with
    | .bl true => .ok (.bl true) S1
    | .bl false => ev F b δ S1
    | _ => .stuck := by rw [ev] <;> rfl
@[simp] theorem ev_ife : ev F (.ife c a b) δ S = (ev F c δ S).bk fun x S1 => match x with
    | .bl true => ev F a δ S1
    | .bl false => ev F b δ S1
    | _ => .stuck := by rw [ev] <;> rfl
@[simp] theorem ev_idx : ev F (.idx a b) δ S = (ev F a δ S).bk fun x S1 => (ev F b δ S1).bk fun y S2 => .opt (idxEv x y S2) S2 := by rw [ev] <;> rfl
@[simp] theorem ev_sl : ev F (.sl a b c) δ S = (ev F a δ S).bk fun x S1 => (evo F b δ S1).bk fun l S2 => (evo F c δ S2).bk fun h S3 => .opt (slEv x l h S3) S3 := by rw [ev] <;> rfl
@[simp] theorem ev_rev : ev F (.rev a) δ S = (ev F a δ S).bk fun x S1 => .opt (revEv x S1) S1 := by rw [ev] <;> rfl
@[simp] theorem ev_call {f} : ev F (.call f es) δ S = (evs F es δ S).bk fun ds S1 => F f ds S1 := by rw [ev] <;> rfl
@[simp] theorem ev_blt {t} : ev F (.blt t es) δ S = (evs F es δ S).bk fun ds S1 => .opt (bltEv t ds S1) S1 := by rw [ev] <;> rfl
@[simp] theorem ev_isi {t} : ev F (.isi a t) δ S = (ev F a δ S).bk fun x S1 => .opt ((isiEv x t S1).map .bl) S1 := by rw [ev] <;> rfl
@[simp] theorem ev_mth {m} : ev F (.mth m a es) δ S = (ev F a δ S).bk fun x S1 => match seqL S1 x with
    | some _ => (evs F es δ S1).bk fun ds S2 => .opt2 (mthEv m x ds S2)
    | none => .stuck := by rw [ev] <;> rfl
@[simp] theorem ev_comp {tg own isM} : ev F (.comp e tg a c own isM) δ S = (evI F a δ S).bk fun w S1 =>
      (compEv (ev F e) (ev F c) tg w δ own w.items [] S1).bk fun ds S2 =>
        if isM then .ok (.ref S2.length) (S2 ++ [.lst ds]) else .ok (.lst ds) S2 := by rw [ev] <;> rfl
@[simp] theorem ev_rgl : ev F (.rgl a b) δ S = (ev F a δ S).bk fun x S1 => (ev F b δ S1).bk fun y S2 => match x, y with
    | .int i, .int j => open Classical in if small62 i ∧ small62 j ∧ (j - i).toNat ≤ 2 ^ 24 then .ok (.lst (rngD i j)) S2 else .stuck
    | _, _ => .stuck := by rw [ev] <;> rfl
@[simp] theorem ev_setd {c : CE} : ev F (.setd a b c) δ S = (ev F a δ S).bk fun x S1 => match dkOf S1 x with
    | some _ => (ev F b δ S1).bk fun y S2 => (ev F c δ S2).bk fun z S3 => .opt2 (setdEv x y z S3)
    | none => .stuck := by rw [ev] <;> rfl
@[simp] theorem evs_nil : evs F .nil δ S = .ok [] S := by rw [evs] <;> rfl
@[simp] theorem evs_cons : evs F (.cons e es) δ S = (ev F e δ S).bk fun d S1 => (evs F es δ S1).bk fun ds S2 => .ok (d :: ds) S2 := by rw [evs] <;> rfl
@[simp] theorem evI_rng : evI F (.rng a b) δ S = (ev F a δ S).bk fun x S1 => (ev F b δ S1).bk fun y S2 => match x, y with
    | .int i, .int j => open Classical in if small62 i ∧ small62 j then .ok (.fix (rngD i j)) S2 else .stuck
    | _, _ => .stuck := by rw [evI] <;> rfl
@[simp] theorem evI_one : evI F (.one e) δ S = (ev F e δ S).bk fun x S1 => match walkSeq S1 x with
    | some w => .ok w S1
    | none => .stuck := by rw [evI] <;> rfl
@[simp] theorem evo_nil : evo F .nil δ S = .ok none S := by rw [evo] <;> rfl
@[simp] theorem evo_one : evo F (.one e) δ S = (ev F e δ S).bk fun x S1 => match x with
    | .int i => .ok (some i) S1
    | _ => .stuck := by rw [evo] <;> rfl
variable {s t : CS}
@[simp] theorem run_skip : run F .skip δ S = .nx δ S := by rw [run] <;> rfl
@[simp] theorem run_seq : run F (.seq s t) δ S = (run F s δ S).bs fun δ1 S1 => run F t δ1 S1 := by rw [run] <;> rfl
@[simp] theorem run_expr : run F (.expr e) δ S = (ev F e δ S).sk δ fun _ S1 => .nx δ S1 := by rw [run] <;> rfl
@[simp] theorem run_ret : run F (.ret e) δ S = (ev F e δ S).sk δ fun d S1 => .rt d S1 := by rw [run] <;> rfl
@[simp] theorem run_retF {i : Nat} : run F (.retF i) δ S = match δ[i]? with
    | some (some (.ref p)) => match S[p]? with
      | some (.lst ds) => .rt (.lst ds) (S.set p .gone)
      | _ => .stuck
    | _ => .stuck := by rw [run] <;> rfl
@[simp] theorem run_asg {tg} : run F (.asg tg e) δ S = (ev F e δ S).sk δ fun d S1 => match stepT tg d δ with
    | some δ1 => .nx δ1 S1
    | none => .stuck := by rw [run] <;> rfl
@[simp] theorem run_set : run F (.set a b c) δ S = (ev F c δ S).sk δ fun v S1 => (ev F a δ S1).sk δ fun x S2 => (ev F b δ S2).sk δ fun y S3 => match setEv x y v S3 with
    | some S4 => .nx δ S4
    | none => .stuck := by rw [run] <;> rfl
@[simp] theorem run_ife : run F (.ife c s t) δ S = (ev F c δ S).sk δ fun x S1 => match x with
    | .bl true => run F s δ S1
    | .bl false => run F t δ S1
    | _ => .stuck := by rw [run] <;> rfl
@[simp] theorem run_fr {tg} : run F (.fr tg a s) δ S = (evI F a δ S).sk δ fun w S1 => forEv (run F s) tg w w.items δ S1 := by rw [run] <;> rfl
@[simp] theorem run_brk : run F .brk δ S = .bk δ S := by rw [run] <;> rfl
theorem run_whl : run F (.whl c s) δ S = match ev F c δ S with
    | .ok (.bl true) S1 => (match run F s δ S1 with
      | .nx δ' S' => run F (.whl c s) δ' S'
      | .bk δ' S' => .nx δ' S'
      | r => r)
    | .ok (.bl false) S1 => .nx δ S1
    | .exc x d S1 => .xc x d δ S1
    | _ => .stuck := by
  have e : ∀ δ S, run F (.whl c s) δ S = loopW (wstep (ev F c) (run F s)) (δ, S) := fun δ S => by rw [run]
  rw [e, loopW_step]
  unfold wstep
  cases ev F c δ S with
  | ok d S1 =>
    cases d with
    | bl q =>
      cases q with
      | false => rfl
      | true => 
        simp only []
        cases run F s δ S1 with
        | nx δ' S' => simp only []; rw [e]; rfl
        | _ => rfl
    | _ => rfl
  | exc x d S1 => rfl
  | stuck => rfl
@[simp] theorem out_nx : (SR.nx δ S).out = .ok .non S := rfl
@[simp] theorem out_rt {d} : (SR.rt d S).out = .ok d S := rfl
@[simp] theorem stepT_nm {i : Nat} {d : D} : stepT (.nm i) d δ = if i < δ.length then some (δ.set i (some d)) else none := rfl
@[simp] theorem stepT_tp {ts : CT} {ds : List D} : stepT (.tp ts) (.tup ds) δ = stepT.go ts ds δ := rfl
@[simp] theorem go_nil : stepT.go .nil [] δ = some δ := rfl
@[simp] theorem go_cons {i : Nat} {ts : CT} {d : D} {ds : List D} : stepT.go (.cons (.nm i) ts) (d :: ds) δ = if i < δ.length then stepT.go ts ds (δ.set i (some d)) else none := rfl
theorem evF_body {f : Nat} {cf : CF} {ds : List D} (h : P f = some cf) (hl : ds.length = cf.np) (hn : cf.np ≤ cf.ns) :
    evF P (n + 1) f ds S = gc S (run (evF P n) cf.body (ds.map some ++ List.replicate (cf.ns - cf.np) none) S).out := by
  simp only [evF, h, hl, hn, and_self, if_true]
theorem evF_at {f : Nat} {cf : CF} {ds : List D} (h : P f = some cf) (hl : ds.length = cf.np) (hn : Nat.ble cf.np cf.ns = true) :
    evF P (n + 1) f ds S = gc S (run (evF P n) cf.body (ds.map some ++ List.replicate (cf.ns - cf.np) none) S).out := evF_body h hl (Nat.le_of_ble_eq_true hn)
theorem gc_same {d : D} (h : S'.length = S.length) : gc S (.ok d S') = .ok d S' := by
  by_cases k : Keep S S' ∧ noref d = true
  · simp only [gc, if_pos k]; rw [← h, List.take_length]
  · simp only [gc, if_neg k]
@[simp] theorem gc_id {d : D} : gc S (.ok d S) = .ok d S := gc_same rfl
/-! values -/
@[simp] theorem bin_add_int {i j : Int} : binEv .add (.int i) (.int j) S = some (.int (i + j)) := rfl
@[simp] theorem bin_sub_int {i j : Int} : binEv .sub (.int i) (.int j) S = some (.int (i - j)) := rfl
theorem bin_mul_int {i j : Int} (h : MulOk i j) : binEv .mul (.int i) (.int j) S = some (.int (i * j)) := by
  simp only [binEv, mulEv, if_pos h]
theorem bin_mod_int {i j : Int} (h : 0 < j) : binEv .mod (.int i) (.int j) S = some (.int (i % j)) := by
  simp [binEv, h]
theorem bin_div_int {i j : Int} (h : DivOk i j) : binEv .fdiv (.int i) (.int j) S = some (.int (i / j)) := by
  simp only [binEv, if_pos h]
@[simp] theorem cmp_lt {i j : Int} : cmpEv .lt (.int i) (.int j) S = some (.bl (decide (i < j))) := rfl
@[simp] theorem cmp_le {i j : Int} : cmpEv .le (.int i) (.int j) S = some (.bl (decide (i ≤ j))) := rfl
@[simp] theorem cmp_gt {i j : Int} : cmpEv .gt (.int i) (.int j) S = some (.bl (decide (j < i))) := rfl
@[simp] theorem cmp_ge {i j : Int} : cmpEv .ge (.int i) (.int j) S = some (.bl (decide (j ≤ i))) := rfl
@[simp] theorem cmpB_lt {i j : Int} : cmpB .lt (.int i) (.int j) S = some (decide (i < j)) := rfl
@[simp] theorem cmpB_le {i j : Int} : cmpB .le (.int i) (.int j) S = some (decide (i ≤ j)) := rfl
@[simp] theorem cmp_eq_int {i j : Int} : cmpEv .eq (.int i) (.int j) S = some (.bl (i == j)) := rfl
@[simp] theorem cmp_ne_int {i j : Int} : cmpEv .ne (.int i) (.int j) S = some (.bl (!(i == j))) := rfl
@[simp] theorem idx_tup {ds : List D} {i : Int} : idxEv (.tup ds) (.int i) S = L2.atI ds i := rfl
@[simp] theorem idx_lst {ds : List D} {i : Int} : idxEv (.lst ds) (.int i) S = L2.atI ds i := rfl
@[simp] theorem idx_scr {ds : List D} {i : Int} : idxEv (.scr ds) (.int i) S = L2.atI ds i := rfl
theorem atI_of {α : Type} {xs : List α} {i : Int} (h : 0 ≤ i) : L2.atI xs i = xs[i.toNat]? := by
  unfold L2.atI L2.ixN
  rw [if_pos h]
  by_cases h2 : i < xs.length
  · rw [if_pos h2]; rfl
  · rw [if_neg h2, List.getElem?_eq_none (by omega)]; rfl
@[simp] theorem at0 {d : D} {ds : List D} : L2.atI (d :: ds) 0 = some d := by rw [atI_of (by decide)]; rfl
@[simp] theorem at1 {c d : D} {ds : List D} : L2.atI (c :: d :: ds) 1 = some d := by rw [atI_of (by decide)]; rfl
@[simp] theorem at2 {b c d : D} {ds : List D} : L2.atI (b :: c :: d :: ds) 2 = some d := by rw [atI_of (by decide)]; rfl
/-! share_of, low -/
theorem gcd_step (a b : Int) : Int.gcd b (a % b) = Int.gcd a b := by
  rw [Int.gcd_comm a b]
  apply Nat.dvd_antisymm
  · apply Int.dvd_gcd
    · exact Int.gcd_dvd_left ..
    · have h1 : (Int.gcd b (a % b) : Int) ∣ b := Int.gcd_dvd_left ..
      have h2 : (Int.gcd b (a % b) : Int) ∣ a % b := Int.gcd_dvd_right ..
      have h3 := Int.dvd_add h2 (Int.dvd_mul_of_dvd_left h1 (c := a / b))
      rwa [Int.emod_add_mul_ediv a b] at h3
  · apply Int.dvd_gcd
    · exact Int.gcd_dvd_left ..
    · have h1 : (Int.gcd b a : Int) ∣ b := Int.gcd_dvd_left ..
      have h2 : (Int.gcd b a : Int) ∣ a := Int.gcd_dvd_right ..
      rw [Int.emod_def]
      exact Int.dvd_sub h2 (Int.dvd_mul_of_dvd_left h1)
@[simp] theorem isi_int_int {i : Int} : isiEv (.int i) .int S = some true := rfl
@[simp] theorem isi_int_bool {i : Int} : isiEv (.int i) .bool S = some false := rfl
@[simp] theorem isi_tup_tup {ds : List D} : isiEv (.tup ds) .tup S = some true := rfl
@[simp] theorem isi_bl_bool {b : Bool} : isiEv (.bl b) .bool S = some true := rfl
@[simp] theorem seqOf_tup {ds : List D} : seqOf S (.tup ds) = some ds := rfl
@[simp] theorem seqOf_lst {ds : List D} : seqOf S (.lst ds) = some ds := rfl
@[simp] theorem seqOf_scr {ds : List D} : seqOf S (.scr ds) = some ds := rfl
@[simp] theorem seqL_lst {ds : List D} : seqL S (.lst ds) = some ds := rfl
@[simp] theorem blt_len {d : D} : bltEv .len [d] S = lenEv S d := rfl
@[simp] theorem len_tup {ds : List D} : lenEv S (.tup ds) = some (.int ds.length) := rfl
@[simp] theorem len_lst {ds : List D} : lenEv S (.lst ds) = some (.int ds.length) := rfl
@[simp] theorem len_scr {ds : List D} : lenEv S (.scr ds) = some (.int ds.length) := rfl
@[simp] theorem blt_tuple {d : D} : bltEv .tuple [d] S = (seqOf S d).map .tup := rfl
@[simp] theorem blt_list {d : D} : bltEv .list [d] S = (seqOf S d).map .lst := rfl
@[simp] theorem blt_all {ds : List D} : bltEv .all [.lst ds] S = (bls? ds).map fun bs => .bl (bs.all id) := rfl
@[simp] theorem blt_sum {ds : List D} : bltEv .sum [.lst ds] S = (ints? ds).map fun ns => .int ns.sum := rfl
@[simp] theorem blt_max {i j : Int} : bltEv .max [.int i, .int j] S = some (.int (if j > i then j else i)) := rfl
@[simp] theorem blt_min {i j : Int} : bltEv .min [.int i, .int j] S = some (.int (if j < i then j else i)) := rfl
theorem ints_map (ns : List Int) : ints? (ns.map D.int) = some ns := by
  induction ns with
  | nil => rfl
  | cons n ns ih => rw [List.map_cons, ints?, ih]; rfl
theorem bls_map (ns : List Bool) : bls? (ns.map D.bl) = some ns := by
  induction ns with
  | nil => rfl
  | cons n ns ih => rw [List.map_cons, bls?, ih]; rfl
/-! equality -/
mutual
/-- data that == can read, of depth at most n -/
def okD : Nat → D → Bool
  | _, .non => true
  | _, .bl _ => true
  | _, .int _ => true
  | _, .str x => PyData.strOk x
  | n + 1, .tup ds => okDs n ds
  | n + 1, .lst ds => okDs n ds
  | _, _ => false
def okDs : Nat → List D → Bool
  | _, [] => true
  | n, d :: ds => okD n d && okDs n ds
end
mutual
theorem okD_py : ∀ (n : Nat) (d : D), okD n d = true → ∃ x, py d = some x ∧ x.canLay0 = true ∧ x.depth ≤ n
  | _, .non, _ => ⟨_, rfl, rfl, by simp [PyData.depth]⟩
  | _, .bl b, _ => ⟨_, rfl, rfl, by simp [PyData.depth]⟩
  | _, .int i, _ => ⟨_, rfl, rfl, by simp [PyData.depth]⟩
  | _, .str x, h => ⟨_, rfl, by unfold okD at h; exact h, by simp [PyData.depth]⟩
  | n + 1, .tup ds, h => by
    unfold okD at h
    obtain ⟨xs, e1, e2, e3⟩ := okDs_py n ds h
    exact ⟨.tuple xs, by unfold py; rw [e1], by simpa [PyData.canLay0] using e2, by simp [PyData.depth]; omega⟩
  | n + 1, .lst ds, h => by
    unfold okD at h
    obtain ⟨xs, e1, e2, e3⟩ := okDs_py n ds h
    exact ⟨.list xs, by unfold py; rw [e1], by simpa [PyData.canLay0] using e2, by simp [PyData.depth]; omega⟩
  | 0, .tup ds, h => by unfold okD at h; cases h
  | 0, .lst ds, h => by unfold okD at h; cases h
  | _, .scr _, h => by unfold okD at h; cases h
  | _, .edic, h => by unfold okD at h; cases h
  | _, .ref _, h => by unfold okD at h; cases h
  | _, .exc _ _, h => by unfold okD at h; cases h
theorem okDs_py : ∀ (n : Nat) (ds : List D), okDs n ds = true → ∃ xs, pys ds = some xs ∧ PyData.canLayAll0 xs = true ∧ PyData.depthAll xs ≤ n
  | _, [], _ => ⟨[], rfl, rfl, by simp [PyData.depthAll]⟩
  | n, d :: ds, h => by
    unfold okDs at h
    obtain ⟨h1, h2⟩ := ands h
    obtain ⟨x, e1, e2, e3⟩ := okD_py n d h1
    obtain ⟨xs, e4, e5, e6⟩ := okDs_py n ds h2
    exact ⟨x :: xs, by unfold pys; rw [e1, e4], by rw [PyData.canLayAll0, e2, e5]; rfl, by simp [PyData.depthAll]; omega⟩
end
def eqD (a b : D) : Bool := match py a, py b with
  | some x, some y => PyData.eqv x y
  | _, _ => false
theorem pyS_of {d : D} {n : Nat} (h : okD n d = true) : pyS S d = py d := by
  cases d <;> first | rfl | (unfold okD at h; cases h)
theorem eqEv_of {x y : D} {n : Nat} (hx : okD n x = true) (hy : okD n y = true) (hn : n ≤ 64) : eqEv S x y = some (eqD x y) := by
  obtain ⟨p, e1, e2, e3⟩ := okD_py n x hx
  obtain ⟨q, e4, e5, e6⟩ := okD_py n y hy
  unfold eqEv eqD
  rw [pyS_of hx, pyS_of hy, e1, e4]
  have s1 : SeqAt.shaped p = true := by unfold SeqAt.shaped; rw [e2]; simp; omega
  have s2 : SeqAt.shaped q = true := by unfold SeqAt.shaped; rw [e5]; simp; omega
  simp only [shapedO, if_pos s1, if_pos s2]
theorem cmp_eq {x y : D} (n : Nat) (hx : okD n x = true) (hy : okD n y = true) (hn : n ≤ 64) : cmpEv .eq x y S = some (.bl (eqD x y)) := by
  show (eqEv S x y).map D.bl = _
  rw [eqEv_of hx hy hn]
  rfl
theorem cmp_ne {x y : D} (n : Nat) (hx : okD n x = true) (hy : okD n y = true) (hn : n ≤ 64) : cmpEv .ne x y S = some (.bl (!eqD x y)) := by
  show ((eqEv S x y).map (!·)).map D.bl = _
  rw [eqEv_of hx hy hn]
  rfl
theorem eqD_refl {x : D} (n : Nat) (hx : okD n x = true) : eqD x x = true := by
  obtain ⟨p, e1, e2, e3⟩ := okD_py n x hx
  unfold eqD
  rw [e1]
  exact SeqAt.eqv_refl p e2
theorem okDs_all {n : Nat} : ∀ {ds : List D}, (∀ d ∈ ds, okD n d = true) → okDs n ds = true
  | [], _ => by unfold okDs; rfl
  | d :: ds, h => by
    unfold okDs
    rw [h d List.mem_cons_self, okDs_all fun x hx => h x (List.mem_cons_of_mem _ hx)]
    rfl
theorem ok_tup {n : Nat} {ds : List D} (h : ∀ d ∈ ds, okD n d = true) : okD (n + 1) (.tup ds) = true := by
  unfold okD
  exact okDs_all h
end
end Z

/-! X, part B: numbers, their sizes, the fractions' defs. -/
namespace Z
open PySem
class IB (i : Int) (m : outParam Nat) : Prop where
  n : i.natAbs ≤ 2 ^ m
class Bd (q : Rat) (m : outParam Nat) : Prop where
  n : q.num.natAbs ≤ 2 ^ m
  d : q.den ≤ 2 ^ m
theorem pow_le {m l : Nat} (h : m ≤ l) : 2 ^ m ≤ 2 ^ l := Nat.pow_le_pow_right (by decide) h
theorem IB.mono {i : Int} {m l : Nat} (h : IB i m) (hl : m ≤ l) : IB i l := ⟨Nat.le_trans h.n (pow_le hl)⟩
theorem Bd.mono {q : Rat} {m l : Nat} (h : Bd q m) (hl : m ≤ l) : Bd q l := ⟨Nat.le_trans h.n (pow_le hl), Nat.le_trans h.d (pow_le hl)⟩
section
variable {i j : Int} {m l : Nat} {a b : Rat}
theorem mul_le_pow {x y : Nat} (h1 : x ≤ 2 ^ m) (h2 : y ≤ 2 ^ l) : x * y ≤ 2 ^ (m + l) := by
  rw [Nat.pow_add]
  exact Nat.mul_le_mul h1 h2
theorem le_l {x : Nat} (h : x ≤ 2 ^ m) : x ≤ 2 ^ (m + l) := Nat.le_trans h (pow_le (by omega))
theorem le_r {x : Nat} (h : x ≤ 2 ^ m) : x ≤ 2 ^ (l + m) := Nat.le_trans h (pow_le (by omega))
instance [IB i m] [IB j l] : IB (i + j) (m + l + 1) := ⟨by
  have h1 : i.natAbs ≤ 2 ^ (m + l) := le_l (IB.n (i := i))
  have h2 : j.natAbs ≤ 2 ^ (m + l) := le_r (IB.n (i := j))
  rw [Nat.pow_succ]; omega⟩
instance [IB i m] [IB j l] : IB (i - j) (m + l + 1) := ⟨by
  have h1 : i.natAbs ≤ 2 ^ (m + l) := le_l (IB.n (i := i))
  have h2 : j.natAbs ≤ 2 ^ (m + l) := le_r (IB.n (i := j))
  rw [Nat.pow_succ]; omega⟩
instance [IB i m] [IB j l] : IB (i * j) (m + l) := ⟨by
  rw [Int.natAbs_mul]
  exact mul_le_pow (IB.n (i := i)) (IB.n (i := j))⟩
instance [IB i m] : IB (-i) m := ⟨by rw [Int.natAbs_neg]; exact IB.n (i := i)⟩
instance : IB 0 0 := ⟨by decide⟩
instance : IB 1 0 := ⟨by decide⟩
instance : IB 2 1 := ⟨by decide⟩
instance : IB 3 2 := ⟨by decide⟩
instance : IB 4 2 := ⟨by decide⟩
instance : IB 6 3 := ⟨by decide⟩
instance : IB 12 4 := ⟨by decide⟩
instance [Bd a m] : IB a.num m := ⟨Bd.n (q := a)⟩
instance [Bd a m] : IB (a.den : Int) m := ⟨by have := Bd.d (q := a); omega⟩
theorem intBits_ib [IB i m] : Builtin.Int.intBits i ≤ m + 1 := by
  have h := IB.n (i := i)
  unfold Builtin.Int.intBits
  split
  · omega
  · rename_i h0
    have h1 : i.natAbs ≠ 0 := by
      intro e
      apply h0
      have : i = 0 := by omega
      subst this
      rfl
    have : i.natAbs.log2 < m + 1 := (Nat.log2_lt h1).mpr (by rw [Nat.pow_succ]; have := Nat.pos_of_ne_zero h1; omega)
    omega
theorem mulOk_ib [IB i m] [IB j l] (h : m + l ≤ 134000000) : MulOk i j := IntMulOk.of_le (intBits_ib (i := i)) (intBits_ib (i := j)) (by omega)
theorem mulOk_l (h1 : -(2 ^ 64) < i) (h2 : i < 2 ^ 64) : MulOk i j := .of_left (intBits_le_64 h1 h2)
theorem mulOk_r (h1 : -(2 ^ 64) < j) (h2 : j < 2 ^ 64) : MulOk i j := .of_right (intBits_le_64 h1 h2)
@[simp] theorem bin_mul_ib {S : Store} [IB i m] [IB j l] (h : m + l ≤ 134000000) : binEv .mul (.int i) (.int j) S = some (.int (i * j)) := bin_mul_int (mulOk_ib h)
@[simp] theorem bin_div_pos {S : Store} (h : 0 < j) : binEv .fdiv (.int i) (.int j) S = some (.int (i / j)) := bin_div_int h
@[simp] theorem bin_mod_pos {S : Store} (h : 0 < j) : binEv .mod (.int i) (.int j) S = some (.int (i % j)) := bin_mod_int h
/-! fractions -/
def fr (q : Rat) : D := .tup [.int q.num, .int (q.den : Int)]
theorem fr_def (q : Rat) : fr q = .tup [.int q.num, .int (q.den : Int)] := rfl
@[simp] theorem fr_int : D.tup [.int i, .int 1] = fr (i : Rat) := by simp [fr]
@[simp] theorem idx_fr0 {S : Store} : idxEv (fr a) (.int 0) S = some (.int a.num) := by simp [fr]
@[simp] theorem idx_fr1 {S : Store} : idxEv (fr a) (.int 1) S = some (.int (a.den : Int)) := by simp [fr]
@[simp] theorem isi_fr {S : Store} : isiEv (fr a) .tup S = some true := rfl
@[simp] theorem len_fr {S : Store} : lenEv S (fr a) = some (.int 2) := rfl
@[simp] theorem is_fr_non {S : Store} : cmpEv .is (fr a) .non S = some (.bl false) := rfl
@[simp] theorem isnot_fr_non {S : Store} : cmpEv .isnot (fr a) .non S = some (.bl true) := rfl
@[simp] theorem is_non_non {S : Store} : cmpEv .is .non .non S = some (.bl true) := rfl
@[simp] theorem isnot_non_non {S : Store} : cmpEv .isnot .non .non S = some (.bl false) := rfl
@[simp] theorem is_tup_non {S : Store} {ds : List D} : cmpEv .is (.tup ds) .non S = some (.bl false) := rfl
@[simp] theorem isnot_tup_non {S : Store} {ds : List D} : cmpEv .isnot (.tup ds) .non S = some (.bl true) := rfl
theorem rat_eq (q : Rat) : q = (q.num : Rat) / ((q.den : Int) : Rat) := by
  rw [← Rat.divInt_eq_div]
  exact (Rat.num_divInt_den q).symm
theorem den_pos (q : Rat) : 0 < (q.den : Int) := by have := q.den_pos; omega
theorem den_ne (q : Rat) : ((q.den : Int) : Rat) ≠ 0 := by
  have := den_pos q
  have h : (q.den : Int) ≠ 0 := by omega
  simpa using h
theorem low_num {a b : Int} (hb : 0 < b) : ((a : Rat) / (b : Rat)).num = a / (Int.gcd a b : Int) ∧ (((a : Rat) / (b : Rat)).den : Int) = b / (Int.gcd a b : Int) := by
  rw [← Rat.divInt_eq_div, Rat.num_divInt, Rat.den_divInt, if_neg (by omega), Int.gcd_comm b a]
  have hs : b.sign = 1 := Int.sign_eq_one_of_pos hb
  refine ⟨by rw [hs, Int.one_mul], ?_⟩
  rw [Int.natCast_ediv, Int.natAbs_of_nonneg (by omega)]
theorem bd_div0 {a b : Int} (hb : 0 < b) (h1 : a.natAbs ≤ 2 ^ m) (h2 : b.natAbs ≤ 2 ^ m) : Bd ((a : Rat) / (b : Rat)) m := by
  obtain ⟨e1, e2⟩ := low_num (a := a) hb
  refine ⟨?_, ?_⟩
  · rw [e1]
    exact Nat.le_trans (Int.natAbs_ediv_le_natAbs _ _) h1
  · have : b / (Int.gcd a b : Int) ≤ b := Int.ediv_le_self _ (by omega)
    have h3 : ((2 ^ m : Nat) : Int) = 2 ^ m := by simp
    omega
theorem bd_div {a b : Int} (h1 : a.natAbs ≤ 2 ^ m) (h2 : b.natAbs ≤ 2 ^ m) : Bd ((a : Rat) / (b : Rat)) m := by
  by_cases h : 0 < b
  · exact bd_div0 h h1 h2
  · by_cases h0 : b = 0
    · subst h0
      have e : (a : Rat) / ((0 : Int) : Rat) = 0 := by simp [Rat.div_def]
      rw [e]
      exact ⟨by simp, by simpa using Nat.one_le_two_pow⟩
    · have e : (a : Rat) / (b : Rat) = ((-a : Int) : Rat) / ((-b : Int) : Rat) := by
        have : (b : Rat) ≠ 0 := by simpa using h0
        rw [Rat.intCast_neg, Rat.intCast_neg]
        grind
      rw [e]
      exact bd_div0 (by omega) (by rwa [Int.natAbs_neg]) (by rwa [Int.natAbs_neg])
theorem dd_pos (a b : Rat) : 0 < (a.den : Int) * (b.den : Int) := Int.mul_pos (den_pos a) (den_pos b)
theorem add_eq (a b : Rat) : ((a.num * b.den + b.num * a.den : Int) : Rat) / ((a.den * b.den : Int) : Rat) = a + b := by
  have h1 := den_ne a
  have h2 := den_ne b
  have e1 := rat_eq a
  have e2 := rat_eq b
  rw [Rat.intCast_add, Rat.intCast_mul, Rat.intCast_mul, Rat.intCast_mul]
  generalize (a.num : Rat) = x at *
  generalize (b.num : Rat) = y at *
  generalize ((a.den : Int) : Rat) = u at *
  generalize ((b.den : Int) : Rat) = v at *
  subst e1 e2
  grind
theorem sub_eq (a b : Rat) : ((a.num * b.den - b.num * a.den : Int) : Rat) / ((a.den * b.den : Int) : Rat) = a - b := by
  have h1 := den_ne a
  have h2 := den_ne b
  have e1 := rat_eq a
  have e2 := rat_eq b
  rw [Rat.intCast_sub, Rat.intCast_mul, Rat.intCast_mul, Rat.intCast_mul]
  generalize (a.num : Rat) = x at *
  generalize (b.num : Rat) = y at *
  generalize ((a.den : Int) : Rat) = u at *
  generalize ((b.den : Int) : Rat) = v at *
  subst e1 e2
  grind
theorem mul_eq (a b : Rat) : ((a.num * b.num : Int) : Rat) / ((a.den * b.den : Int) : Rat) = a * b := by
  have h1 := den_ne a
  have h2 := den_ne b
  have e1 := rat_eq a
  have e2 := rat_eq b
  rw [Rat.intCast_mul, Rat.intCast_mul]
  generalize (a.num : Rat) = x at *
  generalize (b.num : Rat) = y at *
  generalize ((a.den : Int) : Rat) = u at *
  generalize ((b.den : Int) : Rat) = v at *
  subst e1 e2
  grind
theorem num_ne {b : Rat} (h : b ≠ 0) : b.num ≠ 0 := fun e => h (by rw [rat_eq b, e]; simp [Rat.div_def])
theorem div_eq (a b : Rat) (hb : b ≠ 0) : ((a.num * b.den : Int) : Rat) / ((a.den * b.num : Int) : Rat) = a / b := by
  have h1 := den_ne a
  have h2 := den_ne b
  have h3 : (b.num : Rat) ≠ 0 := by simpa using num_ne hb
  have e1 := rat_eq a
  have e2 := rat_eq b
  rw [Rat.intCast_mul, Rat.intCast_mul]
  generalize (a.num : Rat) = x at *
  generalize (b.num : Rat) = y at *
  generalize ((a.den : Int) : Rat) = u at *
  generalize ((b.den : Int) : Rat) = v at *
  subst e1 e2
  grind
instance [Bd a m] [Bd b l] : Bd (a + b) (m + l + 1) := by
  rw [← add_eq]
  exact bd_div (IB.n (i := a.num * b.den + b.num * a.den) (m := m + l + (l + m) + 1) |> fun _ => by
    have h1 : (a.num * b.den).natAbs ≤ 2 ^ (m + l) := IB.n
    have h2 : (b.num * a.den).natAbs ≤ 2 ^ (m + l) := by rw [Nat.add_comm m l]; exact IB.n
    rw [Nat.pow_succ]; omega) (by
    have h : ((a.den : Int) * (b.den : Int)).natAbs ≤ 2 ^ (m + l) := IB.n
    exact le_l h)
instance [Bd a m] [Bd b l] : Bd (a - b) (m + l + 1) := by
  rw [← sub_eq]
  exact bd_div (by
    have h1 : (a.num * b.den).natAbs ≤ 2 ^ (m + l) := IB.n
    have h2 : (b.num * a.den).natAbs ≤ 2 ^ (m + l) := by rw [Nat.add_comm m l]; exact IB.n
    rw [Nat.pow_succ]; omega) (by
    have h : ((a.den : Int) * (b.den : Int)).natAbs ≤ 2 ^ (m + l) := IB.n
    exact le_l h)
instance [Bd a m] [Bd b l] : Bd (a * b) (m + l) := by
  rw [← mul_eq]
  exact bd_div IB.n IB.n
instance [Bd a m] : Bd (-a) m := ⟨by rw [Rat.neg_num, Int.natAbs_neg]; exact Bd.n, by rw [Rat.neg_den]; exact Bd.d (q := a)⟩
instance : Bd 0 0 := ⟨by decide, by decide⟩
instance : Bd 1 0 := ⟨by decide, by decide⟩
instance : Bd 2 1 := ⟨by decide +kernel, by decide +kernel⟩
instance : Bd 4 2 := ⟨by decide +kernel, by decide +kernel⟩
instance : Bd 6 3 := ⟨by decide +kernel, by decide +kernel⟩
instance [Bd a m] [Bd b l] : Bd (a / b) (m + l) := by
  by_cases h : b = 0
  · subst h
    have e : a / 0 = 0 := by simp [Rat.div_def]
    rw [e]
    exact ⟨by simp, by simpa using Nat.one_le_two_pow⟩
  · rw [← div_eq a b h]
    exact bd_div IB.n IB.n
instance [IB i m] : Bd (i : Rat) m := ⟨by simpa using IB.n (i := i), by simpa using Nat.one_le_two_pow⟩
/-! ### the defs of fractions -/
theorem abs_nat (i : Int) : (if i < 0 then -i else i) = (i.natAbs : Int) := by split <;> omega
@[simp] theorem blt_abs {S : Store} {i : Int} : bltEv .abs [.int i] S = some (.int (i.natAbs : Int)) := by rw [← abs_nat]; rfl
theorem gcd_abs (a b : Int) : Int.gcd (a.natAbs : Int) b = Int.gcd a b := by simp [Int.gcd]
end
section
variable {P : Nat → Option CF} [Lib P] {n : Nat} {S : Store} {i j : Int} {m l : Nat} {a b : Rat}
theorem share_loop (F : Fn) : ∀ (k : Nat) (a b : Int), 0 ≤ a → 0 ≤ b → b.toNat ≤ k → run F (.whl (.cmp .gt (.var 1) (.con (.int 0))) (cb_share_of_1 (Lib.ix P))) [some (.int a), some (.int b)] S =
    .nx [some (.int (Int.gcd a b)), some (.int 0)] S
  | k, a, b, ha, hb, hk => by
    rw [run_whl]
    by_cases h0 : b = 0
    · subst h0
      simp [Int.natAbs_of_nonneg ha]
    · have hp : 0 < b := by omega
      have hm : 0 ≤ a % b := Int.emod_nonneg _ h0
      have hl : a % b < b := Int.emod_lt_of_pos _ hp
      cases k with
      | zero => omega
      | succ k =>
        have ih := share_loop F k b (a % b) hb hm (by omega)
        simp [hp, cb_share_of_1]
        simp [cb_share_of_1] at ih
        rw [ih]
        rw [gcd_step a b]
theorem ev_share {a b : Int} (ha : 0 ≤ a) (hb : 0 ≤ b) : evF P (n + 1) (f_share_of P) [.int a, .int b] S = .ok (.int (Int.gcd a b)) S := by
  rw [evF_at (p_share_of P) rfl rfl]
  simp [cf_share_of, share_loop (P := P) _ b.toNat a b ha hb (Nat.le_refl _)]
theorem gcd_pos {a b : Int} (hb : 0 < b) : 0 < (Int.gcd a b : Int) := by
  have := Int.gcd_pos_iff.mpr (Or.inr (show b ≠ 0 by omega) : a ≠ 0 ∨ b ≠ 0)
  omega
@[simp] theorem ev_low {a b : Int} (hb : b ≠ 0) : evF P (n + 2) (f_low P) [.int a, .int b] S = .ok (fr ((a : Rat) / (b : Rat))) S := by
  rw [evF_at (p_low P) rfl rfl]
  have key : ∀ a b : Int, 0 < b → evF P (n + 1) (f_share_of P) [.int (a.natAbs : Int), .int b] S = .ok (.int (Int.gcd a b)) S := fun a b hb => by
    rw [ev_share (by omega) (by omega)]
    simp [Int.gcd]
  by_cases hn : b < 0
  · have k1 := key (-a) (-b) (by omega)
    have g := gcd_pos (a := -a) (show 0 < -b by omega)
    rw [Int.gcd_neg, Int.neg_gcd] at g
    obtain ⟨e1, e2⟩ := low_num (a := -a) (b := -b) (by omega)
    have e : ((-a : Int) : Rat) / ((-b : Int) : Rat) = (a : Rat) / (b : Rat) := by
      have : (b : Rat) ≠ 0 := by simpa using hb
      rw [Rat.intCast_neg, Rat.intCast_neg]
      grind
    rw [e] at e1 e2
    simp at k1 e1 e2
    simp [cf_low, hn, k1, bin_div_int (show DivOk _ _ from g), fr_def, e1, e2]
  · have k1 := key a b (by omega)
    have g := gcd_pos (a := a) (show 0 < b by omega)
    obtain ⟨e1, e2⟩ := low_num (a := a) (b := b) (by omega)
    simp [cf_low, hn, k1, bin_div_int (show DivOk _ _ from g), fr_def, e1, e2]
theorem lawlow_loop (F : Fn) (x y : Option D) : ∀ (k : Nat) (a b : Int), 0 ≤ a → 0 ≤ b → b.toNat ≤ k → run F (.whl (.cmp .gt (.var 3) (.con (.int 0))) (cb_law_low_1 (Lib.ix P))) [x, y, some (.int a), some (.int b)] S =
    .nx [x, y, some (.int (Int.gcd a b)), some (.int 0)] S
  | k, a, b, ha, hb, hk => by
    rw [run_whl]
    by_cases h0 : b = 0
    · subst h0
      simp [Int.natAbs_of_nonneg ha]
    · have hp : 0 < b := by omega
      have hm : 0 ≤ a % b := Int.emod_nonneg _ h0
      have hl : a % b < b := Int.emod_lt_of_pos _ hp
      cases k with
      | zero => omega
      | succ k =>
        have ih := lawlow_loop F x y k b (a % b) hb hm (by omega)
        simp [hp, cb_law_low_1]
        simp [cb_law_low_1] at ih
        rw [ih]
        rw [gcd_step a b]
@[simp] theorem ev_law_low {a b : Int} (hb : b ≠ 0) : evF P (n + 1) (f_law_low P) [.int a, .int b] S = .ok (fr ((a : Rat) / (b : Rat))) S := by
  rw [evF_at (p_law_low P) rfl rfl]
  by_cases hn : b < 0
  · have g := gcd_pos (a := -a) (show 0 < -b by omega)
    rw [Int.gcd_neg, Int.neg_gcd] at g
    obtain ⟨e1, e2⟩ := low_num (a := -a) (b := -b) (by omega)
    have e : ((-a : Int) : Rat) / ((-b : Int) : Rat) = (a : Rat) / (b : Rat) := by
      have : (b : Rat) ≠ 0 := by simpa using hb
      rw [Rat.intCast_neg, Rat.intCast_neg]
      grind
    rw [e] at e1 e2
    have ll := lawlow_loop (P := P) (S := S) (evF P n) (some (.int (-a))) (some (.int (-b))) (-b).toNat ((-a).natAbs : Int) (-b) (by omega) (by omega) (Nat.le_refl _)
    rw [gcd_abs] at ll
    simp at ll e1 e2
    simp [cf_law_low, hn, ll, bin_div_int (show DivOk _ _ from g), fr_def, e1, e2]
  · have g := gcd_pos (a := a) (show 0 < b by omega)
    obtain ⟨e1, e2⟩ := low_num (a := a) (b := b) (by omega)
    have ll := lawlow_loop (P := P) (S := S) (evF P n) (some (.int a)) (some (.int b)) b.toNat (a.natAbs : Int) b (by omega) (by omega) (Nat.le_refl _)
    rw [gcd_abs] at ll
    simp [cf_law_low, hn, ll, bin_div_int (show DivOk _ _ from g), fr_def, e1, e2]
theorem dd_ne (a b : Rat) : (a.den : Int) * (b.den : Int) ≠ 0 := by have := dd_pos a b; omega
theorem dn_ne (a : Rat) {b : Rat} (h : b ≠ 0) : (a.den : Int) * b.num ≠ 0 := Int.mul_ne_zero (by have := den_pos a; omega) (num_ne h)
theorem low_at {x y : Int} {q : Rat} (hb : y ≠ 0) (e : (x : Rat) / (y : Rat) = q) : evF P (n + 2) (f_low P) [.int x, .int y] S = .ok (fr q) S := by rw [ev_low hb, e]
theorem lawlow_at {x y : Int} {q : Rat} (hb : y ≠ 0) (e : (x : Rat) / (y : Rat) = q) : evF P (n + 1) (f_law_low P) [.int x, .int y] S = .ok (fr q) S := by rw [ev_law_low hb, e]
@[simp] theorem ev_add [Bd a m] [Bd b l] (h : m + l ≤ 130000000) : evF P (n + 3) (f_add P) [fr a, fr b] S = .ok (fr (a + b)) S := by
  rw [evF_at (p_add P) rfl rfl]
  have e := low_at (P := P) (n := n) (S := S) (dd_ne a b) (add_eq a b)
  simp [cf_add, bin_mul_int (mulOk_ib (i := a.num) (j := b.den) (by omega)), bin_mul_int (mulOk_ib (i := b.num) (j := a.den) (by omega)), bin_mul_int (mulOk_ib (i := a.den) (j := b.den) (by omega)), e, -ev_low, -ev_law_low]
@[simp] theorem ev_law_plus [Bd a m] [Bd b l] (h : m + l ≤ 130000000) : evF P (n + 2) (f_law_plus P) [fr a, fr b] S = .ok (fr (a + b)) S := by
  rw [evF_at (p_law_plus P) rfl rfl]
  have e := lawlow_at (P := P) (n := n) (S := S) (dd_ne a b) (add_eq a b)
  simp [cf_law_plus, bin_mul_int (mulOk_ib (i := a.num) (j := b.den) (by omega)), bin_mul_int (mulOk_ib (i := b.num) (j := a.den) (by omega)), bin_mul_int (mulOk_ib (i := a.den) (j := b.den) (by omega)), e, -ev_low, -ev_law_low]
@[simp] theorem ev_less [Bd a m] [Bd b l] (h : m + l ≤ 130000000) : evF P (n + 3) (f_less P) [fr a, fr b] S = .ok (fr (a - b)) S := by
  rw [evF_at (p_less P) rfl rfl]
  have e := low_at (P := P) (n := n) (S := S) (dd_ne a b) (sub_eq a b)
  simp [cf_less, bin_mul_int (mulOk_ib (i := a.num) (j := b.den) (by omega)), bin_mul_int (mulOk_ib (i := b.num) (j := a.den) (by omega)), bin_mul_int (mulOk_ib (i := a.den) (j := b.den) (by omega)), e, -ev_low, -ev_law_low]
@[simp] theorem ev_law_minus [Bd a m] [Bd b l] (h : m + l ≤ 130000000) : evF P (n + 2) (f_law_minus P) [fr a, fr b] S = .ok (fr (a - b)) S := by
  rw [evF_at (p_law_minus P) rfl rfl]
  have e := lawlow_at (P := P) (n := n) (S := S) (dd_ne a b) (sub_eq a b)
  simp [cf_law_minus, bin_mul_int (mulOk_ib (i := a.num) (j := b.den) (by omega)), bin_mul_int (mulOk_ib (i := b.num) (j := a.den) (by omega)), bin_mul_int (mulOk_ib (i := a.den) (j := b.den) (by omega)), e, -ev_low, -ev_law_low]
@[simp] theorem ev_mul [Bd a m] [Bd b l] (h : m + l ≤ 130000000) : evF P (n + 3) (f_mul P) [fr a, fr b] S = .ok (fr (a * b)) S := by
  rw [evF_at (p_mul P) rfl rfl]
  have e := low_at (P := P) (n := n) (S := S) (dd_ne a b) (mul_eq a b)
  simp [cf_mul, bin_mul_int (mulOk_ib (i := a.num) (j := b.num) (by omega)), bin_mul_int (mulOk_ib (i := a.den) (j := b.den) (by omega)), e, -ev_low, -ev_law_low]
@[simp] theorem ev_law_times [Bd a m] [Bd b l] (h : m + l ≤ 130000000) : evF P (n + 2) (f_law_times P) [fr a, fr b] S = .ok (fr (a * b)) S := by
  rw [evF_at (p_law_times P) rfl rfl]
  have e := lawlow_at (P := P) (n := n) (S := S) (dd_ne a b) (mul_eq a b)
  simp [cf_law_times, bin_mul_int (mulOk_ib (i := a.num) (j := b.num) (by omega)), bin_mul_int (mulOk_ib (i := a.den) (j := b.den) (by omega)), e, -ev_low, -ev_law_low]
@[simp] theorem ev_div [Bd a m] [Bd b l] (hz : b ≠ 0) (h : m + l ≤ 130000000) : evF P (n + 3) (f_div P) [fr a, fr b] S = .ok (fr (a / b)) S := by
  rw [evF_at (p_div P) rfl rfl]
  have e := low_at (P := P) (n := n) (S := S) (dn_ne a hz) (div_eq a b hz)
  simp [cf_div, bin_mul_int (mulOk_ib (i := a.num) (j := b.den) (by omega)), bin_mul_int (mulOk_ib (i := a.den) (j := b.num) (by omega)), e, -ev_low, -ev_law_low]
@[simp] theorem ev_law_over [Bd a m] [Bd b l] (hz : b ≠ 0) (h : m + l ≤ 130000000) : evF P (n + 2) (f_law_over P) [fr a, fr b] S = .ok (fr (a / b)) S := by
  rw [evF_at (p_law_over P) rfl rfl]
  have e := lawlow_at (P := P) (n := n) (S := S) (dn_ne a hz) (div_eq a b hz)
  simp [cf_law_over, bin_mul_int (mulOk_ib (i := a.num) (j := b.den) (by omega)), bin_mul_int (mulOk_ib (i := a.den) (j := b.num) (by omega)), e, -ev_low, -ev_law_low]
@[simp] theorem ev_is_less [Bd a m] [Bd b l] (h : m + l ≤ 130000000) : evF P (n + 1) (f_is_less P) [fr a, fr b] S = .ok (.bl (decide (a < b))) S := by
  rw [evF_at (p_is_less P) rfl rfl]
  simp [cf_is_less, bin_mul_int (mulOk_ib (i := a.num) (j := b.den) (by omega)), bin_mul_int (mulOk_ib (i := b.num) (j := a.den) (by omega)), Rat.lt_iff]
@[simp] theorem ev_law_below [Bd a m] [Bd b l] (h : m + l ≤ 130000000) : evF P (n + 1) (f_law_below P) [fr a, fr b] S = .ok (.bl (decide (a < b))) S := by
  rw [evF_at (p_law_below P) rfl rfl]
  simp [cf_law_below, bin_mul_int (mulOk_ib (i := a.num) (j := b.den) (by omega)), bin_mul_int (mulOk_ib (i := b.num) (j := a.den) (by omega)), Rat.lt_iff]
theorem half_eq (a : Rat) : ((a.num : Int) : Rat) / ((2 * a.den : Int) : Rat) = a / 2 := by
  have h1 := den_ne a
  have e1 := rat_eq a
  rw [Rat.intCast_mul]
  generalize (a.num : Rat) = x at *
  generalize ((a.den : Int) : Rat) = u at *
  subst e1
  have : ((2 : Int) : Rat) = 2 := by simp
  rw [this]
  grind
@[simp] theorem ev_half [Bd a m] : evF P (n + 3) (f_half P) [fr a] S = .ok (fr (a / 2)) S := by
  rw [evF_at (p_half P) rfl rfl]
  have e := low_at (P := P) (n := n) (S := S) (x := a.num) (y := 2 * a.den) (by have := den_pos a; omega) (half_eq a)
  simp [cf_half, bin_mul_int (mulOk_l (i := 2) (j := a.den) (by decide) (by decide)), e, -ev_low]
@[simp] theorem ev_whole : evF P (n + 1) (f_is_whole P) [.int i] S = .ok (.bl true) S := by
  rw [evF_at (p_is_whole P) rfl rfl]
  simp [cf_is_whole]
@[simp] theorem ev_law_whole : evF P (n + 1) (f_law_whole P) [.int i] S = .ok (.bl true) S := by
  rw [evF_at (p_law_whole P) rfl rfl]
  simp [cf_law_whole]
@[simp] theorem ev_is_fraction : evF P (n + 2) (f_is_fraction P) [fr a] S = .ok (.bl true) S := by
  rw [evF_at (p_is_fraction P) rfl rfl]
  have hd := a.den_pos
  have hg : Int.gcd (a.num.natAbs : Int) (a.den : Int) = 1 := by
    have := a.reduced
    simpa [Int.gcd] using this
  simp [cf_is_fraction, ev_share (P := P) (a := (a.num.natAbs : Int)) (b := (a.den : Int)) (by omega) (by omega), hg, hd]
theorem num_pos {a : Rat} : (0 < a.num) ↔ 0 < a := by
  have h1 := Rat.num_nonneg (q := a)
  have h2 := Rat.num_eq_zero (q := a)
  constructor
  · intro h
    exact Rat.lt_of_le_of_ne (h1.mp (by omega)) (fun e => by have := h2.mpr e.symm; omega)
  · intro h
    have := h1.mpr (Rat.le_of_lt h)
    have : a.num ≠ 0 := fun e => by rw [h2.mp e] at h; exact absurd h (Rat.lt_irrefl)
    omega
@[simp] theorem ev_from0 : evF P (n + 3) (f_is_from_zero P) [fr a] S = .ok (.bl (decide (0 ≤ a))) S := by
  rw [evF_at (p_is_from_zero P) rfl rfl]
  simp [cf_is_from_zero, Rat.num_nonneg]
@[simp] theorem ev_above0 : evF P (n + 3) (f_is_above_zero P) [fr a] S = .ok (.bl (decide (0 < a))) S := by
  rw [evF_at (p_is_above_zero P) rfl rfl]
  simp [cf_is_above_zero, num_pos]
/-! equality of data -/
@[simp] theorem okD_tup (k : Nat) (ds : List D) : okD (k + 1) (.tup ds) = okDs k ds := by rw [okD]
@[simp] theorem okD_lst (k : Nat) (ds : List D) : okD (k + 1) (.lst ds) = okDs k ds := by rw [okD]
@[simp] theorem okD_non (k : Nat) : okD k .non = true := by cases k <;> rfl
@[simp] theorem okD_bl (k : Nat) (b : Bool) : okD k (.bl b) = true := by cases k <;> rfl
@[simp] theorem okD_int (k : Nat) (i : Int) : okD k (.int i) = true := by cases k <;> rfl
@[simp] theorem okDs_nil (k : Nat) : okDs k [] = true := by rw [okDs]
@[simp] theorem okDs_cons (k : Nat) (d : D) (ds : List D) : okDs k (d :: ds) = (okD k d && okDs k ds) := by rw [okDs]
@[simp] theorem okD_fr (k : Nat) (q : Rat) : okD (k + 1) (fr q) = true := by simp [fr]
theorem okDs_map {α : Type} {k : Nat} {en : α → D} (h : ∀ x, okD k (en x) = true) (xs : List α) : okDs k (xs.map en) = true := by
  refine okDs_all fun d hd => ?_
  obtain ⟨x, _, rfl⟩ := List.mem_map.mp hd
  exact h x
@[simp] theorem eq_ev {x y : D} (hx : okD 20 x = true) (hy : okD 20 y = true) : cmpEv .eq x y S = some (.bl (eqD x y)) := cmp_eq 20 hx hy (by decide)
@[simp] theorem ne_ev {x y : D} (hx : okD 20 x = true) (hy : okD 20 y = true) : cmpEv .ne x y S = some (.bl (!eqD x y)) := cmp_ne 20 hx hy (by decide)
def eqDs : List D → List D → Bool
  | [], [] => true
  | x :: xs, y :: ys => eqD x y && eqDs xs ys
  | _, _ => false
theorem eqDs_len : ∀ {xs ys : List D}, eqDs xs ys = true → xs.length = ys.length
  | [], [], _ => rfl
  | x :: xs, y :: ys, h => by
    unfold eqDs at h
    rw [List.length_cons, List.length_cons, eqDs_len (ands h).2]
  | [], _ :: _, h => by cases h
  | _ :: _, [], h => by cases h
theorem eqD_tups (xs ys : List D) : eqD (.tup xs) (.tup ys) = eqDs xs ys := by
  have key : ∀ xs ys : List D, (match pys xs, pys ys with
      | some p, some q => PyData.eqvAll p q
      | _, _ => false) = eqDs xs ys := fun xs => by
    induction xs with
    | nil =>
      intro ys
      cases ys with
      | nil => rfl
      | cons y ys =>
        cases h1 : py y <;> cases h2 : pys ys <;> simp [pys, h1, h2, eqDs, PyData.eqvAll]
    | cons x xs ih =>
      intro ys
      cases ys with
      | nil => cases h1 : py x <;> cases h2 : pys xs <;> simp [pys, h1, h2, eqDs, PyData.eqvAll]
      | cons y ys =>
        have i := ih ys
        cases h1 : py x <;> cases h2 : pys xs <;> cases h3 : py y <;> cases h4 : pys ys <;> simp_all [pys, eqDs, PyData.eqvAll, eqD]
  rw [← key]
  unfold eqD py
  cases h1 : pys xs <;> cases h2 : pys ys <;> simp [PyData.eqv]
@[simp] theorem eqD_tup (xs ys : List D) : eqD (.tup xs) (.tup ys) = eqDs xs ys := eqD_tups xs ys
@[simp] theorem eqD_lst (xs ys : List D) : eqD (.lst xs) (.lst ys) = eqDs xs ys := by
  rw [← eqD_tups]
  unfold eqD py
  cases h1 : pys xs <;> cases h2 : pys ys <;> simp [PyData.eqv]
@[simp] theorem eqDs_nil : eqDs [] [] = true := rfl
@[simp] theorem eqDs_cons (x y : D) (xs ys : List D) : eqDs (x :: xs) (y :: ys) = (eqD x y && eqDs xs ys) := rfl
@[simp] theorem eqDs_nc (x : D) (xs : List D) : eqDs [] (x :: xs) = false := rfl
@[simp] theorem eqDs_cn (x : D) (xs : List D) : eqDs (x :: xs) [] = false := rfl
@[simp] theorem eqD_int (i j : Int) : eqD (.int i) (.int j) = decide (i = j) := by
  have : eqD (.int i) (.int j) = (i == j) := rfl
  rw [this]
  rfl
@[simp] theorem eqD_non : eqD .non .non = true := rfl
@[simp] theorem eqD_non_tup (xs : List D) : eqD .non (.tup xs) = false := by
  unfold eqD py
  cases pys xs <;> rfl
@[simp] theorem eqD_tup_non (xs : List D) : eqD (.tup xs) .non = false := by
  unfold eqD py
  cases pys xs <;> rfl
@[simp] theorem eqD_non_fr : eqD .non (fr a) = false := rfl
@[simp] theorem eqD_fr_non : eqD (fr a) .non = false := rfl
@[simp] theorem eqD_fr : eqD (fr a) (fr b) = decide (a = b) := by
  simp [fr]
  rw [Bool.eq_iff_iff]
  simp
  constructor
  · intro h; exact Rat.ext h.1 (by omega)
  · intro h; subst h; exact ⟨rfl, rfl⟩
theorem eqDs_map {α : Type} {en : α → D} (h : ∀ x y, eqD (en x) (en y) = true ↔ x = y) : ∀ xs ys : List α, eqDs (xs.map en) (ys.map en) = true ↔ xs = ys
  | [], [] => by simp
  | [], _ :: _ => by simp
  | _ :: _, [] => by simp
  | x :: xs, y :: ys => by simp [h, eqDs_map h xs ys]
end
end Z

/-! X, part C: loops and comprehensions that change no cell; cables. -/
namespace Z
open PySem
theorem at_fix {S : Store} {ws : List D} : Wk.At S (.fix ws) = True := rfl
@[simp] theorem at_fix' {S : Store} {ws : List D} : Wk.At S (.fix ws) := trivial
@[simp] theorem items_fix {ws : List D} : Wk.items (.fix ws) = ws := rfl
@[simp] theorem wk_tup {S : Store} {ds : List D} : walkSeq S (.tup ds) = some (.fix ds) := rfl
@[simp] theorem wk_lst {S : Store} {ds : List D} : walkSeq S (.lst ds) = some (.fix ds) := rfl
theorem comp_map {α : Type} {F : Fn} {elt : CE} {tg : CT} {w : List D} {δ : Env} {own : List Nat} {S : Store} (en g : α → D) : ∀ (xs : List α) (acc : List D), acc.length + xs.length ≤ 1000 →
    (∀ x ∈ xs, (match stepT tg (en x) (wipeD δ own) with
      | some δ1 => ev F elt δ1 S
      | none => .stuck) = .ok (g x) S) →
    compEv (ev F elt) (ev F (.con (.bl true))) tg (.fix w) δ own (xs.map en) acc S = .ok (acc ++ xs.map g) S
  | [], acc, _, _ => by simp [compEv, at_fix]
  | x :: xs, acc, hl, h => by
    have hz : acc.length < sizeLine := by rw [sizeLine_eq]; simp at hl; omega
    have ih := comp_map (F := F) (elt := elt) (tg := tg) (w := w) (δ := δ) (own := own) en g xs (acc ++ [g x]) (by simp at hl ⊢; omega) (fun y hy => h y (List.mem_cons_of_mem _ hy))
    have hx := h x List.mem_cons_self
    rw [List.map_cons]
    cases e : stepT tg (en x) (wipeD δ own) with
    | none => rw [e] at hx; cases hx
    | some δ1 =>
      rw [e] at hx
      simp only [compEv, at_fix, if_true, e, hz, ev_con', hx]
      rw [ih]
      simp
theorem comp_filter {α : Type} {F : Fn} {elt cond : CE} {tg : CT} {w : List D} {δ : Env} {own : List Nat} {S : Store} (en g : α → D) (p : α → Bool) : ∀ (xs : List α) (acc : List D), acc.length + xs.length ≤ 1000 →
    (∀ x ∈ xs, (match stepT tg (en x) (wipeD δ own) with
      | some δ1 => ev F cond δ1 S
      | none => .stuck) = .ok (.bl (p x)) S) →
    (∀ x ∈ xs, p x = true → (match stepT tg (en x) (wipeD δ own) with
      | some δ1 => ev F elt δ1 S
      | none => .stuck) = .ok (g x) S) →
    compEv (ev F elt) (ev F cond) tg (.fix w) δ own (xs.map en) acc S = .ok (acc ++ (xs.filter p).map g) S
  | [], acc, _, _, _ => by simp [compEv, at_fix]
  | x :: xs, acc, hl, h, h' => by
    have hz : acc.length < sizeLine := by rw [sizeLine_eq]; simp at hl; omega
    have ih := fun acc' hl' => comp_filter (F := F) (elt := elt) (cond := cond) (tg := tg) (w := w) (δ := δ) (own := own) en g p xs acc' hl' (fun y hy => h y (List.mem_cons_of_mem _ hy)) (fun y hy => h' y (List.mem_cons_of_mem _ hy))
    have hx := h x List.mem_cons_self
    have hx' := h' x List.mem_cons_self
    rw [List.map_cons]
    cases e : stepT tg (en x) (wipeD δ own) with
    | none => rw [e] at hx; cases hx
    | some δ1 =>
      rw [e] at hx hx'
      simp only [compEv, at_fix, if_true, e, hz]
      have hx : ev F cond δ1 S = .ok (.bl (p x)) S := hx
      rw [hx]
      cases q : p x with
      | true =>
        have hx' : ev F elt δ1 S = .ok (g x) S := hx' q
        simp only [hx']
        rw [ih _ (by simp at hl ⊢; omega), List.filter_cons, q]
        simp
      | false =>
        simp only []
        rw [ih _ (by simp at hl ⊢; omega), List.filter_cons, q]
        simp
section
variable {F : Fn} {body : Env → Store → SR} {tg : CT} {ws : List D} {S : Store} {δ : Env} {d : D} {ds : List D}
@[simp] theorem for_nil : forEv body tg (.fix ws) [] δ S = .nx δ S := by simp [forEv, at_fix]
@[simp] theorem for_cons : forEv body tg (.fix ws) (d :: ds) δ S = match stepT tg d δ with
    | some δ1 => (match body δ1 S with
      | .nx δ2 S2 => forEv body tg (.fix ws) ds δ2 S2
      | .bk δ2 S2 => .nx δ2 S2
      | r => r)
    | none => .stuck := by
  rw [forEv, if_pos at_fix'] <;> rfl
@[simp] theorem in_lst {x : D} (hx : okD 20 x = true) (hd : okD 20 (.lst ds) = true) : cmpEv .isin x (.lst ds) S = some (.bl (ds.any fun z => eqD z x)) := by
  obtain ⟨p, e1, e2, e3⟩ := okD_py 20 x hx
  obtain ⟨q, e4, e5, e6⟩ := okD_py 20 (.lst ds) hd
  have s1 : SeqAt.shaped p = true := by unfold SeqAt.shaped; rw [e2]; simp; omega
  have s2 : SeqAt.shaped q = true := by unfold SeqAt.shaped; rw [e5]; simp; omega
  show ((inEvD S x (.lst ds))).map D.bl = _
  have h0 : inEvD S x (.lst ds) = inEv S x (.lst ds) := rfl
  rw [h0]
  unfold inEv
  simp only []
  rw [pyS_of hx, pyS_of hd, e1, e4]
  simp only [shapedO, if_pos s1, if_pos s2]
  unfold py at e4
  cases h : pys ds with
  | none => rw [h] at e4; cases e4
  | some es =>
    rw [h] at e4
    cases e4
    simp only [Option.map_some]
    congr 2
    have key : ∀ (ds : List D) (es : List PyData), pys ds = some es → (es.any fun z => PyData.eqv z p) = ds.any fun z => eqD z x := fun ds => by
      induction ds with
      | nil => intro es h; cases h; rfl
      | cons d ds ih =>
        intro es h
        unfold pys at h
        cases h1 : py d with
        | none => rw [h1] at h; cases h
        | some a =>
          cases h2 : pys ds with
          | none => rw [h1, h2] at h; cases h
          | some as =>
            rw [h1, h2] at h
            cases h
            have e : eqD d x = PyData.eqv a p := by unfold eqD; rw [h1, e1]
            rw [List.any_cons, List.any_cons, ih as h2, e]
    exact key ds es h
@[simp] theorem notin_lst {x : D} (hx : okD 20 x = true) (hd : okD 20 (.lst ds) = true) : cmpEv .notin x (.lst ds) S = some (.bl (!(ds.any fun z => eqD z x))) := by
  have h := in_lst (S := S) hx hd
  have e : cmpEv .isin x (.lst ds) S = (inEvD S x (.lst ds)).map D.bl := rfl
  have e2 : cmpEv .notin x (.lst ds) S = ((inEvD S x (.lst ds)).map (!·)).map D.bl := rfl
  rw [e] at h
  rw [e2]
  cases q : inEvD S x (.lst ds) with
  | none => rw [q] at h; cases h
  | some b =>
    rw [q] at h
    have : b = ds.any fun z => eqD z x := by simpa using h
    subst this
    rfl
end
def foldR {α σ β : Type} (f : σ → α → σ ⊕ β) : σ → List α → σ ⊕ β
  | s, [] => .inl s
  | s, x :: xs => match f s x with
    | .inl s' => foldR f s' xs
    | .inr r => .inr r
def outR {σ : Type} (E : σ → Env) (S : Store) : σ ⊕ D → SR
  | .inl s => .nx (E s) S
  | .inr d => .rt d S
@[simp] theorem outR_inl {σ : Type} {E : σ → Env} {S : Store} {s : σ} : outR E S (.inl s) = .nx (E s) S := rfl
@[simp] theorem outR_inr {σ : Type} {E : σ → Env} {S : Store} {d : D} : outR E S (.inr d) = .rt d S := rfl
/-- a loop over data, with an invariant over what is left -/
theorem for_ret {α σ : Type} {body : Env → Store → SR} {tg : CT} {ws : List D} {S : Store} (en : α → D) (E : σ → Env) (f : σ → α → σ ⊕ D) (I : List α → σ → Prop)
    (h : ∀ x xs s, I (x :: xs) s → (match stepT tg (en x) (E s) with
      | some δ1 => body δ1 S
      | none => .stuck) = outR E S (f s x) ∧ ∀ s', f s x = .inl s' → I xs s') : ∀ (xs : List α) (s : σ), I xs s →
    forEv body tg (.fix ws) (xs.map en) (E s) S = outR E S (foldR f s xs)
  | [], s, _ => by simp [forEv, at_fix, foldR]
  | x :: xs, s, hI => by
    obtain ⟨h1, h2⟩ := h x xs s hI
    rw [List.map_cons]
    unfold forEv foldR
    rw [if_pos at_fix']
    cases e : stepT tg (en x) (E s) with
    | none =>
      rw [e] at h1
      cases q : f s x <;> rw [q] at h1 <;> cases h1
    | some δ1 =>
      rw [e] at h1
      have h1 : body δ1 S = _ := h1
      simp only [h1]
      cases q : f s x with
      | inl s' => exact for_ret en E f I h xs s' (h2 s' q)
      | inr d => rfl
theorem for_fold {α σ : Type} {body : Env → Store → SR} {tg : CT} {ws : List D} {S : Store} (en : α → D) (E : σ → Env) (f : σ → α → σ) (I : List α → σ → Prop)
    (h : ∀ x xs s, I (x :: xs) s → (match stepT tg (en x) (E s) with
      | some δ1 => body δ1 S
      | none => .stuck) = .nx (E (f s x)) S ∧ I xs (f s x)) : ∀ (xs : List α) (s : σ), I xs s →
    forEv body tg (.fix ws) (xs.map en) (E s) S = .nx (E (xs.foldl f s)) S
  | [], s, _ => by simp [forEv, at_fix]
  | x :: xs, s, hI => by
    obtain ⟨h1, h2⟩ := h x xs s hI
    rw [List.map_cons]
    unfold forEv
    rw [if_pos at_fix']
    cases e : stepT tg (en x) (E s) with
    | none => rw [e] at h1; cases h1
    | some δ1 =>
      rw [e] at h1
      have h1 : body δ1 S = _ := h1
      simp only [h1]
      exact for_fold en E f I h xs (f s x) h2
theorem bls_eq {α : Type} (g : α → Bool) (xs : List α) : bls? (xs.map fun x => D.bl (g x)) = some (xs.map g) := by
  have := bls_map (xs.map g)
  rw [List.map_map] at this
  exact this
theorem ints_eq {α : Type} (g : α → Int) (xs : List α) : ints? (xs.map fun x => D.int (g x)) = some (xs.map g) := by
  have := ints_map (xs.map g)
  rw [List.map_map] at this
  exact this
@[simp] theorem bls_true {α : Type} (xs : List α) : bls? (xs.map fun _ => D.bl true) = some (xs.map fun _ => true) := bls_eq _ _
@[simp] theorem all_id_true {α : Type} (xs : List α) : (xs.map fun _ => true).all id = true := by simp
@[simp] theorem all_tt {α : Type} (xs : List α) : (xs.all fun _ => true) = true := by simp
/-! cables -/
abbrev Len := Int × Rat
def enL (x : Len) : D := .tup [.int x.1, fr x.2]
structure LenOk (x : Len) : Prop where
  lo : 1 ≤ x.1
  hi : x.1 ≤ 999
  pos : 0 < x.2
  n : x.2.num ≤ 999
  d : (x.2.den : Int) ≤ 999
class LsOk (ls : List Len) : Prop where
  lo : 1 ≤ ls.length
  hi : ls.length ≤ 12
  len : ∀ x ∈ ls, LenOk x
class BkOk (b : Rat) : Prop where
  back : 0 ≤ b
  n : b.num ≤ 999
  d : (b.den : Int) ≤ 999
theorem LenOk.ib {x : Len} (h : LenOk x) : IB x.1 10 := ⟨by have := h.lo; have := h.hi; omega⟩
theorem LenOk.bd {x : Len} (h : LenOk x) : Bd x.2 10 := ⟨by have := num_pos.mpr h.pos; have := h.n; omega, by have := h.d; omega⟩
section
variable {P : Nat → Option CF} [Lib P] {n : Nat} {S : Store} {m l : Nat} {a b p : Rat} {ls : List Len}
instance [h : BkOk b] : Bd b 10 := ⟨by have := Rat.num_nonneg.mpr h.back; have := h.n; omega, by have := h.d; omega⟩
@[simp] theorem walkI : (match (if True then (some a : Option Rat) else none) with | some x => x | none => 0) = a := rfl
def allSteps (ls : List Len) : Int := (ls.map (·.1)).sum
def allDrag (ls : List Len) : Rat := (ls.map fun x => (x.1 : Rat) * x.2).sum
theorem steps_pos : ∀ {xs : List Len}, (∀ x ∈ xs, LenOk x) → 0 ≤ allSteps xs ∧ allSteps xs ≤ 999 * xs.length
  | [], _ => by simp [allSteps]
  | x :: xs, h => by
    have ih := steps_pos fun y hy => h y (List.mem_cons_of_mem _ hy)
    have hx := h x List.mem_cons_self
    have h1 := hx.lo
    have h2 := hx.hi
    unfold allSteps at *
    simp only [List.map_cons, List.sum_cons, List.length_cons]
    omega
theorem ib_steps (h : ∀ x ∈ ls, LenOk x) (hl : ls.length ≤ 12) : IB (allSteps ls) 14 := ⟨by
  have := steps_pos h
  omega⟩
theorem bd_drag : ∀ {ls : List Len}, (∀ x ∈ ls, LenOk x) → Bd (allDrag ls) (21 * ls.length)
  | [], _ => by unfold allDrag; exact Bd.mono (m := 0) (inferInstanceAs (Bd 0 0)) (by omega)
  | x :: ls, h => by
    have ih := bd_drag fun y hy => h y (List.mem_cons_of_mem _ hy)
    have i1 := (h x List.mem_cons_self).ib
    have i2 := (h x List.mem_cons_self).bd
    unfold allDrag at *
    rw [List.map_cons, List.sum_cons]
    exact Bd.mono (m := 10 + 10 + 21 * ls.length + 1) inferInstance (by simp; omega)
theorem bd_drag12 (h : ∀ x ∈ ls, LenOk x) (hl : ls.length ≤ 12) : Bd (allDrag ls) 252 := (bd_drag h).mono (by omega)
def dragAt : List Len → Rat → Rat
  | [], _ => 0
  | x :: ls, p => if (x.1 : Rat) < p then (x.1 : Rat) * x.2 + dragAt ls (p - x.1) else p * x.2
def placeWith : List Len → Rat → Rat
  | [], _ => 0
  | x :: ls, d => if (x.1 : Rat) * x.2 < d then (x.1 : Rat) + placeWith ls (d - (x.1 : Rat) * x.2) else d / x.2
theorem bd_dragAt : ∀ {ls : List Len} {p : Rat} {m : Nat}, (∀ x ∈ ls, LenOk x) → Bd p m → Bd (dragAt ls p) (m + 40 * ls.length)
  | [], p, m, _, hp => by unfold dragAt; exact Bd.mono (m := 0) (inferInstanceAs (Bd 0 0)) (by omega)
  | x :: ls, p, m, h, hp => by
    have i1 := (h x List.mem_cons_self).ib
    have i2 := (h x List.mem_cons_self).bd
    have ih := bd_dragAt (ls := ls) (p := p - (x.1 : Rat)) (m := m + 10 + 1) (fun y hy => h y (List.mem_cons_of_mem _ hy)) inferInstance
    unfold dragAt
    split
    · exact Bd.mono (m := 10 + 10 + (m + 10 + 1 + 40 * ls.length) + 1) inferInstance (by simp; omega)
    · exact Bd.mono (m := m + 10) inferInstance (by simp; omega)
theorem bd_placeWith : ∀ {ls : List Len} {p : Rat} {m : Nat}, (∀ x ∈ ls, LenOk x) → Bd p m → Bd (placeWith ls p) (m + 40 * ls.length)
  | [], p, m, _, hp => by unfold placeWith; exact Bd.mono (m := 0) (inferInstanceAs (Bd 0 0)) (by omega)
  | x :: ls, p, m, h, hp => by
    have i1 := (h x List.mem_cons_self).ib
    have i2 := (h x List.mem_cons_self).bd
    have ih := bd_placeWith (ls := ls) (p := p - (x.1 : Rat) * x.2) (m := m + (10 + 10) + 1) (fun y hy => h y (List.mem_cons_of_mem _ hy)) inferInstance
    unfold placeWith
    split
    · exact Bd.mono (m := 10 + (m + (10 + 10) + 1 + 40 * ls.length) + 1) inferInstance (by simp; omega)
    · exact Bd.mono (m := m + 10) inferInstance (by simp; omega)
instance [h : LsOk ls] : IB (allSteps ls) 14 := ib_steps h.len h.hi
instance [h : LsOk ls] : Bd (allDrag ls) 252 := bd_drag12 h.len h.hi
instance [h : LsOk ls] [hp : Bd p m] : Bd (dragAt ls p) (m + 480) := (bd_dragAt h.len hp).mono (by have := h.hi; omega)
instance [h : LsOk ls] [hp : Bd p m] : Bd (placeWith ls p) (m + 480) := (bd_placeWith h.len hp).mono (by have := h.hi; omega)
theorem num_pos' {x : Len} (h : LenOk x) : 0 < x.2 := h.pos
theorem ev_small (h1 : a.num ≤ 999) (h2 : (a.den : Int) ≤ 999) : evF P (n + 1) (f_is_small P) [fr a] S = .ok (.bl true) S := by
  rw [evF_at (p_is_small P) rfl rfl]
  simp [cf_is_small, h1, h2]
theorem ev_is_length {x : Len} (h : LenOk x) : evF P (n + 4) (f_is_length P) [enL x] S = .ok (.bl true) S := by
  rw [evF_at (p_is_length P) rfl rfl]
  simp [cf_is_length, enL, h.lo, h.hi, h.pos, ev_small (P := P) h.n h.d]
@[simp] theorem ev_is_cable [h : LsOk ls] [hb : BkOk b] : evF P (n + 5) (f_is_cable P) [.tup [.tup (ls.map enL), fr b]] S = .ok (.bl true) S := by
  rw [evF_at (p_is_cable P) rfl rfl]
  have h1 : (1 : Int) ≤ ls.length := by have := h.lo; omega
  have h2 : (ls.length : Int) ≤ 12 := by have := h.hi; omega
  simp [cf_is_cable, h1, h2]
  rw [comp_map enL (fun _ => .bl true) ls [] (by simp; omega) (fun x hx => by simp [wipeD, ev_is_length (P := P) (h.len x hx)])]
  simp [hb.back, ev_small (P := P) hb.n hb.d]
@[simp] theorem ev_check_cable [h : LsOk ls] [hb : BkOk b] : evF P (n + 6) (f_check_cable P) [.tup [.tup (ls.map enL), fr b]] S = .ok .non S := by
  rw [evF_at (p_check_cable P) rfl rfl]
  simp [cf_check_cable]
@[simp] theorem ev_all_steps [h : LsOk ls] : evF P (n + 1) (f_all_steps P) [.tup [.tup (ls.map enL), fr b]] S = .ok (.int (allSteps ls)) S := by
  rw [evF_at (p_all_steps P) rfl rfl]
  simp [cf_all_steps]
  rw [comp_map enL (fun x => .int x.1) ls [] (by have := h.hi; simp; omega) (fun x hx => by simp [wipeD, enL])]
  simp [ints_eq, allSteps]
theorem foldl_sum {α : Type} (g : α → Rat) : ∀ (xs : List α) (s : Rat), xs.foldl (fun s x => s + g x) s = s + (xs.map g).sum
  | [], s => by simp [Rat.add_zero]
  | x :: xs, s => by
    rw [List.foldl_cons, foldl_sum g xs, List.map_cons, List.sum_cons]
    grind
end
end Z

/-! X, part D: drags and places; leaks. -/
namespace Z
open PySem
section
variable {P : Nat → Option CF} [Lib P] {n : Nat} {S : Store} {m l : Nat} {a b p : Rat} {ls : List Len}
/-- the loop of all_drag: what is found, the loop's names -/
@[simp] theorem ev_all_drag [h : LsOk ls] : evF P (n + 4) (f_all_drag P) [.tup [.tup (ls.map enL), fr b]] S = .ok (fr (allDrag ls)) S := by
  rw [evF_at (p_all_drag P) rfl rfl]
  have e : ∀ (ws : List D) (s : Rat × Option D × Option D), (s.1 = 0) → forEv (run (evF P (n + 3)) (cb_all_drag_1 (Lib.ix P))) (.tp (.cons (.nm 2) (.cons (.nm 3) .nil))) (.fix ws) (ls.map enL) [some (.tup [.tup (ls.map enL), fr b]), some (fr s.1), s.2.1, s.2.2] S
      = .nx (let t := ls.foldl (fun (s : Rat × Option D × Option D) x => (s.1 + (x.1 : Rat) * x.2, some (.int x.1), some (fr x.2))) s; [some (.tup [.tup (ls.map enL), fr b]), some (fr t.1), t.2.1, t.2.2]) S := fun ws s hs =>
    for_fold (ws := ws) enL (fun s : Rat × Option D × Option D => [some (.tup [.tup (ls.map enL), fr b]), some (fr s.1), s.2.1, s.2.2]) (fun s x => (s.1 + (x.1 : Rat) * x.2, some (.int x.1), some (fr x.2)))
      (fun xs s => (∀ x ∈ xs, LenOk x) ∧ xs.length ≤ 12 ∧ Bd s.1 (21 * (12 - xs.length))) (fun x xs s ⟨h1, h2, h3⟩ => by
        have i1 := (h1 x List.mem_cons_self).ib
        have i2 := (h1 x List.mem_cons_self).bd
        simp at h2
        have b3 : Bd s.1 252 := h3.mono (by omega)
        refine ⟨by simp [enL, cb_all_drag_1], fun y hy => h1 y (List.mem_cons_of_mem _ hy), by omega, ?_⟩
        show Bd (s.1 + (x.1 : Rat) * x.2) _
        clear b3
        exact Bd.mono (m := 21 * (12 - (x :: xs).length) + (10 + 10) + 1) inferInstance (by simp; omega)) ls s
      ⟨h.len, h.hi, by rw [hs]; exact Bd.mono (m := 0) (inferInstanceAs (Bd 0 0)) (by omega)⟩
  have e2 : ∀ (xs : List Len) (s : Rat × Option D × Option D), (xs.foldl (fun (s : Rat × Option D × Option D) x => (s.1 + (x.1 : Rat) * x.2, some (.int x.1), some (fr x.2))) s).1 = s.1 + allDrag xs := fun xs => by
    induction xs with
    | nil => intro s; simp [allDrag, Rat.add_zero]
    | cons x xs ih =>
      intro s
      rw [List.foldl_cons, ih]
      simp only [allDrag, List.map_cons, List.sum_cons]
      grind
  have e := e (ls.map enL) (0, none, none) rfl
  simp only [] at e
  simp [cf_all_drag, e, e2, Rat.zero_add]
theorem ev_drag_at [h : LsOk ls] [hp : Bd p m] (hm : m ≤ 120000000) : evF P (n + 4) (f_drag_at P) [.tup [.tup (ls.map enL), fr b], fr p] S = .ok (fr (dragAt ls p)) S := by
  rw [evF_at (p_drag_at P) rfl rfl]
  let C : D := .tup [.tup (ls.map enL), fr b]
  let E : Rat × Rat × Option D × Option D → Env := fun s => [some C, some (fr p), some (fr s.1), some (fr s.2.1), s.2.2.1, s.2.2.2]
  let f : Rat × Rat × Option D × Option D → Len → (Rat × Rat × Option D × Option D) ⊕ D := fun s x => if (x.1 : Rat) < s.2.1 then .inl (s.1 + (x.1 : Rat) * x.2, s.2.1 - (x.1 : Rat), some (.int x.1), some (fr x.2)) else .inr (fr (s.1 + s.2.1 * x.2))
  have e : ∀ (ws : List D), forEv (run (evF P (n + 3)) (cb_drag_at_1 (Lib.ix P))) (.tp (.cons (.nm 4) (.cons (.nm 5) .nil))) (.fix ws) (ls.map enL) (E (0, p, none, none)) S
      = outR E S (foldR f (0, p, none, none) ls) := fun ws =>
    for_ret (body := run (evF P (n + 3)) (cb_drag_at_1 (Lib.ix P))) (tg := (.tp (.cons (.nm 4) (.cons (.nm 5) .nil)))) (S := S) (ws := ws) enL E f
      (fun xs s => (∀ x ∈ xs, LenOk x) ∧ xs.length ≤ 12 ∧ Bd s.1 (21 * (12 - xs.length)) ∧ Bd s.2.1 (m + 11 * (12 - xs.length))) (fun x xs s ⟨h1, h2, h3, h4⟩ => by
        have i1 := (h1 x List.mem_cons_self).ib
        have i2 := (h1 x List.mem_cons_self).bd
        simp at h2
        have b3 : Bd s.1 252 := h3.mono (by omega)
        have b4 : Bd s.2.1 (m + 132) := h4.mono (by omega)
        have q1 : 10 + (m + 132) ≤ 130000000 := by omega
        have q2 : (m + 132) + 10 ≤ 130000000 := by omega
        have q3 : 252 + (m + 132 + 10) ≤ 130000000 := by omega
        by_cases c : (x.1 : Rat) < s.2.1
        · refine ⟨by simp [E, f, enL, cb_drag_at_1, c, ev_is_less q1, ev_less q2, C], fun s' hs' => ?_⟩
          simp only [f, if_pos c] at hs'
          cases hs'
          refine ⟨fun y hy => h1 y (List.mem_cons_of_mem _ hy), by omega, ?_, ?_⟩
          · show Bd (s.1 + (x.1 : Rat) * x.2) _
            clear b3
            exact Bd.mono (m := 21 * (12 - (x :: xs).length) + (10 + 10) + 1) inferInstance (by simp; omega)
          · show Bd (s.2.1 - (x.1 : Rat)) _
            clear b4
            exact Bd.mono (m := m + 11 * (12 - (x :: xs).length) + 10 + 1) inferInstance (by simp; omega)
        · refine ⟨by simp [E, f, enL, cb_drag_at_1, c, ev_is_less q1, ev_mul (b := x.2) q2, ev_add (b := s.2.1 * x.2) q3, C], fun s' hs' => ?_⟩
          simp only [f, if_neg c] at hs'
          cases hs') ls (0, p, none, none)
      ⟨h.len, h.hi, Bd.mono (m := 0) (inferInstanceAs (Bd 0 0)) (by omega), hp.mono (by omega)⟩
  have e2 : ∀ (xs : List Len) (s : Rat × Rat × Option D × Option D), (match foldR f s xs with
      | .inl s' => fr s'.1
      | .inr d => d) = fr (s.1 + dragAt xs s.2.1) := fun xs => by
    induction xs with
    | nil => intro s; simp [foldR, dragAt, Rat.add_zero]
    | cons x xs ih =>
      intro s
      unfold foldR dragAt
      by_cases c : (x.1 : Rat) < s.2.1
      · simp only [f, if_pos c]
        rw [ih]
        congr 1
        grind
      · simp only [f, if_neg c]
  have e := e (ls.map enL)
  have e2 := e2 ls (0, p, none, none)
  simp only [E, C] at e
  simp [cf_drag_at, e]
  cases q : foldR f (0, p, none, none) ls with
  | inl s' =>
    rw [q] at e2
    simp only [Rat.zero_add] at e2
    simp [e2]
  | inr d =>
    rw [q] at e2
    simp only [Rat.zero_add] at e2
    simp [e2]
theorem ev_place_with [h : LsOk ls] [hp : Bd p m] (hm : m ≤ 120000000) : evF P (n + 4) (f_place_with P) [.tup [.tup (ls.map enL), fr b], fr p] S = .ok (fr (placeWith ls p)) S := by
  rw [evF_at (p_place_with P) rfl rfl]
  let C : D := .tup [.tup (ls.map enL), fr b]
  let E : Int × Rat × Option D × Option D × Option D → Env := fun s => [some C, some (fr p), some (.int s.1), some (fr s.2.1), s.2.2.1, s.2.2.2.1, s.2.2.2.2]
  let f : Int × Rat × Option D × Option D × Option D → Len → (Int × Rat × Option D × Option D × Option D) ⊕ D := fun s x => if (x.1 : Rat) * x.2 < s.2.1 then .inl (s.1 + x.1, s.2.1 - (x.1 : Rat) * x.2, some (.int x.1), some (fr x.2), some (fr ((x.1 : Rat) * x.2))) else .inr (fr ((s.1 : Rat) + s.2.1 / x.2))
  have e : ∀ (ws : List D), forEv (run (evF P (n + 3)) (cb_place_with_1 (Lib.ix P))) (.tp (.cons (.nm 4) (.cons (.nm 5) .nil))) (.fix ws) (ls.map enL) (E (0, p, none, none, none)) S
      = outR E S (foldR f (0, p, none, none, none) ls) := fun ws =>
    for_ret (body := run (evF P (n + 3)) (cb_place_with_1 (Lib.ix P))) (tg := (.tp (.cons (.nm 4) (.cons (.nm 5) .nil)))) (S := S) (ws := ws) enL E f
      (fun xs s => (∀ x ∈ xs, LenOk x) ∧ xs.length ≤ 12 ∧ IB s.1 (11 * (12 - xs.length)) ∧ Bd s.2.1 (m + 21 * (12 - xs.length))) (fun x xs s ⟨h1, h2, h3, h4⟩ => by
        have i1 := (h1 x List.mem_cons_self).ib
        have i2 := (h1 x List.mem_cons_self).bd
        have xp := (h1 x List.mem_cons_self).pos
        have xz : x.2 ≠ 0 := fun e => by rw [e] at xp; exact absurd xp Rat.lt_irrefl
        simp at h2
        have b3 : IB s.1 132 := h3.mono (by omega)
        have b4 : Bd s.2.1 (m + 252) := h4.mono (by omega)
        have q1 : (10 + 10) + (m + 252) ≤ 130000000 := by omega
        have q2 : (m + 252) + (10 + 10) ≤ 130000000 := by omega
        have q3 : (m + 252) + 10 ≤ 130000000 := by omega
        have q4 : 132 + (m + 252 + 10) ≤ 130000000 := by omega
        by_cases c : (x.1 : Rat) * x.2 < s.2.1
        · refine ⟨by simp [E, f, enL, cb_place_with_1, c, ev_is_less q1, ev_less q2, C], fun s' hs' => ?_⟩
          simp only [f, if_pos c] at hs'
          cases hs'
          refine ⟨fun y hy => h1 y (List.mem_cons_of_mem _ hy), by omega, ?_, ?_⟩
          · show IB (s.1 + x.1) _
            clear b3
            exact IB.mono (m := 11 * (12 - (x :: xs).length) + 10 + 1) inferInstance (by simp; omega)
          · show Bd (s.2.1 - (x.1 : Rat) * x.2) _
            clear b4
            exact Bd.mono (m := m + 21 * (12 - (x :: xs).length) + (10 + 10) + 1) inferInstance (by simp; omega)
        · refine ⟨by simp [E, f, enL, cb_place_with_1, c, ev_is_less q1, ev_div xz q3, ev_add (b := s.2.1 / x.2) q4, C], fun s' hs' => ?_⟩
          simp only [f, if_neg c] at hs'
          cases hs') ls (0, p, none, none, none)
      ⟨h.len, h.hi, IB.mono (m := 0) (inferInstanceAs (IB 0 0)) (by omega), hp.mono (by omega)⟩
  have e2 : ∀ (xs : List Len) (s : Int × Rat × Option D × Option D × Option D), (match foldR f s xs with
      | .inl s' => fr (s'.1 : Rat)
      | .inr d => d) = fr ((s.1 : Rat) + placeWith xs s.2.1) := fun xs => by
    induction xs with
    | nil => intro s; simp [foldR, placeWith, Rat.add_zero]
    | cons x xs ih =>
      intro s
      unfold foldR placeWith
      by_cases c : (x.1 : Rat) * x.2 < s.2.1
      · simp only [f, if_pos c]
        rw [ih]
        congr 1
        rw [Rat.intCast_add]
        grind
      · simp only [f, if_neg c]
  have e := e (ls.map enL)
  have e2 := e2 ls (0, p, none, none, none)
  simp only [E, C] at e
  simp [cf_place_with, e]
  have z0 : ((0 : Int) : Rat) = 0 := rfl
  cases q : foldR f (0, p, none, none, none) ls with
  | inl s' =>
    rw [q] at e2
    simp only [Rat.zero_add, z0] at e2
    simp [e2]
  | inr d =>
    rw [q] at e2
    simp only [Rat.zero_add, z0] at e2
    simp [e2]
@[simp] theorem ev_drag_at' [h : LsOk ls] [hp : Bd p m] (hm : m ≤ 120000000) : evF P (n + 4) (f_drag_at P) [.tup [.tup (ls.map enL), fr b], fr p] S = .ok (fr (dragAt ls p)) S := ev_drag_at hm
@[simp] theorem ev_place_with' [h : LsOk ls] [hp : Bd p m] (hm : m ≤ 120000000) : evF P (n + 4) (f_place_with P) [.tup [.tup (ls.map enL), fr b], fr p] S = .ok (fr (placeWith ls p)) S := ev_place_with hm
@[simp] theorem ev_is_place [h : LsOk ls] [hp : Bd p m] (hm : m ≤ 120000000) : evF P (n + 4) (f_is_place P) [.tup [.tup (ls.map enL), fr b], fr p] S = .ok (.bl (decide (0 ≤ p) && decide (p ≤ allSteps ls))) S := by
  rw [evF_at (p_is_place P) rfl rfl]
  have q : 14 + m ≤ 130000000 := by omega
  by_cases c : 0 ≤ p
  · by_cases c2 : ((allSteps ls : Int) : Rat) < p
    · simp [cf_is_place, c, ev_is_less q, c2, Rat.not_le.mpr c2]
    · simp [cf_is_place, c, ev_is_less q, c2, Rat.not_lt.mp c2]
  · simp [cf_is_place, c]
/-! leaks -/
abbrev Leak := Rat × Rat
def enK (x : Leak) : D := .tup [fr x.1, fr x.2]
/-- leaks of a cable; sizes of places and drags -/
class KsB (ls : List Len) (xs : List Leak) (B : outParam Nat) : Prop where
  len : xs.length ≤ 6
  cap : xs.length ≤ 2 ∨ B ≤ 2000
  hB : B ≤ 500000
  lo : ∀ x ∈ xs, 0 ≤ x.1
  hi : ∀ x ∈ xs, x.1 ≤ (allSteps ls : Int)
  pos : ∀ x ∈ xs, 0 < x.2
  s1 : ∀ x ∈ xs, Bd x.1 B
  s2 : ∀ x ∈ xs, Bd x.2 B
  up : xs.Pairwise fun x y => x.1 < y.1
abbrev KsOk (ls : List Len) (xs : List Leak) : Prop := KsB ls xs 1000
theorem map_range_get {α β : Type} (xs : List α) (g : α → β) (d : α) : (List.range xs.length).map (fun k => g (xs.getD k d)) = xs.map g := by
  refine List.ext_getElem (by simp) fun i h1 h2 => ?_
  simp at h1
  simp [List.getD_eq_getElem?_getD, h1]
@[simp] theorem ev_are_leaks [h : LsOk ls] {xs : List Leak} {B : Nat} [hK : KsB ls xs B] : evF P (n + 6) (f_are_leaks P) [.tup [.tup (ls.map enL), fr b], .tup (xs.map enK)] S = .ok (.bl true) S := by
  rw [evF_at (p_are_leaks P) rfl rfl]
  have hl := hK.len
  have hlk : ∀ x ∈ xs, ∀ S, evF P (n + 5) (f_is_leak P) [.tup [.tup (ls.map enL), fr b], enK x] S = .ok (.bl true) S := fun x hx S => by
    rw [evF_at (p_is_leak P) rfl rfl]
    have i1 := hK.s1 x hx
    have hB := hK.hB
    simp [cf_is_leak, enK, hK.lo x hx, hK.hi x hx, hK.pos x hx, ev_is_place (P := P) (p := x.1) (show B ≤ 120000000 by omega)]
  have h6 : ¬ (6 < (xs.length : Int)) := by omega
  simp [cf_are_leaks, h6]
  rw [comp_map enK (fun _ => .bl true) xs [] (by simp; omega) (fun x hx => by simp [wipeD, hlk x hx])]
  have s1 : small62 0 := ⟨by decide, by decide⟩
  have s2 : small62 ((xs.length : Int) - 1) := ⟨by omega, by omega⟩
  have hr : rngD 0 ((xs.length : Int) - 1) = (List.range ((xs.length : Int) - 1 - 0).toNat).map fun k : Nat => D.int (0 + (k : Int)) := rfl
  simp [s1, s2, hr]
  have ed := comp_map (F := evF P (n + 5)) (S := S) (elt := .call (Lib.ix P 9) (.cons (.idx (.idx (.var 1) (.var 3)) (.con (.int 0))) (.cons (.idx (.idx (.var 1) (.bin .add (.var 3) (.con (.int 1)))) (.con (.int 0))) .nil))) (tg := .nm 3) (w := (List.range ((xs.length : Int) - 1).toNat).map fun k : Nat => D.int (k : Int)) (δ := [some (.tup [.tup (ls.map enL), fr b]), some (.tup (xs.map enK)), none, none]) (own := [3])
    (fun k : Nat => D.int (k : Int)) (fun _ => D.bl true) (List.range ((xs.length : Int) - 1).toNat) [] (by simp; omega) (fun k hk => by
      have hk := List.mem_range.mp hk
      have k1 : k < xs.length := by omega
      have k2 : k + 1 < xs.length := by omega
      have g1 : L2.atI (xs.map enK) (k : Int) = some (enK xs[k]) := by rw [atI_of (by omega)]; simp [k1]
      have g2 : L2.atI (xs.map enK) ((k : Int) + 1) = some (enK xs[k + 1]) := by
        rw [atI_of (by omega), show ((k : Int) + 1).toNat = k + 1 by omega]; simp [k2]
      have o1 := hK.s1 xs[k] (List.getElem_mem k1)
      have o2 := hK.s1 xs[k + 1] (List.getElem_mem k2)
      have lt : xs[k].1 < xs[k + 1].1 := List.pairwise_iff_getElem.mp hK.up k (k + 1) k1 k2 (by omega)
      have hB := hK.hB
      simp [wipeD, g1, g2, enK, lt, ev_is_less (P := P) (a := xs[k].1) (b := xs[k + 1].1) (show B + B ≤ 130000000 by omega)])
  simp at ed
  rw [ed]
  simp
@[simp] theorem ev_check_leaks [h : LsOk ls] {xs : List Leak} {B : Nat} [hK : KsB ls xs B] : evF P (n + 7) (f_check_leaks P) [.tup [.tup (ls.map enL), fr b], .tup (xs.map enK)] S = .ok .non S := by
  rw [evF_at (p_check_leaks P) rfl rfl]
  simp [cf_check_leaks]
end
end Z

/-! X, part E: stretches, measures, days. -/
namespace Z
open PySem
abbrev Sn := Rat × Rat × Rat
abbrev Stretch := Rat × Option Sn
def enSn (s : Sn) : D := .tup [fr s.1, fr s.2.1, fr s.2.2]
def enO : Option Sn → D
  | none => .non
  | some s => enSn s
def enS (s : Stretch) : D := .tup [fr s.1, enO s.2]
def bothSeen (a b : Sn) : Sn :=
  (a.1 + a.2.2 * (a.2.1 + b.1) / (a.2.2 + b.2.2 + (a.2.1 + b.1)), b.2.1 + b.2.2 * (a.2.1 + b.1) / (a.2.2 + b.2.2 + (a.2.1 + b.1)), a.2.2 * b.2.2 / (a.2.2 + b.2.2 + (a.2.1 + b.1)))
def joinO (d e : Rat) : Option Sn → Option Sn → Option Sn
  | none, none => none
  | none, some b => some (b.1 + d, b.2.1, b.2.2)
  | some a, none => some (a.1, a.2.1 + e, a.2.2)
  | some a, some b => some (bothSeen a b)
def join (s t : Stretch) : Stretch := (s.1 + t.1, joinO s.1 t.1 s.2 t.2)
section
variable {P : Nat → Option CF} [Lib P] {n : Nat} {S : Store} {m l : Nat} {a b p d e w f g : Rat} {ls : List Len}
theorem ev_join_nn [Bd d m] [Bd e l] (h : m + l ≤ 130000000) : evF P (n + 5) (f_join P) [.tup [fr d, .non], .tup [fr e, .non]] S = .ok (.tup [fr (d + e), .non]) S := by
  rw [evF_at (p_join P) rfl rfl]
  simp [cf_join, ev_add h]
theorem ev_join_sn {k : Nat} {q : Rat} {o1 o3 : D} [Bd d m] [Bd e l] [Bd q k] (h : m + l ≤ 130000000) (h2 : k + l ≤ 130000000) : evF P (n + 5) (f_join P) [.tup [fr d, .tup [o1, fr q, o3]], .tup [fr e, .non]] S = .ok (.tup [fr (d + e), .tup [o1, fr (q + e), o3]]) S := by
  rw [evF_at (p_join P) rfl rfl]
  simp [cf_join, ev_add h, ev_add (a := q) h2]
theorem ev_join_ns {k : Nat} {q : Rat} {o2 o3 : D} [Bd d m] [Bd e l] [Bd q k] (h : m + l ≤ 130000000) (h2 : k + m ≤ 130000000) : evF P (n + 5) (f_join P) [.tup [fr d, .non], .tup [fr e, .tup [fr q, o2, o3]]] S = .ok (.tup [fr (d + e), .tup [fr (q + d), o2, o3]]) S := by
  rw [evF_at (p_join P) rfl rfl]
  simp [cf_join, ev_add h, ev_add (a := q) h2]
theorem ev_both {s t : Sn} {mw me mf lw le lf : Nat} [Bd s.1 mw] [Bd s.2.1 me] [Bd s.2.2 mf] [Bd t.1 lw] [Bd t.2.1 le] [Bd t.2.2 lf] (h : mw + le + 2 * (me + mf + lw + lf) ≤ 60000000) (hz : s.2.2 + t.2.2 + (s.2.1 + t.1) ≠ 0) :
    evF P (n + 4) (f_both_seen P) [.tup [fr s.1, fr s.2.1, fr s.2.2], .tup [fr t.1, fr t.2.1, fr t.2.2]] S = .ok (enSn (bothSeen s t)) S := by
  rw [evF_at (p_both_seen P) rfl rfl]
  have q1 : me + lw ≤ 130000000 := by omega
  have q2 : mf + lf ≤ 130000000 := by omega
  have q3 : mf + lf + 1 + (me + lw + 1) ≤ 130000000 := by omega
  have q4 : mf + (me + lw + 1) ≤ 130000000 := by omega
  have q5 : lf + (me + lw + 1) ≤ 130000000 := by omega
  have q6 : mf + (me + lw + 1) + (mf + lf + 1 + (me + lw + 1) + 1) ≤ 130000000 := by omega
  have q7 : lf + (me + lw + 1) + (mf + lf + 1 + (me + lw + 1) + 1) ≤ 130000000 := by omega
  have q8 : mf + lf + (mf + lf + 1 + (me + lw + 1) + 1) ≤ 130000000 := by omega
  have q9 : mw + (mf + (me + lw + 1) + (mf + lf + 1 + (me + lw + 1) + 1)) ≤ 130000000 := by omega
  have q10 : le + (lf + (me + lw + 1) + (mf + lf + 1 + (me + lw + 1) + 1)) ≤ 130000000 := by omega
  simp [cf_both_seen, bothSeen, enSn, q1, q2, q3, q4, q5, q6, q7, q8, q9, q10, hz]
theorem ev_join_ss {s t : Sn} {mw me mf lw le lf : Nat} [Bd d m] [Bd e l] [Bd s.1 mw] [Bd s.2.1 me] [Bd s.2.2 mf] [Bd t.1 lw] [Bd t.2.1 le] [Bd t.2.2 lf] (h0 : m + l ≤ 130000000) (h : mw + le + 2 * (me + mf + lw + lf) ≤ 60000000) (hz : s.2.2 + t.2.2 + (s.2.1 + t.1) ≠ 0) :
    evF P (n + 5) (f_join P) [.tup [fr d, .tup [fr s.1, fr s.2.1, fr s.2.2]], .tup [fr e, .tup [fr t.1, fr t.2.1, fr t.2.2]]] S = .ok (.tup [fr (d + e), enSn (bothSeen s t)]) S := by
  rw [evF_at (p_join P) rfl rfl]
  simp [cf_join, ev_add h0, ev_both (P := P) h hz]
/-- a stretch, its sizes: drag, west, the others -/
structure SB (s : Stretch) (md mw m : Nat) : Prop where
  d : Bd s.1 md
  seen : ∀ q, s.2 = some q → Bd q.1 mw ∧ Bd q.2.1 m ∧ Bd q.2.2 m ∧ 0 ≤ q.1 ∧ 0 ≤ q.2.1 ∧ 0 < q.2.2
  nn : 0 ≤ s.1
theorem SB.mono {s : Stretch} {md mw m md' mw' m' : Nat} (h : SB s md mw m) (h1 : md ≤ md') (h2 : mw ≤ mw') (h3 : m ≤ m') : SB s md' mw' m' :=
  ⟨h.d.mono h1, fun q hq => let ⟨a, b, c, r⟩ := h.seen q hq; ⟨a.mono h2, b.mono h3, c.mono h3, r⟩, h.nn⟩
/-- what is seen, over one bottom: the numbers grow on by the bits that come in -/
structure IForm (q : Sn) (N : Nat) : Prop where
  ex : ∃ a b e c g : Int, 0 < c ∧ q.1 = (a : Rat) / (c : Rat) ∧ q.2.1 = (b : Rat) / (c : Rat) ∧ q.2.2 = (e : Rat) / (c : Rat) ∧ a * b + a * e + b * e = c * g ∧ a.natAbs ≤ 2 ^ N ∧ b.natAbs ≤ 2 ^ N ∧ e.natAbs ≤ 2 ^ N ∧ c.natAbs ≤ 2 ^ N ∧ g.natAbs ≤ 2 ^ N
theorem IForm.bd {q : Sn} {N : Nat} (h : IForm q N) : Bd q.1 N ∧ Bd q.2.1 N ∧ Bd q.2.2 N := by
  obtain ⟨a, b, e, c, g, hc, h1, h2, h3, _, b1, b2, b3, b4, _⟩ := h.ex
  rw [h1, h2, h3]
  exact ⟨bd_div b1 b4, bd_div b2 b4, bd_div b3 b4⟩
theorem div_nonneg {a b : Rat} (h1 : 0 ≤ a) (h2 : 0 < b) : 0 ≤ a / b := by
  rw [Rat.div_def]
  exact Rat.mul_nonneg h1 (Rat.le_of_lt (Rat.inv_pos.mpr h2))
theorem div_pos {a b : Rat} (h1 : 0 < a) (h2 : 0 < b) : 0 < a / b := by
  rw [Rat.div_def]
  exact Rat.mul_pos h1 (Rat.inv_pos.mpr h2)
theorem ib_of {i : Int} {m : Nat} (h : i.natAbs ≤ 2 ^ m) : IB i m := ⟨h⟩
theorem IForm.mono {q : Sn} {N M : Nat} (h : IForm q N) (hl : N ≤ M) : IForm q M := by
  obtain ⟨a, b, e, c, g, h0, h1, h2, h3, h4, b1, b2, b3, b4, b5⟩ := h.ex
  have p := pow_le hl
  exact ⟨a, b, e, c, g, h0, h1, h2, h3, h4, by omega, by omega, by omega, by omega, by omega⟩
theorem cast_ne {c : Int} (h : 0 < c) : (c : Rat) ≠ 0 := by
  have : c ≠ 0 := by omega
  simpa using this
theorem IForm.wire {q : Sn} {N c : Nat} (h : IForm q N) [hb : Bd e c] : IForm (q.1, q.2.1 + e, q.2.2) (N + c + 2) := by
  obtain ⟨a, b, f, d, g, h0, h1, h2, h3, h4, b1, b2, b3, b4, b5⟩ := h.ex
  have i1 := ib_of b1
  have i2 := ib_of b2
  have i3 := ib_of b3
  have i4 := ib_of b4
  have i5 := ib_of b5
  have dz := cast_ne h0
  have ez := den_ne e
  have ee := rat_eq e
  have ep := den_pos e
  refine ⟨a * e.den, b * e.den + e.num * d, f * e.den, d * e.den, e.den * g + e.num * (a + f), Int.mul_pos h0 ep, ?_, ?_, ?_, ?_, ?_, ?_, ?_, ?_, ?_⟩
  · show q.1 = _
    rw [h1, Rat.intCast_mul, Rat.intCast_mul]
    generalize ((e.den : Int) : Rat) = v at *
    grind
  · show q.2.1 + e = _
    rw [h2, Rat.intCast_mul, Rat.intCast_add, Rat.intCast_mul, Rat.intCast_mul]
    generalize (e.num : Rat) = n at *
    generalize ((e.den : Int) : Rat) = v at *
    rw [ee]
    grind
  · show q.2.2 = _
    rw [h3, Rat.intCast_mul, Rat.intCast_mul]
    generalize ((e.den : Int) : Rat) = v at *
    grind
  · generalize (e.den : Int) = v at *
    generalize e.num = n at *
    grind
  · exact (IB.mono (m := N + c) inferInstance (by omega) : IB (a * e.den) _).n
  · exact (IB.mono (i := b * e.den + e.num * d) (m := N + c + 1) ⟨by
      have x1 : (b * e.den).natAbs ≤ 2 ^ (N + c) := IB.n
      have x2 : (e.num * d).natAbs ≤ 2 ^ (N + c) := by rw [Nat.add_comm]; exact IB.n
      rw [Nat.pow_succ]; omega⟩ (by omega)).n
  · exact (IB.mono (m := N + c) inferInstance (by omega) : IB (f * e.den) _).n
  · exact (IB.mono (m := N + c) inferInstance (by omega) : IB (d * e.den) _).n
  · have x1 : (e.den * g : Int).natAbs ≤ 2 ^ (N + c) := by rw [Nat.add_comm]; exact IB.n
    have x2 : (e.num * a).natAbs ≤ 2 ^ (N + c) := by rw [Nat.add_comm]; exact IB.n
    have x3 : (e.num * f).natAbs ≤ 2 ^ (N + c) := by rw [Nat.add_comm]; exact IB.n
    rw [Int.mul_add, Nat.pow_succ, Nat.pow_succ]
    omega
theorem ddiv (x : Rat) {R s : Rat} (hR : R ≠ 0) (hs : s ≠ 0) : x / (R / s) = x * s / R := by
  obtain ⟨y, hy⟩ : ∃ y, y = R / s := ⟨_, rfl⟩
  have e : R = y * s := by rw [hy]; grind
  have y0 : y ≠ 0 := fun z => hR (by rw [e, z]; grind)
  rw [← hy, e]
  grind
theorem IForm.leak {q : Sn} {N c : Nat} (h : IForm q N) [hb : Bd g c] (hg : 0 < g) (hp : 0 ≤ q.2.1 ∧ 0 < q.2.2) : IForm (bothSeen q (0, 0, g)) (N + c + 2) := by
  obtain ⟨a, b, f, d, k, h0, h1, h2, h3, h4, b1, b2, b3, b4, b5⟩ := h.ex
  have i1 := ib_of b1
  have i2 := ib_of b2
  have i3 := ib_of b3
  have i4 := ib_of b4
  have i5 := ib_of b5
  have dz := cast_ne h0
  have gz := den_ne g
  have ge := rat_eq g
  have gp := den_pos g
  have gn := num_pos.mpr hg
  have dr : (0 : Rat) < (d : Rat) := by
    have := Rat.intCast_lt_intCast.mpr h0
    simpa using this
  have b0 : 0 ≤ b := by
    have : (0 : Rat) ≤ (b : Rat) := by
      have e : (b : Rat) = q.2.1 * d := by rw [h2]; grind
      rw [e]
      exact Rat.mul_nonneg hp.1 (Rat.le_of_lt dr)
    have := Rat.intCast_le_intCast.mp (show ((0 : Int) : Rat) ≤ (b : Rat) by simpa using this)
    exact this
  have f0 : 0 ≤ f := by
    have : (0 : Rat) ≤ (f : Rat) := by
      have e : (f : Rat) = q.2.2 * d := by rw [h3]; grind
      rw [e]
      exact Rat.mul_nonneg (Rat.le_of_lt hp.2) (Rat.le_of_lt dr)
    have := Rat.intCast_le_intCast.mp (show ((0 : Int) : Rat) ≤ (f : Rat) by simpa using this)
    exact this
  have Rp : 0 < (g.den : Int) * (f + b) + g.num * d := by
    have := Int.mul_nonneg (Int.le_of_lt gp) (show 0 ≤ f + b by omega)
    have := Int.mul_pos gn h0
    omega
  have Rz := cast_ne Rp
  rw [Rat.intCast_add, Rat.intCast_mul, Rat.intCast_mul, Rat.intCast_add] at Rz
  have e4 : (a : Rat) * b + a * f + b * f = d * k := by
    have := congrArg (fun z : Int => (z : Rat)) h4
    simpa [Rat.intCast_add, Rat.intCast_mul] using this
  refine ⟨g.den * k + g.num * a, g.num * b, g.num * f, g.den * (f + b) + g.num * d, g.num * k, Rp, ?_, ?_, ?_, ?_, ?_, ?_, ?_, ?_, ?_⟩
  · show q.1 + q.2.2 * (q.2.1 + 0) / (q.2.2 + g + (q.2.1 + 0)) = _
    rw [h1, h2, h3, Rat.intCast_add, Rat.intCast_mul, Rat.intCast_mul, Rat.intCast_add, Rat.intCast_mul, Rat.intCast_mul, Rat.intCast_add]
    generalize (g.num : Rat) = u at *
    generalize ((g.den : Int) : Rat) = v at *
    subst ge
    generalize (a : Rat) = A at *
    generalize (b : Rat) = B at *
    generalize (f : Rat) = F at *
    generalize (d : Rat) = C at *
    generalize (k : Rat) = G at *
    have z : F / C + u / v + (B / C + 0) = (v * (F + B) + u * C) / (C * v) := by grind
    have z3 : A * (v * (F + B) + u * C) + F * B * v = C * (v * G + u * A) := by grind
    have zc : C * v ≠ 0 := fun e => by rcases Rat.mul_eq_zero.mp e with h | h <;> contradiction
    rw [z, ddiv _ Rz zc]
    generalize v * (F + B) + u * C = R at *
    grind
  · show 0 + g * (q.2.1 + 0) / (q.2.2 + g + (q.2.1 + 0)) = _
    rw [h2, h3, Rat.intCast_add, Rat.intCast_mul, Rat.intCast_mul, Rat.intCast_add, Rat.intCast_mul]
    generalize (g.num : Rat) = u at *
    generalize ((g.den : Int) : Rat) = v at *
    subst ge
    generalize (b : Rat) = B at *
    generalize (f : Rat) = F at *
    generalize (d : Rat) = C at *
    have z : F / C + u / v + (B / C + 0) = (v * (F + B) + u * C) / (C * v) := by grind
    have zc : C * v ≠ 0 := fun e => by rcases Rat.mul_eq_zero.mp e with h | h <;> contradiction
    rw [z, ddiv _ Rz zc]
    generalize v * (F + B) + u * C = R at *
    grind
  · show q.2.2 * g / (q.2.2 + g + (q.2.1 + 0)) = _
    rw [h2, h3, Rat.intCast_add, Rat.intCast_mul, Rat.intCast_mul, Rat.intCast_add, Rat.intCast_mul]
    generalize (g.num : Rat) = u at *
    generalize ((g.den : Int) : Rat) = v at *
    subst ge
    generalize (b : Rat) = B at *
    generalize (f : Rat) = F at *
    generalize (d : Rat) = C at *
    have z : F / C + u / v + (B / C + 0) = (v * (F + B) + u * C) / (C * v) := by grind
    have zc : C * v ≠ 0 := fun e => by rcases Rat.mul_eq_zero.mp e with h | h <;> contradiction
    rw [z, ddiv _ Rz zc]
    generalize v * (F + B) + u * C = R at *
    grind
  · generalize (g.den : Int) = v at *
    generalize g.num = u at *
    have t1 : (v * k + u * a) * (u * b) + (v * k + u * a) * (u * f) + u * b * (u * f) = u * (v * k * (b + f)) + u * u * (a * b + a * f + b * f) := by grind
    rw [t1, h4]
    grind
  · have x1 : (g.den * k : Int).natAbs ≤ 2 ^ (N + c) := by rw [Nat.add_comm]; exact IB.n
    have x2 : (g.num * a).natAbs ≤ 2 ^ (N + c) := by rw [Nat.add_comm]; exact IB.n
    rw [Nat.pow_succ, Nat.pow_succ]; omega
  · exact (IB.mono (m := c + N) inferInstance (by omega) : IB (g.num * b) _).n
  · exact (IB.mono (m := c + N) inferInstance (by omega) : IB (g.num * f) _).n
  · have x1 : (g.den * f : Int).natAbs ≤ 2 ^ (N + c) := by rw [Nat.add_comm]; exact IB.n
    have x2 : (g.den * b : Int).natAbs ≤ 2 ^ (N + c) := by rw [Nat.add_comm]; exact IB.n
    have x3 : (g.num * d).natAbs ≤ 2 ^ (N + c) := by rw [Nat.add_comm]; exact IB.n
    rw [Int.mul_add, Nat.pow_succ, Nat.pow_succ]; omega
  · exact (IB.mono (m := c + N) inferInstance (by omega) : IB (g.num * k) _).n
theorem IForm.first {c : Nat} [hd : Bd d m] [hb : Bd g c] : IForm (0 + d, 0, g) (m + c) := by
  have dz := den_ne d
  have gz := den_ne g
  have de := rat_eq d
  have ge := rat_eq g
  refine ⟨d.num * g.den, 0, g.num * d.den, d.den * g.den, d.num * g.num, Int.mul_pos (den_pos d) (den_pos g), ?_, ?_, ?_, by grind, ?_, by simp, ?_, ?_, ?_⟩
  · show 0 + d = _
    rw [Rat.intCast_mul, Rat.intCast_mul]
    generalize (d.num : Rat) = n at *
    generalize ((d.den : Int) : Rat) = v at *
    generalize ((g.den : Int) : Rat) = w at *
    grind
  · show (0 : Rat) = ((0 : Int) : Rat) / _
    simp [Rat.div_def]
  · show g = _
    rw [Rat.intCast_mul, Rat.intCast_mul]
    generalize (g.num : Rat) = n at *
    generalize ((d.den : Int) : Rat) = v at *
    generalize ((g.den : Int) : Rat) = w at *
    grind
  · exact (inferInstance : IB (d.num * g.den) (m + c)).n
  · exact (IB.mono (m := c + m) inferInstance (by omega) : IB (g.num * d.den) (m + c)).n
  · exact (inferInstance : IB ((d.den : Int) * g.den) (m + c)).n
  · exact (inferInstance : IB (d.num * g.num) (m + c)).n
/-- a stretch in the making: its drag, what is seen over one bottom -/
structure ST (s : Stretch) (md N : Nat) : Prop where
  d : Bd s.1 md
  nn : 0 ≤ s.1
  seen : ∀ q, s.2 = some q → IForm q N ∧ 0 ≤ q.1 ∧ 0 ≤ q.2.1 ∧ 0 < q.2.2
theorem ev_join_wire {s : Stretch} {md N c : Nat} (h : ST s md N) [Bd e c] (he : 0 ≤ e) (h1 : md + c ≤ 130000000) (h2 : N + c ≤ 130000000) :
    (∀ n S, evF P (n + 5) (f_join P) [enS s, .tup [fr e, .non]] S = .ok (enS (join s (e, none))) S) ∧ ST (join s (e, none)) (md + c + 1) (N + c + 2) := by
  obtain ⟨d, o⟩ := s
  have i1 : Bd d md := h.d
  have nn : 0 ≤ d := h.nn
  cases o with
  | none =>
    refine ⟨fun n S => ev_join_nn (P := P) (d := d) h1, (inferInstance : Bd (d + e) _), ?_, fun q hq => ?_⟩
    · show 0 ≤ d + e
      grind
    · cases hq
  | some q =>
    obtain ⟨fq, p1, p2, p3⟩ := h.seen q rfl
    obtain ⟨i2, i3, i4⟩ := fq.bd
    refine ⟨fun n S => ev_join_sn (P := P) (d := d) (q := q.2.1) h1 h2, (inferInstance : Bd (d + e) _), ?_, fun q' hq => ?_⟩
    · show 0 ≤ d + e
      grind
    · cases hq
      exact ⟨fq.wire, p1, by show 0 ≤ q.2.1 + e; grind, p3⟩
theorem ev_join_leak {s : Stretch} {md N c : Nat} (h : ST s md N) [Bd g c] (hg : 0 < g) (h1 : md ≤ 120000000) (h2 : 5 * N + 2 * c ≤ 60000000) (h3 : md ≤ N) :
    (∀ n S, evF P (n + 5) (f_join P) [enS s, .tup [fr 0, .tup [fr 0, fr 0, fr g]]] S = .ok (enS (join s (0, some (0, 0, g)))) S) ∧ ST (join s (0, some (0, 0, g))) (md + 1) (N + c + 2) := by
  obtain ⟨d, o⟩ := s
  have i1 : Bd d md := h.d
  have nn : 0 ≤ d := h.nn
  cases o with
  | none =>
    have q1 : md + 0 ≤ 130000000 := by omega
    have q2 : 0 + md ≤ 130000000 := by omega
    refine ⟨fun n S => ev_join_ns (P := P) (d := d) (e := 0) (q := 0) q1 q2, ?_, ?_, fun q hq => ?_⟩
    · show Bd (d + 0) _
      exact Bd.mono (m := md + 0 + 1) inferInstance (by omega)
    · show 0 ≤ d + 0
      grind
    · cases hq
      exact ⟨IForm.first.mono (by omega), by show 0 ≤ 0 + d; grind, Rat.le_refl, hg⟩
  | some q =>
    obtain ⟨fq, p1, p2, p3⟩ := h.seen q rfl
    obtain ⟨i2, i3, i4⟩ := fq.bd
    have q1 : md + 0 ≤ 130000000 := by omega
    have q2 : N + 0 + 2 * (N + N + 0 + c) ≤ 60000000 := by omega
    have rp : 0 < q.2.2 + g + (q.2.1 + 0) := by grind
    have rz : q.2.2 + g + (q.2.1 + 0) ≠ 0 := fun e => by rw [e] at rp; exact absurd rp Rat.lt_irrefl
    refine ⟨fun n S => ?_, ?_, ?_, fun q' hq => ?_⟩
    · have e := ev_join_ss (P := P) (n := n) (S := S) (d := d) (e := 0) (s := q) (t := (0, 0, g)) q1 q2 rz
      simp only [enS, enO, enSn, join, joinO] at e ⊢
      exact e
    · show Bd (d + 0) _
      exact Bd.mono (m := md + 0 + 1) inferInstance (by omega)
    · show 0 ≤ d + 0
      grind
    · cases hq
      refine ⟨fq.leak hg ⟨p2, p3⟩, ?_, ?_, ?_⟩
      · show 0 ≤ q.1 + q.2.2 * (q.2.1 + 0) / (q.2.2 + g + (q.2.1 + 0))
        have := div_nonneg (Rat.mul_nonneg (Rat.le_of_lt p3) (show 0 ≤ q.2.1 + 0 by grind)) rp
        grind
      · show 0 ≤ 0 + g * (q.2.1 + 0) / (q.2.2 + g + (q.2.1 + 0))
        have := div_nonneg (Rat.mul_nonneg (Rat.le_of_lt hg) (show 0 ≤ q.2.1 + 0 by grind)) rp
        grind
      · exact div_pos (Rat.mul_pos p3 hg) rp
/-! drags by places: order -/
theorem dragAt_nonneg : ∀ {ls : List Len} {p : Rat}, (∀ x ∈ ls, LenOk x) → 0 ≤ p → 0 ≤ dragAt ls p
  | [], p, _, _ => by simp [dragAt]
  | x :: ls, p, h, hp => by
    have hx := h x List.mem_cons_self
    have h0 := hx.pos
    unfold dragAt
    split
    · rename_i c
      have ih := dragAt_nonneg (ls := ls) (p := p - x.1) (fun y hy => h y (List.mem_cons_of_mem _ hy)) (by grind)
      have h1 : (0 : Rat) ≤ (x.1 : Rat) := by
        have := Rat.intCast_le_intCast.mpr (show (0 : Int) ≤ x.1 by have := hx.lo; omega)
        simpa using this
      have := Rat.mul_nonneg h1 (Rat.le_of_lt h0)
      grind
    · exact Rat.mul_nonneg hp (Rat.le_of_lt h0)
theorem lenPos {x : Len} (h : LenOk x) : (0 : Rat) < (x.1 : Rat) := by
  have := Rat.intCast_lt_intCast.mpr (show (0 : Int) < x.1 by have := h.lo; omega)
  simpa using this
theorem allSteps_cons {x : Len} {ls : List Len} : ((allSteps (x :: ls) : Int) : Rat) = (x.1 : Rat) + ((allSteps ls : Int) : Rat) := by simp [allSteps, Rat.intCast_add]
theorem allDrag_cons {x : Len} {ls : List Len} : allDrag (x :: ls) = (x.1 : Rat) * x.2 + allDrag ls := by simp [allDrag]
theorem dragAt_mono : ∀ {ls : List Len} {p q : Rat}, (∀ x ∈ ls, LenOk x) → 0 ≤ p → p < q → q ≤ (allSteps ls : Int) → dragAt ls p < dragAt ls q
  | [], p, q, _, h0, h1, h2 => by
    have : ((allSteps [] : Int) : Rat) = 0 := rfl
    rw [this] at h2
    grind
  | x :: ls, p, q, h, h0, h1, h2 => by
    have hx := h x List.mem_cons_self
    have hr := fun y hy => h y (List.mem_cons_of_mem _ hy)
    have xp := hx.pos
    rw [allSteps_cons] at h2
    unfold dragAt
    by_cases c : (x.1 : Rat) < p
    · rw [if_pos c, if_pos (by grind)]
      have := dragAt_mono (ls := ls) (p := p - x.1) (q := q - x.1) hr (by grind) (by grind) (by grind)
      grind
    · rw [if_neg c]
      by_cases c2 : (x.1 : Rat) < q
      · rw [if_pos c2]
        have n := dragAt_mono (ls := ls) (p := 0) (q := q - x.1) hr (by grind) (by grind) (by grind)
        have n0 := dragAt_nonneg (ls := ls) (p := 0) hr (by grind)
        have := Rat.mul_le_mul_of_nonneg_right (show p ≤ (x.1 : Rat) by grind) (Rat.le_of_lt xp)
        grind
      · rw [if_neg c2]
        exact Rat.mul_lt_mul_of_pos_right h1 xp
theorem dragAt_le {ls : List Len} {p q : Rat} (h : ∀ x ∈ ls, LenOk x) (h0 : 0 ≤ p) (h1 : p ≤ q) (h2 : q ≤ (allSteps ls : Int)) : dragAt ls p ≤ dragAt ls q := by
  by_cases e : p = q
  · subst e; exact Rat.le_refl
  · exact Rat.le_of_lt (dragAt_mono h h0 (by grind) h2)
theorem dragAt_zero : ∀ {ls : List Len}, (∀ x ∈ ls, LenOk x) → dragAt ls 0 = 0
  | [], _ => rfl
  | x :: ls, h => by
    have := lenPos (h x List.mem_cons_self)
    unfold dragAt
    rw [if_neg (by grind), Rat.zero_mul]
theorem dragAt_end : ∀ {ls : List Len}, (∀ x ∈ ls, LenOk x) → dragAt ls (allSteps ls : Int) = allDrag ls
  | [], _ => rfl
  | x :: ls, h => by
    have hx := lenPos (h x List.mem_cons_self)
    have hr := fun y hy => h y (List.mem_cons_of_mem _ hy)
    have ih := dragAt_end hr
    have sp := steps_pos hr
    have s0 : (0 : Rat) ≤ ((allSteps ls : Int) : Rat) := by
      have := Rat.intCast_le_intCast.mpr sp.1
      simpa using this
    unfold dragAt
    rw [allSteps_cons, allDrag_cons]
    by_cases c : (x.1 : Rat) < (x.1 : Rat) + ((allSteps ls : Int) : Rat)
    · rw [if_pos c]
      have e : (x.1 : Rat) + ((allSteps ls : Int) : Rat) - (x.1 : Rat) = ((allSteps ls : Int) : Rat) := by grind
      rw [e, ih]
    · rw [if_neg c]
      have e : ((allSteps ls : Int) : Rat) = 0 := by grind
      rw [e] at ih ⊢
      rw [dragAt_zero hr] at ih
      rw [← ih]
      grind
theorem dragAt_hi {ls : List Len} {p : Rat} (h : ∀ x ∈ ls, LenOk x) (h0 : 0 ≤ p) (h1 : p ≤ (allSteps ls : Int)) : dragAt ls p ≤ allDrag ls := by
  rw [← dragAt_end h]
  exact dragAt_le h h0 h1 Rat.le_refl
end
end Z

/-! X, part F: the stretch of leaks; readings, days. -/
namespace Z
open PySem
def stStep (ls : List Len) (t : Stretch × Rat) (x : Leak) : Stretch × Rat := (join (join t.1 (dragAt ls x.1 - t.2, none)) (0, some (0, 0, x.2)), dragAt ls x.1)
def stretchBy (ls : List Len) (xs : List Leak) : Stretch := join (xs.foldl (stStep ls) ((0, none), 0)).1 (allDrag ls - (xs.foldl (stStep ls) ((0, none), 0)).2, none)
def nB (B : Nat) : Nat := 8 * (3 * B + 1500)
def nK (B : Nat) : Nat → Nat
  | 0 => 3 * B + 1500
  | k + 1 => nK B k + (3 * B + 1500)
theorem nK_mono {B j k : Nat} (h : j ≤ k) : nK B j ≤ nK B k := by
  induction k with
  | zero => have : j = 0 := by omega
            subst this; exact Nat.le_refl _
  | succ k ih =>
    by_cases e : j = k + 1
    · subst e; exact Nat.le_refl _
    · have := ih (by omega)
      have e : nK B (k + 1) = nK B k + (3 * B + 1500) := rfl
      omega
theorem nK5 (B : Nat) : nK B 5 = 18 * B + 9000 := by
  show 3 * B + 1500 + (3 * B + 1500) + (3 * B + 1500) + (3 * B + 1500) + (3 * B + 1500) + (3 * B + 1500) = _
  omega
theorem nK6 (B : Nat) : nK B 6 = 21 * B + 10500 := by
  have := nK5 B
  have e : nK B 6 = nK B 5 + (3 * B + 1500) := rfl
  omega
/-- so many leaks are joined, these are ahead -/
structure StI (ls : List Len) (B k : Nat) (xs : List Leak) (t : Stretch × Rat) : Prop where
  len : k + xs.length ≤ 6
  hB : B ≤ 500000
  lo : ∀ x ∈ xs, 0 ≤ x.1
  hi : ∀ x ∈ xs, x.1 ≤ (allSteps ls : Int)
  pos : ∀ x ∈ xs, 0 < x.2
  s1 : ∀ x ∈ xs, Bd x.1 B
  s2 : ∀ x ∈ xs, Bd x.2 B
  up : xs.Pairwise fun x y => x.1 < y.1
  h0 : 0 ≤ t.2
  hm : ∀ x ∈ xs, t.2 ≤ dragAt ls x.1
  he : t.2 ≤ allDrag ls
  hb : Bd t.2 (B + 480)
  eq : t.1.1 = t.2
  st : ∀ q, t.1.2 = some q → IForm q (nK B k) ∧ 0 ≤ q.1 ∧ 0 ≤ q.2.1 ∧ 0 < q.2.2
section
variable {P : Nat → Option CF} [Lib P] {n : Nat} {S : Store} {m l B k : Nat} {a b p d e w f g : Rat} {ls : List Len} {xs : List Leak}
theorem StI.ST {t : Stretch × Rat} (I : StI ls B k xs t) : ST t.1 (B + 480) (nK B k) := ⟨by rw [I.eq]; exact I.hb, by rw [I.eq]; exact I.h0, I.st⟩
theorem StI.step [h : LsOk ls] {x : Leak} {t : Stretch × Rat} (I : StI ls B k (x :: xs) t) :
    (∀ n S, evF P (n + 5) (f_join P) [enS t.1, .tup [fr (dragAt ls x.1 - t.2), .non]] S = .ok (enS (join t.1 (dragAt ls x.1 - t.2, none))) S) ∧
    (∀ n S, evF P (n + 5) (f_join P) [enS (join t.1 (dragAt ls x.1 - t.2, none)), .tup [fr 0, .tup [fr 0, fr 0, fr x.2]]] S = .ok (enS (stStep ls t x).1) S) ∧ StI ls B (k + 1) xs (stStep ls t x) := by
  have hl := I.len
  simp at hl
  have hB := I.hB
  have i1 : Bd x.1 B := I.s1 x List.mem_cons_self
  have i2 : Bd x.2 B := I.s2 x List.mem_cons_self
  have i3 := I.hb
  have hN := nK_mono (B := B) (show k ≤ 5 by omega)
  have hN2 := nK_mono (B := B) (show 0 ≤ k by omega)
  have hN0 : nK B 0 = 3 * B + 1500 := rfl
  have hN3 : nK B (k + 1) = nK B k + (3 * B + 1500) := rfl
  rw [nK5] at hN
  rw [hN0] at hN2
  have st := I.ST
  obtain ⟨a1, a2⟩ := ev_join_wire (P := P) (e := dragAt ls x.1 - t.2) (c := B + 480 + (B + 480) + 1) st (by have := I.hm x List.mem_cons_self; grind) (by omega) (by omega)
  obtain ⟨b1, b2⟩ := ev_join_leak (P := P) (g := x.2) (c := B) a2 (I.pos x List.mem_cons_self) (by omega) (by omega) (by omega)
  have hlo := I.lo x List.mem_cons_self
  have hhi := I.hi x List.mem_cons_self
  have up := List.pairwise_cons.mp I.up
  refine ⟨a1, b1, by omega, hB, fun y hy => I.lo y (List.mem_cons_of_mem _ hy), fun y hy => I.hi y (List.mem_cons_of_mem _ hy), fun y hy => I.pos y (List.mem_cons_of_mem _ hy), fun y hy => I.s1 y (List.mem_cons_of_mem _ hy), fun y hy => I.s2 y (List.mem_cons_of_mem _ hy), up.2, ?_, fun y hy => ?_, ?_, ?_, ?_, fun q hq => ?_⟩
  · exact dragAt_nonneg h.len hlo
  · exact dragAt_le h.len hlo (Rat.le_of_lt (up.1 y hy)) (I.hi y (List.mem_cons_of_mem _ hy))
  · exact dragAt_hi h.len hlo hhi
  · show Bd (dragAt ls x.1) (B + 480)
    infer_instance
  · show t.1.1 + (dragAt ls x.1 - t.2) + 0 = dragAt ls x.1
    rw [I.eq]
    grind
  · obtain ⟨f1, f2⟩ := b2.seen q hq
    exact ⟨f1.mono (by omega), f2⟩
theorem dr_nn [h : LsOk ls] : 0 ≤ allDrag ls := by
  have sp := steps_pos h.len
  have s0 : (0 : Rat) ≤ ((allSteps ls : Int) : Rat) := by
    have := Rat.intCast_le_intCast.mpr sp.1
    simpa using this
  rw [← dragAt_end h.len]
  exact dragAt_nonneg h.len s0
theorem st_init [hK : KsB ls xs B] [h : LsOk ls] : StI ls B 0 xs ((0, none), 0) :=
  ⟨by have := hK.len; omega, hK.hB, hK.lo, hK.hi, hK.pos, hK.s1, hK.s2, hK.up, Rat.le_refl, fun x hx => dragAt_nonneg h.len (hK.lo x hx), dr_nn, Bd.mono (m := 0) inferInstance (by omega), rfl, fun q hq => by cases hq⟩
theorem st_fold (P : Nat → Option CF) [Lib P] [h : LsOk ls] : ∀ (xs : List Leak) (k : Nat) (t : Stretch × Rat), StI ls B k xs t → ∃ j, StI ls B j [] (xs.foldl (stStep ls) t)
  | [], k, t, I => ⟨k, I⟩
  | x :: xs, k, t, I => st_fold P xs (k + 1) _ (I.step (P := P)).2.2
theorem st_last [h : LsOk ls] {t : Stretch × Rat} (I : StI ls B k [] t) :
    (∀ n S, evF P (n + 5) (f_join P) [enS t.1, .tup [fr (allDrag ls - t.2), .non]] S = .ok (enS (join t.1 (allDrag ls - t.2, none))) S) ∧ SB (join t.1 (allDrag ls - t.2, none)) 300 (nB B) (nB B) := by
  have i3 := I.hb
  have hl := I.len
  simp at hl
  have hB := I.hB
  have hN := nK_mono (B := B) (show k ≤ 6 by omega)
  rw [nK6] at hN
  have st := I.ST
  generalize nK B k = N at *
  obtain ⟨a1, a2⟩ := ev_join_wire (P := P) (e := allDrag ls - t.2) (c := 252 + (B + 480) + 1) st (by have := I.he; grind) (by omega) (by omega)
  refine ⟨a1, ?_, fun q hq => ?_, a2.nn⟩
  · have : (join t.1 (allDrag ls - t.2, none)).1 = allDrag ls := by
      show t.1.1 + (allDrag ls - t.2) = allDrag ls
      rw [I.eq]
      grind
    rw [this]
    exact Bd.mono (m := 252) inferInstance (by omega)
  · obtain ⟨f1, f2⟩ := a2.seen q hq
    obtain ⟨g1, g2, g3⟩ := f1.bd
    have : N + (252 + (B + 480) + 1) + 2 ≤ nB B := by unfold nB; omega
    exact ⟨g1.mono this, g2.mono this, g3.mono this, f2⟩
theorem sb_stretch (P : Nat → Option CF) [Lib P] [h : LsOk ls] [hK : KsB ls xs B] : SB (stretchBy ls xs) 300 (nB B) (nB B) := by
  obtain ⟨j, I⟩ := st_fold P xs 0 _ (st_init (ls := ls) (xs := xs))
  exact (st_last (P := P) I).2
@[simp] theorem ev_stretch_by [h : LsOk ls] [hK : KsB ls xs B] : evF P (n + 6) (f_stretch_by P) [.tup [.tup (ls.map enL), fr b], .tup (xs.map enK)] S = .ok (enS (stretchBy ls xs)) S := by
  rw [evF_at (p_stretch_by P) rfl rfl]
  let E : (Stretch × Rat) × Option D × Option D × Option D → Env := fun s => [some (.tup [.tup (ls.map enL), fr b]), some (.tup (xs.map enK)), some (enS s.1.1), some (fr s.1.2), s.2.1, s.2.2.1, s.2.2.2]
  let f : (Stretch × Rat) × Option D × Option D × Option D → Leak → (Stretch × Rat) × Option D × Option D × Option D := fun s x => (stStep ls s.1 x, some (fr x.1), some (fr x.2), some (fr (dragAt ls x.1)))
  have e := for_fold (body := run (evF P (n + 5)) (cb_stretch_by_1 (Lib.ix P))) (tg := .tp (.cons (.nm 4) (.cons (.nm 5) .nil))) (S := S) (ws := xs.map enK) enK E f (fun xs s => ∃ k, StI ls B k xs s.1)
    (fun x ys s ⟨k, I⟩ => by
      obtain ⟨a1, a2, a3⟩ := I.step (P := P)
      refine ⟨?_, k + 1, a3⟩
      have i1 : Bd x.1 B := I.s1 x List.mem_cons_self
      have i3 := I.hb
      have hB := I.hB
      have e1 := fun S => a1 n S
      have e2 := fun S => a2 n S
      have e2' : ∀ S, evF P (n + 5) (f_join P) [enS (join s.1.1 (dragAt ls x.1 - s.1.2, none)), .tup [fr 0, .tup [fr 0, fr 0, fr x.2]]] S = .ok (enS (join (join s.1.1 (dragAt ls x.1 - s.1.2, none)) (0, some (0, 0, x.2)))) S := e2
      simp [E, f, enK, cb_stretch_by_1, e1, e2', stStep, ev_drag_at (P := P) (ls := ls) (p := x.1) (show B ≤ 120000000 by omega), ev_less (P := P) (a := dragAt ls x.1) (b := s.1.2) (show B + 480 + (B + 480) ≤ 130000000 by omega)]) xs (((0, none), 0), none, none, none) ⟨0, st_init⟩
  have key : ∀ (ys : List Leak) (s : (Stretch × Rat) × Option D × Option D × Option D), (ys.foldl f s).1 = ys.foldl (stStep ls) s.1 := fun ys => by
    induction ys with
    | nil => intro s; rfl
    | cons y ys ih => intro s; rw [List.foldl_cons, ih]; rfl
  obtain ⟨j, I⟩ := st_fold P xs 0 _ (st_init (ls := ls) (xs := xs))
  have hl := st_last (P := P) I
  have k := key xs (((0, none), 0), none, none, none)
  have hb := I.hb
  have hB := I.hB
  have e1 := fun S => hl.1 n S
  simp only [E, enS, enO] at e
  simp only [enS, enO] at e1
  have z : ((0 : Int) : Rat) = 0 := rfl
  simp [cf_stretch_by, e, k, e1, ev_less (P := P) (a := allDrag ls) (show 252 + (B + 480) ≤ 130000000 by omega)]
  rfl
end
end Z

/-! X, part G: readings, measures, days. -/
namespace Z
open PySem
def enQ : Option Rat → D
  | none => .non
  | some q => fr q
def besideOf (f g : Rat) : Rat := f * g / (f + g)
def readingOf (k : Nat) (s : Stretch) (back : Rat) : Option Rat := match s.2 with
  | none => (match k with
    | 0 => none
    | 1 => none
    | 2 => some s.1
    | 3 => some s.1
    | _ => some (back + s.1))
  | some q => some (match k with
    | 0 => q.1 + q.2.2
    | 1 => q.2.1 + q.2.2
    | 2 => q.1 + besideOf q.2.2 q.2.1
    | 3 => q.2.1 + besideOf q.2.2 q.1
    | _ => back + (q.1 + q.2.1))
section
variable {P : Nat → Option CF} [Lib P] {n : Nat} {S : Store} {m l k : Nat} {a b p d e w f g : Rat} {ls : List Len} {xs : List Leak}
@[simp] theorem blt_int_bl {b : Bool} : bltEv .int [.bl b] S = some (.int (if b then 1 else 0)) := rfl
@[simp] theorem blt_int_int {i : Int} : bltEv .int [.int i] S = some (.int i) := rfl
theorem ev_beside [Bd f m] [Bd g l] (h : m + l ≤ 60000000) (hz : f + g ≠ 0) : evF P (n + 4) (f_beside P) [fr f, fr g] S = .ok (fr (besideOf f g)) S := by
  rw [evF_at (p_beside P) rfl rfl]
  have q1 : m + l ≤ 130000000 := by omega
  have q2 : m + l + (m + l + 1) ≤ 130000000 := by omega
  simp [cf_beside, besideOf, q1, q2, hz]
theorem s_west_free_loop : cmpEv .eq (.str "west free") (.str "loop") S = some (.bl false) := by rw [eq_ev (by decide +kernel) (by decide +kernel)]; rfl
theorem s_west_free_earth : cmpEv .isin (.str "west free") (.tup [.str "west earth", .str "east earth"]) S = some (.bl false) := by rfl
theorem s_west_free_east : cmpEv .isin (.str "west free") (.tup [.str "east free", .str "east earth"]) S = some (.bl false) := by rfl
theorem s_west_free_free : cmpEv .isin (.str "west free") (.tup [.str "west free", .str "east free"]) S = some (.bl true) := by rfl
theorem s_west_free_all : cmpEv .notin (.str "west free") (.tup [.str "west free", .str "east free", .str "west earth", .str "east earth", .str "loop"]) S = some (.bl false) := by rfl
theorem s_west_free_isi : isiEv (.str "west free") .str S = some true := by rfl
theorem s_east_free_loop : cmpEv .eq (.str "east free") (.str "loop") S = some (.bl false) := by rw [eq_ev (by decide +kernel) (by decide +kernel)]; rfl
theorem s_east_free_earth : cmpEv .isin (.str "east free") (.tup [.str "west earth", .str "east earth"]) S = some (.bl false) := by rfl
theorem s_east_free_east : cmpEv .isin (.str "east free") (.tup [.str "east free", .str "east earth"]) S = some (.bl true) := by rfl
theorem s_east_free_free : cmpEv .isin (.str "east free") (.tup [.str "west free", .str "east free"]) S = some (.bl true) := by rfl
theorem s_east_free_all : cmpEv .notin (.str "east free") (.tup [.str "west free", .str "east free", .str "west earth", .str "east earth", .str "loop"]) S = some (.bl false) := by rfl
theorem s_east_free_isi : isiEv (.str "east free") .str S = some true := by rfl
theorem s_west_earth_loop : cmpEv .eq (.str "west earth") (.str "loop") S = some (.bl false) := by rw [eq_ev (by decide +kernel) (by decide +kernel)]; rfl
theorem s_west_earth_earth : cmpEv .isin (.str "west earth") (.tup [.str "west earth", .str "east earth"]) S = some (.bl true) := by rfl
theorem s_west_earth_east : cmpEv .isin (.str "west earth") (.tup [.str "east free", .str "east earth"]) S = some (.bl false) := by rfl
theorem s_west_earth_free : cmpEv .isin (.str "west earth") (.tup [.str "west free", .str "east free"]) S = some (.bl false) := by rfl
theorem s_west_earth_all : cmpEv .notin (.str "west earth") (.tup [.str "west free", .str "east free", .str "west earth", .str "east earth", .str "loop"]) S = some (.bl false) := by rfl
theorem s_west_earth_isi : isiEv (.str "west earth") .str S = some true := by rfl
theorem s_east_earth_loop : cmpEv .eq (.str "east earth") (.str "loop") S = some (.bl false) := by rw [eq_ev (by decide +kernel) (by decide +kernel)]; rfl
theorem s_east_earth_earth : cmpEv .isin (.str "east earth") (.tup [.str "west earth", .str "east earth"]) S = some (.bl true) := by rfl
theorem s_east_earth_east : cmpEv .isin (.str "east earth") (.tup [.str "east free", .str "east earth"]) S = some (.bl true) := by rfl
theorem s_east_earth_free : cmpEv .isin (.str "east earth") (.tup [.str "west free", .str "east free"]) S = some (.bl false) := by rfl
theorem s_east_earth_all : cmpEv .notin (.str "east earth") (.tup [.str "west free", .str "east free", .str "west earth", .str "east earth", .str "loop"]) S = some (.bl false) := by rfl
theorem s_east_earth_isi : isiEv (.str "east earth") .str S = some true := by rfl
theorem s_loop_loop : cmpEv .eq (.str "loop") (.str "loop") S = some (.bl true) := by rw [eq_ev (by decide +kernel) (by decide +kernel)]; rfl
theorem s_loop_earth : cmpEv .isin (.str "loop") (.tup [.str "west earth", .str "east earth"]) S = some (.bl false) := by rfl
theorem s_loop_east : cmpEv .isin (.str "loop") (.tup [.str "east free", .str "east earth"]) S = some (.bl false) := by rfl
theorem s_loop_free : cmpEv .isin (.str "loop") (.tup [.str "west free", .str "east free"]) S = some (.bl false) := by rfl
theorem s_loop_all : cmpEv .notin (.str "loop") (.tup [.str "west free", .str "east free", .str "west earth", .str "east earth", .str "loop"]) S = some (.bl false) := by rfl
theorem s_loop_isi : isiEv (.str "loop") .str S = some true := by rfl
theorem ne_of_pos {a : Rat} (h : 0 < a) : a ≠ 0 := fun e => by rw [e] at h; exact absurd h Rat.lt_irrefl
theorem ev_reading_west_free {s : Stretch} {N : Nat} (h : SB s 300 N N) (hN : N ≤ 12100000) [Bd b l] (hl : l ≤ 1000000) : evF P (n + 5) (f_reading P) [enS s, fr b, .str "west free"] S = .ok (enQ (readingOf 0 s b)) S := by
  rw [evF_at (p_reading P) rfl rfl]
  obtain ⟨d, o⟩ := s
  have i1 : Bd d 300 := h.d
  have q0 : l + 300 ≤ 130000000 := by omega
  have q00 : l + (N + N + 1) ≤ 130000000 := by omega
  have qNN : N + N ≤ 130000000 := by omega
  have qN2 : N + N ≤ 60000000 := by omega
  have qN5 : N + (4 * N + 1) ≤ 130000000 := by omega
  cases o with
  | none => simp [cf_reading, enS, enO, readingOf, enQ, s_west_free_loop, s_west_free_earth, s_west_free_east, s_west_free_free, q0]
  | some q =>
    obtain ⟨i2, i3, i4, p1, p2, p3⟩ := h.seen q rfl
    have z1 : q.2.2 + q.2.1 ≠ 0 := ne_of_pos (by grind)
    have z2 : q.2.2 + q.1 ≠ 0 := ne_of_pos (by grind)
    have b1 : ∀ S, evF P (n + 4) (f_beside P) [fr q.2.2, fr q.2.1] S = .ok (fr (besideOf q.2.2 q.2.1)) S := fun S => ev_beside qN2 z1
    have b2 : ∀ S, evF P (n + 4) (f_beside P) [fr q.2.2, fr q.1] S = .ok (fr (besideOf q.2.2 q.1)) S := fun S => ev_beside qN2 z2
    have c1 : Bd (besideOf q.2.2 q.2.1) (4 * N + 1) := by unfold besideOf; exact Bd.mono (m := N + N + (N + N + 1)) inferInstance (by omega)
    have c2 : Bd (besideOf q.2.2 q.1) (4 * N + 1) := by unfold besideOf; exact Bd.mono (m := N + N + (N + N + 1)) inferInstance (by omega)
    simp [cf_reading, enS, enO, enSn, readingOf, enQ, s_west_free_loop, s_west_free_earth, s_west_free_east, s_west_free_free, b1, b2, ev_add (P := P) (a := q.1) (b := q.2.2) qNN, ev_add (P := P) (a := q.2.1) (b := q.2.2) qNN, ev_add (P := P) (a := q.1) (b := q.2.1) qNN, ev_add (P := P) (a := q.1) (b := besideOf q.2.2 q.2.1) qN5, ev_add (P := P) (a := q.2.1) (b := besideOf q.2.2 q.1) qN5, ev_add (P := P) (a := b) (b := q.1 + q.2.1) q00]
@[simp] theorem ev_measure_west_free [h : LsOk ls] [hb : BkOk b] {B : Nat} [hK : KsB ls xs B] : evF P (n + 8) (f_measure P) [.tup [.tup (ls.map enL), fr b], .tup (xs.map enK), .str "west free"] S = .ok (enQ (readingOf 0 (stretchBy ls xs) b)) S := by
  rw [evF_at (p_measure P) rfl rfl]
  have hB := hK.hB
  have hN : nB B ≤ 12100000 := by unfold nB; omega
  simp [cf_measure, s_west_free_isi, s_west_free_all, ev_reading_west_free (P := P) (b := b) (sb_stretch P (ls := ls) (xs := xs)) hN]
theorem ev_reading_east_free {s : Stretch} {N : Nat} (h : SB s 300 N N) (hN : N ≤ 12100000) [Bd b l] (hl : l ≤ 1000000) : evF P (n + 5) (f_reading P) [enS s, fr b, .str "east free"] S = .ok (enQ (readingOf 1 s b)) S := by
  rw [evF_at (p_reading P) rfl rfl]
  obtain ⟨d, o⟩ := s
  have i1 : Bd d 300 := h.d
  have q0 : l + 300 ≤ 130000000 := by omega
  have q00 : l + (N + N + 1) ≤ 130000000 := by omega
  have qNN : N + N ≤ 130000000 := by omega
  have qN2 : N + N ≤ 60000000 := by omega
  have qN5 : N + (4 * N + 1) ≤ 130000000 := by omega
  cases o with
  | none => simp [cf_reading, enS, enO, readingOf, enQ, s_east_free_loop, s_east_free_earth, s_east_free_east, s_east_free_free, q0]
  | some q =>
    obtain ⟨i2, i3, i4, p1, p2, p3⟩ := h.seen q rfl
    have z1 : q.2.2 + q.2.1 ≠ 0 := ne_of_pos (by grind)
    have z2 : q.2.2 + q.1 ≠ 0 := ne_of_pos (by grind)
    have b1 : ∀ S, evF P (n + 4) (f_beside P) [fr q.2.2, fr q.2.1] S = .ok (fr (besideOf q.2.2 q.2.1)) S := fun S => ev_beside qN2 z1
    have b2 : ∀ S, evF P (n + 4) (f_beside P) [fr q.2.2, fr q.1] S = .ok (fr (besideOf q.2.2 q.1)) S := fun S => ev_beside qN2 z2
    have c1 : Bd (besideOf q.2.2 q.2.1) (4 * N + 1) := by unfold besideOf; exact Bd.mono (m := N + N + (N + N + 1)) inferInstance (by omega)
    have c2 : Bd (besideOf q.2.2 q.1) (4 * N + 1) := by unfold besideOf; exact Bd.mono (m := N + N + (N + N + 1)) inferInstance (by omega)
    simp [cf_reading, enS, enO, enSn, readingOf, enQ, s_east_free_loop, s_east_free_earth, s_east_free_east, s_east_free_free, b1, b2, ev_add (P := P) (a := q.1) (b := q.2.2) qNN, ev_add (P := P) (a := q.2.1) (b := q.2.2) qNN, ev_add (P := P) (a := q.1) (b := q.2.1) qNN, ev_add (P := P) (a := q.1) (b := besideOf q.2.2 q.2.1) qN5, ev_add (P := P) (a := q.2.1) (b := besideOf q.2.2 q.1) qN5, ev_add (P := P) (a := b) (b := q.1 + q.2.1) q00]
@[simp] theorem ev_measure_east_free [h : LsOk ls] [hb : BkOk b] {B : Nat} [hK : KsB ls xs B] : evF P (n + 8) (f_measure P) [.tup [.tup (ls.map enL), fr b], .tup (xs.map enK), .str "east free"] S = .ok (enQ (readingOf 1 (stretchBy ls xs) b)) S := by
  rw [evF_at (p_measure P) rfl rfl]
  have hB := hK.hB
  have hN : nB B ≤ 12100000 := by unfold nB; omega
  simp [cf_measure, s_east_free_isi, s_east_free_all, ev_reading_east_free (P := P) (b := b) (sb_stretch P (ls := ls) (xs := xs)) hN]
theorem ev_reading_west_earth {s : Stretch} {N : Nat} (h : SB s 300 N N) (hN : N ≤ 12100000) [Bd b l] (hl : l ≤ 1000000) : evF P (n + 5) (f_reading P) [enS s, fr b, .str "west earth"] S = .ok (enQ (readingOf 2 s b)) S := by
  rw [evF_at (p_reading P) rfl rfl]
  obtain ⟨d, o⟩ := s
  have i1 : Bd d 300 := h.d
  have q0 : l + 300 ≤ 130000000 := by omega
  have q00 : l + (N + N + 1) ≤ 130000000 := by omega
  have qNN : N + N ≤ 130000000 := by omega
  have qN2 : N + N ≤ 60000000 := by omega
  have qN5 : N + (4 * N + 1) ≤ 130000000 := by omega
  cases o with
  | none => simp [cf_reading, enS, enO, readingOf, enQ, s_west_earth_loop, s_west_earth_earth, s_west_earth_east, s_west_earth_free, q0]
  | some q =>
    obtain ⟨i2, i3, i4, p1, p2, p3⟩ := h.seen q rfl
    have z1 : q.2.2 + q.2.1 ≠ 0 := ne_of_pos (by grind)
    have z2 : q.2.2 + q.1 ≠ 0 := ne_of_pos (by grind)
    have b1 : ∀ S, evF P (n + 4) (f_beside P) [fr q.2.2, fr q.2.1] S = .ok (fr (besideOf q.2.2 q.2.1)) S := fun S => ev_beside qN2 z1
    have b2 : ∀ S, evF P (n + 4) (f_beside P) [fr q.2.2, fr q.1] S = .ok (fr (besideOf q.2.2 q.1)) S := fun S => ev_beside qN2 z2
    have c1 : Bd (besideOf q.2.2 q.2.1) (4 * N + 1) := by unfold besideOf; exact Bd.mono (m := N + N + (N + N + 1)) inferInstance (by omega)
    have c2 : Bd (besideOf q.2.2 q.1) (4 * N + 1) := by unfold besideOf; exact Bd.mono (m := N + N + (N + N + 1)) inferInstance (by omega)
    simp [cf_reading, enS, enO, enSn, readingOf, enQ, s_west_earth_loop, s_west_earth_earth, s_west_earth_east, s_west_earth_free, b1, b2, ev_add (P := P) (a := q.1) (b := q.2.2) qNN, ev_add (P := P) (a := q.2.1) (b := q.2.2) qNN, ev_add (P := P) (a := q.1) (b := q.2.1) qNN, ev_add (P := P) (a := q.1) (b := besideOf q.2.2 q.2.1) qN5, ev_add (P := P) (a := q.2.1) (b := besideOf q.2.2 q.1) qN5, ev_add (P := P) (a := b) (b := q.1 + q.2.1) q00]
@[simp] theorem ev_measure_west_earth [h : LsOk ls] [hb : BkOk b] {B : Nat} [hK : KsB ls xs B] : evF P (n + 8) (f_measure P) [.tup [.tup (ls.map enL), fr b], .tup (xs.map enK), .str "west earth"] S = .ok (enQ (readingOf 2 (stretchBy ls xs) b)) S := by
  rw [evF_at (p_measure P) rfl rfl]
  have hB := hK.hB
  have hN : nB B ≤ 12100000 := by unfold nB; omega
  simp [cf_measure, s_west_earth_isi, s_west_earth_all, ev_reading_west_earth (P := P) (b := b) (sb_stretch P (ls := ls) (xs := xs)) hN]
theorem ev_reading_east_earth {s : Stretch} {N : Nat} (h : SB s 300 N N) (hN : N ≤ 12100000) [Bd b l] (hl : l ≤ 1000000) : evF P (n + 5) (f_reading P) [enS s, fr b, .str "east earth"] S = .ok (enQ (readingOf 3 s b)) S := by
  rw [evF_at (p_reading P) rfl rfl]
  obtain ⟨d, o⟩ := s
  have i1 : Bd d 300 := h.d
  have q0 : l + 300 ≤ 130000000 := by omega
  have q00 : l + (N + N + 1) ≤ 130000000 := by omega
  have qNN : N + N ≤ 130000000 := by omega
  have qN2 : N + N ≤ 60000000 := by omega
  have qN5 : N + (4 * N + 1) ≤ 130000000 := by omega
  cases o with
  | none => simp [cf_reading, enS, enO, readingOf, enQ, s_east_earth_loop, s_east_earth_earth, s_east_earth_east, s_east_earth_free, q0]
  | some q =>
    obtain ⟨i2, i3, i4, p1, p2, p3⟩ := h.seen q rfl
    have z1 : q.2.2 + q.2.1 ≠ 0 := ne_of_pos (by grind)
    have z2 : q.2.2 + q.1 ≠ 0 := ne_of_pos (by grind)
    have b1 : ∀ S, evF P (n + 4) (f_beside P) [fr q.2.2, fr q.2.1] S = .ok (fr (besideOf q.2.2 q.2.1)) S := fun S => ev_beside qN2 z1
    have b2 : ∀ S, evF P (n + 4) (f_beside P) [fr q.2.2, fr q.1] S = .ok (fr (besideOf q.2.2 q.1)) S := fun S => ev_beside qN2 z2
    have c1 : Bd (besideOf q.2.2 q.2.1) (4 * N + 1) := by unfold besideOf; exact Bd.mono (m := N + N + (N + N + 1)) inferInstance (by omega)
    have c2 : Bd (besideOf q.2.2 q.1) (4 * N + 1) := by unfold besideOf; exact Bd.mono (m := N + N + (N + N + 1)) inferInstance (by omega)
    simp [cf_reading, enS, enO, enSn, readingOf, enQ, s_east_earth_loop, s_east_earth_earth, s_east_earth_east, s_east_earth_free, b1, b2, ev_add (P := P) (a := q.1) (b := q.2.2) qNN, ev_add (P := P) (a := q.2.1) (b := q.2.2) qNN, ev_add (P := P) (a := q.1) (b := q.2.1) qNN, ev_add (P := P) (a := q.1) (b := besideOf q.2.2 q.2.1) qN5, ev_add (P := P) (a := q.2.1) (b := besideOf q.2.2 q.1) qN5, ev_add (P := P) (a := b) (b := q.1 + q.2.1) q00]
@[simp] theorem ev_measure_east_earth [h : LsOk ls] [hb : BkOk b] {B : Nat} [hK : KsB ls xs B] : evF P (n + 8) (f_measure P) [.tup [.tup (ls.map enL), fr b], .tup (xs.map enK), .str "east earth"] S = .ok (enQ (readingOf 3 (stretchBy ls xs) b)) S := by
  rw [evF_at (p_measure P) rfl rfl]
  have hB := hK.hB
  have hN : nB B ≤ 12100000 := by unfold nB; omega
  simp [cf_measure, s_east_earth_isi, s_east_earth_all, ev_reading_east_earth (P := P) (b := b) (sb_stretch P (ls := ls) (xs := xs)) hN]
theorem ev_reading_loop {s : Stretch} {N : Nat} (h : SB s 300 N N) (hN : N ≤ 12100000) [Bd b l] (hl : l ≤ 1000000) : evF P (n + 5) (f_reading P) [enS s, fr b, .str "loop"] S = .ok (enQ (readingOf 4 s b)) S := by
  rw [evF_at (p_reading P) rfl rfl]
  obtain ⟨d, o⟩ := s
  have i1 : Bd d 300 := h.d
  have q0 : l + 300 ≤ 130000000 := by omega
  have q00 : l + (N + N + 1) ≤ 130000000 := by omega
  have qNN : N + N ≤ 130000000 := by omega
  have qN2 : N + N ≤ 60000000 := by omega
  have qN5 : N + (4 * N + 1) ≤ 130000000 := by omega
  cases o with
  | none => simp [cf_reading, enS, enO, readingOf, enQ, s_loop_loop, s_loop_earth, s_loop_east, s_loop_free, q0]
  | some q =>
    obtain ⟨i2, i3, i4, p1, p2, p3⟩ := h.seen q rfl
    have z1 : q.2.2 + q.2.1 ≠ 0 := ne_of_pos (by grind)
    have z2 : q.2.2 + q.1 ≠ 0 := ne_of_pos (by grind)
    have b1 : ∀ S, evF P (n + 4) (f_beside P) [fr q.2.2, fr q.2.1] S = .ok (fr (besideOf q.2.2 q.2.1)) S := fun S => ev_beside qN2 z1
    have b2 : ∀ S, evF P (n + 4) (f_beside P) [fr q.2.2, fr q.1] S = .ok (fr (besideOf q.2.2 q.1)) S := fun S => ev_beside qN2 z2
    have c1 : Bd (besideOf q.2.2 q.2.1) (4 * N + 1) := by unfold besideOf; exact Bd.mono (m := N + N + (N + N + 1)) inferInstance (by omega)
    have c2 : Bd (besideOf q.2.2 q.1) (4 * N + 1) := by unfold besideOf; exact Bd.mono (m := N + N + (N + N + 1)) inferInstance (by omega)
    simp [cf_reading, enS, enO, enSn, readingOf, enQ, s_loop_loop, s_loop_earth, s_loop_east, s_loop_free, b1, b2, ev_add (P := P) (a := q.1) (b := q.2.2) qNN, ev_add (P := P) (a := q.2.1) (b := q.2.2) qNN, ev_add (P := P) (a := q.1) (b := q.2.1) qNN, ev_add (P := P) (a := q.1) (b := besideOf q.2.2 q.2.1) qN5, ev_add (P := P) (a := q.2.1) (b := besideOf q.2.2 q.1) qN5, ev_add (P := P) (a := b) (b := q.1 + q.2.1) q00]
@[simp] theorem ev_measure_loop [h : LsOk ls] [hb : BkOk b] {B : Nat} [hK : KsB ls xs B] : evF P (n + 8) (f_measure P) [.tup [.tup (ls.map enL), fr b], .tup (xs.map enK), .str "loop"] S = .ok (enQ (readingOf 4 (stretchBy ls xs) b)) S := by
  rw [evF_at (p_measure P) rfl rfl]
  have hB := hK.hB
  have hN : nB B ≤ 12100000 := by unfold nB; omega
  simp [cf_measure, s_loop_isi, s_loop_all, ev_reading_loop (P := P) (b := b) (sb_stretch P (ls := ls) (xs := xs)) hN]
end
end Z

/-! X, part H: what the laws draw. -/
namespace Z
open PySem
structure Q3 where
  a : Int
  b : Int
  c : Int
def cellQ (q : Q3) : Cell := .lst [.int q.a, .int q.b, .int q.c]
/-- the store with a purse at p -/
def Sq (S : Store) (p : Nat) (q : Q3) : Store := S.set p (cellQ q)
@[simp] theorem Sq_len {S : Store} {p : Nat} {q : Q3} : (Sq S p q).length = S.length := by simp [Sq]
theorem Sq_at {S : Store} {p : Nat} {q : Q3} (hp : p < S.length) : (Sq S p q)[p]? = some (cellQ q) := by simp [Sq, hp]
@[simp] theorem Sq_Sq {S : Store} {p : Nat} {q q' : Q3} : Sq (Sq S p q) p q' = Sq S p q' := by simp [Sq]
def pkC (q : Q3) : Int := q.c + 1
def pkA (q : Q3) : Int := q.a % 999999893 * (q.a % 999999893 % 40009 + 10007) + 80021 * (q.c + 1)
def pkR (m : Int) (q : Q3) : Int := if 0 < q.b then q.b % m else pkA q % 999999893 / 16 % m
def pkQ (m : Int) (q : Q3) : Q3 := if 0 < q.b then ⟨pkA q, q.b / m, q.c + 1⟩ else ⟨pkA q, q.b, q.c + 1⟩
theorem pkR_nonneg {m : Int} {q : Q3} (h : 0 < m) : 0 ≤ pkR m q := by
  unfold pkR
  split <;> exact Int.emod_nonneg _ (by omega)
theorem pkR_lt {m : Int} {q : Q3} (h : 0 < m) : pkR m q < m := by
  unfold pkR
  split <;> exact Int.emod_lt_of_pos _ h
section
variable {P : Nat → Option CF} [Lib P] {n k f m l : Nat} {S : Store} {p : Nat} {q : Q3}
@[simp] theorem idx_Sq (hp : p < S.length) {i : Int} : idxEv (.ref p) (.int i) (Sq S p q) = L2.atI [.int q.a, .int q.b, .int q.c] i := by
  simp [idxEv, dkOf, seqOf, Sq_at hp, cellQ]
@[simp] theorem set_Sq0 (hp : p < S.length) {v : Int} : setEv (.ref p) (.int 0) (.int v) (Sq S p q) = some (Sq S p ⟨v, q.b, q.c⟩) := by
  simp only [setEv, Sq_at hp, cellQ]
  simp [L2.ixN, Sq, cellQ]
@[simp] theorem set_Sq1 (hp : p < S.length) {v : Int} : setEv (.ref p) (.int 1) (.int v) (Sq S p q) = some (Sq S p ⟨q.a, v, q.c⟩) := by
  simp only [setEv, Sq_at hp, cellQ]
  simp [L2.ixN, Sq, cellQ]
@[simp] theorem set_Sq2 (hp : p < S.length) {v : Int} : setEv (.ref p) (.int 2) (.int v) (Sq S p q) = some (Sq S p ⟨q.a, q.b, v⟩) := by
  simp only [setEv, Sq_at hp, cellQ]
  simp [L2.ixN, Sq, cellQ]
@[simp] theorem ev_pick (hp : p < S.length) {m : Int} (hm : 0 < m) : evF P (n + 1) (f_law_pick P) [.ref p, .int m] (Sq S p q) = .ok (.int (pkR m q)) (Sq S p (pkQ m q)) := by
  rw [evF_at (p_law_pick P) rfl rfl]
  have h1 : 0 ≤ q.a % 999999893 := Int.emod_nonneg _ (by decide)
  have h2 : q.a % 999999893 < 999999893 := Int.emod_lt_of_pos _ (by decide)
  have m1 : MulOk (q.a % 999999893) (q.a % 999999893 % 40009 + 10007) := mulOk_l (by omega) (by omega)
  have m2 : MulOk 80021 (q.c + 1) := mulOk_l (by decide) (by decide)
  by_cases hb : 0 < q.b
  · simp [cf_law_pick, hp, bin_mul_int m1, bin_mul_int m2, hm, hb]
    rw [gc_same (by simp)]
    simp [pkR, pkQ, hb, pkA]
  · simp [cf_law_pick, hp, bin_mul_int m1, bin_mul_int m2, hm, hb]
    rw [gc_same (by simp)]
    simp [pkR, pkQ, hb, pkA]
theorem Sq_new {q : Q3} : S ++ [cellQ q] = Sq (S ++ [.gone]) S.length q := by simp [Sq]
@[simp] theorem bin_pow_18 : binEv .pow (.int 10) (.int 18) S = some (.int 1000000000000000000) := by
  simp only [binEv]
  rw [if_pos (by decide)]
  rfl
theorem ex_purse (c : Int) : ∃ q, ∀ n S, evF P (n + 1) (f_law_purse P) [.int c] S = .ok (.ref S.length) (Sq (S ++ [.gone]) S.length q) := by
  refine ⟨⟨c % 999999893 * 6007 + 2503, if 1000000000000000000 ≤ c then c else 0, 0⟩, fun n S => ?_⟩
  rw [evF_at (p_law_purse P) rfl rfl]
  have m1 : MulOk (c % 999999893) 6007 := mulOk_r (by decide) (by decide)
  have e : ∀ x y z : Int, S ++ [Cell.lst [.int x, .int y, .int z]] = Sq (S ++ [.gone]) S.length ⟨x, y, z⟩ := fun x y z => by simp [Sq, cellQ]
  by_cases h : 1000000000000000000 ≤ c
  · simp [cf_law_purse, bin_mul_int m1, h, e]
    have : ¬ (Keep S (Sq (S ++ [.gone]) S.length ⟨c % 999999893 * 6007 + 2503, c, 0⟩) ∧ noref (.ref S.length) = true) := fun z => by have := z.2; unfold noref at this; cases this
    simp only [gc, if_neg this]
  · simp [cf_law_purse, bin_mul_int m1, h, e]
    have : ¬ (Keep S (Sq (S ++ [.gone]) S.length ⟨c % 999999893 * 6007 + 2503, 0, 0⟩) ∧ noref (.ref S.length) = true) := fun z => by have := z.2; unfold noref at this; cases this
    simp only [gc, if_neg this]
theorem cut_map {ns : List Int} {lo hi : Option Int} : ∃ ms : List Int, cutD (ns.map D.int) lo hi = ms.map D.int := ⟨(ns.drop (HT.sIx (ns.map D.int).length 0 lo)).take (HT.sIx (ns.map D.int).length (ns.map D.int).length hi - HT.sIx (ns.map D.int).length 0 lo), by
  unfold cutD
  rw [List.map_take, List.map_drop]⟩
@[simp] theorem sl_scr {ds : List D} {lo hi : Option Int} : slEv (.scr ds) lo hi S = some (.lst (cutD ds lo hi)) := rfl
@[simp] theorem sl_tup {ds : List D} {lo hi : Option Int} : slEv (.tup ds) lo hi S = some (.tup (cutD ds lo hi)) := rfl
@[simp] theorem sl_lst {ds : List D} {lo hi : Option Int} : slEv (.lst ds) lo hi S = some (.lst (cutD ds lo hi)) := rfl
theorem ex_cell {ns : List Int} {i : Int} (h0 : 0 ≤ i) (h1 : i < 2 ^ 60) : ∃ c, ∀ n S, evF P (n + 1) (f_law_cell P) [.scr (ns.map .int), .int i] S = .ok (.int c) S := by
  by_cases hl : i < (ns.length : Int)
  · obtain ⟨x, hx⟩ : ∃ x, ns[i.toNat]? = some x := ⟨_, List.getElem?_eq_getElem (by omega)⟩
    refine ⟨x, fun n S => ?_⟩
    rw [evF_at (p_law_cell P) rfl rfl]
    simp [cf_law_cell, hl, atI_of h0, hx]
  · obtain ⟨ms, hm⟩ := cut_map (ns := ns) (lo := none) (hi := some 4)
    have m1 : MulOk i i := mulOk_l (by omega) (by omega)
    have m2 : MulOk 11 i := mulOk_l (by decide) (by decide)
    have m3 : MulOk 70001 (i * i + 11 * i + 5) := mulOk_l (by decide) (by decide)
    have key : ∀ (n : Nat) (S : Store) (ws : List D) (xs : List Int) (s : Int × Option D), forEv (run (evF P n) (cb_law_cell_1 (Lib.ix P))) (.nm 3) (.fix ws) (xs.map D.int) [some (.scr (ns.map .int)), some (.int i), some (.int s.1), s.2] S =
        .nx (let t := xs.foldl (fun (s : Int × Option D) x => ((s.1 * 20011 + x) % 1000000021, some (.int x))) s; [some (.scr (ns.map .int)), some (.int i), some (.int t.1), t.2]) S := fun n S ws xs s =>
      for_fold (body := run (evF P n) (cb_law_cell_1 (Lib.ix P))) (tg := .nm 3) (S := S) (ws := ws) D.int (fun s : Int × Option D => [some (.scr (ns.map .int)), some (.int i), some (.int s.1), s.2]) (fun s x => ((s.1 * 20011 + x) % 1000000021, some (.int x))) (fun _ _ => True) (fun x xs s _ => by
        have m4 : MulOk s.1 20011 := mulOk_r (by decide) (by decide)
        exact ⟨by simp [cb_law_cell_1, bin_mul_int m4], trivial⟩) xs s trivial
    refine ⟨(ms.foldl (fun (s : Int × Option D) x => ((s.1 * 20011 + x) % 1000000021, some (.int x))) (70001 * (i * i + 11 * i + 5) % 1000000021, none)).1, fun n S => ?_⟩
    rw [evF_at (p_law_cell P) rfl rfl]
    have k := fun ws => key n S ws ms (70001 * (i * i + 11 * i + 5) % 1000000021, none)
    simp only [] at k
    simp [cf_law_cell, hl, bin_mul_int m1, bin_mul_int m2, bin_mul_int m3, hm, k]
mutual
theorem noref_ok : ∀ {n : Nat} {d : D}, okD n d = true → noref d = true
  | _, .non, _ => by unfold noref; rfl
  | _, .bl _, _ => by unfold noref; rfl
  | _, .int _, _ => by unfold noref; rfl
  | _, .str _, _ => by unfold noref; rfl
  | n + 1, .tup ds, h => by unfold okD at h; unfold noref; exact norefs_ok h
  | n + 1, .lst ds, h => by unfold okD at h; unfold noref; exact norefs_ok h
  | 0, .tup ds, h => by unfold okD at h; cases h
  | 0, .lst ds, h => by unfold okD at h; cases h
  | _, .scr _, h => by unfold okD at h; cases h
  | _, .edic, h => by unfold okD at h; cases h
  | _, .ref _, h => by unfold okD at h; cases h
  | _, .exc _ _, h => by unfold okD at h; cases h
theorem norefs_ok : ∀ {n : Nat} {ds : List D}, okDs n ds = true → norefs ds = true
  | _, [], _ => by unfold norefs; rfl
  | n, d :: ds, h => by
    unfold okDs at h
    obtain ⟨h1, h2⟩ := ands h
    unfold norefs
    rw [noref_ok h1, norefs_ok h2]
    rfl
end
/-! a purse and a cell behind -/
theorem Sq_app {c : Cell} (hp : p < S.length) : Sq S p q ++ [c] = Sq (S ++ [c]) p q := by simp [Sq, hp]
theorem Sq_last {c : Cell} (hp : p < S.length) : (Sq (S ++ [c]) p q)[S.length]? = some c := by
  unfold Sq
  rw [List.getElem?_set_ne (by omega)]
  simp
theorem Sq_setLast {c c' : Cell} (hp : p < S.length) : (Sq (S ++ [c]) p q).set S.length c' = Sq (S ++ [c']) p q := by
  unfold Sq
  rw [List.set_comm _ _ (by omega)]
  simp
theorem noref_cellQ (q : Q3) : (cellQ q).noref = true := by simp [cellQ, Cell.noref, norefs, noref]
theorem gc_sq {d : D} {T : Store} {q' : Q3} (hp : p < S.length) (hd : noref d = true) : gc (Sq S p q) (.ok d (Sq (S ++ T) p q')) = .ok d (Sq S p q') := by
  have hk : Keep (Sq S p q) (Sq (S ++ T) p q') := by
    refine ⟨by simp, fun i hi => ?_⟩
    rw [Sq_len] at hi
    unfold Sq
    by_cases e : p = i
    · subst e
      exact .inr ⟨cellQ q', by rw [List.getElem?_set_self (by simp; omega)], noref_cellQ q'⟩
    · refine .inl ?_
      rw [List.getElem?_set_ne e, List.getElem?_set_ne e, List.getElem?_append_left hi]
  simp only [gc, if_pos (And.intro hk hd)]
  congr 1
  unfold Sq
  rw [List.length_set, List.take_set, List.take_left']
  rfl
theorem len_hi (hp : p < S.length) (c : Cell) : p < (S ++ [c]).length := by simp; omega
@[simp] theorem okD_enL (k : Nat) (x : Len) : okD (k + 2) (enL x) = true := by simp [enL]
@[simp] theorem okD_enK (k : Nat) (x : Leak) : okD (k + 2) (enK x) = true := by simp [enK]
@[simp] theorem okDs_enL (k : Nat) (xs : List Len) : okDs (k + 2) (xs.map enL) = true := okDs_map (fun x => okD_enL k x) xs
@[simp] theorem okDs_enK (k : Nat) (xs : List Leak) : okDs (k + 2) (xs.map enK) = true := okDs_map (fun x => okD_enK k x) xs
theorem norefL (xs : List Len) : norefs (xs.map enL) = true := norefs_ok (okDs_enL 0 xs)
theorem norefK (xs : List Leak) : norefs (xs.map enK) = true := norefs_ok (okDs_enK 0 xs)
theorem norefF (a : Rat) : noref (fr a) = true := by simp [fr, noref, norefs]
theorem small_div {a b : Int} (h0 : 0 ≤ a) (h1 : a ≤ 999) (hb : 0 < b) (h2 : b ≤ 999) : (((a : Rat) / (b : Rat)).num ≤ 999 ∧ (((a : Rat) / (b : Rat)).den : Int) ≤ 999) := by
  obtain ⟨e1, e2⟩ := low_num (a := a) hb
  rw [e1, e2]
  exact ⟨Int.le_trans (Int.ediv_le_self _ h0) h1, Int.le_trans (Int.ediv_le_self _ (by omega)) h2⟩
theorem div_pos' {a b : Int} (ha : 0 < a) (hb : 0 < b) : (0 : Rat) < (a : Rat) / (b : Rat) := by
  have h := Rat.num_nonneg (q := (a : Rat) / (b : Rat))
  obtain ⟨e1, e2⟩ := low_num (a := a) hb
  have hg : (Int.gcd a b : Int) ≤ a := Int.gcd_le_left b ha
  have hg0 : 0 < (Int.gcd a b : Int) := by
    have := Int.gcd_pos_iff.mpr (Or.inr (show b ≠ 0 by omega) : a ≠ 0 ∨ b ≠ 0)
    omega
  have h1 : 0 < ((a : Rat) / (b : Rat)).num := by
    rw [e1]
    exact Int.ediv_pos_of_pos_of_dvd ha (by omega) (Int.gcd_dvd_left ..)
  refine Rat.lt_of_le_of_ne (h.mp (by omega)) fun e => ?_
  rw [← e] at h1
  exact absurd h1 (by decide)
theorem div_nonneg' {a b : Int} (ha : 0 ≤ a) (hb : 0 < b) : (0 : Rat) ≤ (a : Rat) / (b : Rat) := by
  refine Rat.num_nonneg.mp ?_
  rw [(low_num (a := a) hb).1]
  exact Int.ediv_nonneg ha (by omega)
/-- one of a list's -/
theorem at_sel {l : List Int} {r : Int} (h0 : 0 ≤ r) (h1 : r < l.length) : ∃ x ∈ l, L2.atI (l.map D.int) r = some (.int x) := by
  have hl : r.toNat < l.length := by omega
  refine ⟨l[r.toNat], List.getElem_mem hl, ?_⟩
  rw [atI_of h0]
  simp [hl]
theorem sIx_nat {n d : Nat} {v : Int} (h : 0 ≤ v) : HT.sIx n d (some v) = min v.toNat n := by
  show (if v < 0 then _ else _) = _
  rw [if_neg (by omega)]
theorem cut_take {xs : List D} {v : Int} (h : 0 ≤ v) : cutD xs none (some v) = xs.take v.toNat := by
  unfold cutD
  rw [sIx_nat h]
  show (xs.drop 0).take (min v.toNat xs.length - 0) = _
  rw [List.drop_zero, Nat.sub_zero]
  by_cases hl : v.toNat ≤ xs.length
  · rw [Nat.min_eq_left hl]
  · rw [Nat.min_eq_right (by omega), List.take_length, List.take_of_length_le (by omega)]
theorem cut_drop {xs : List D} {v : Int} (h : 0 ≤ v) : cutD xs (some v) none = xs.drop v.toNat := by
  unfold cutD
  rw [sIx_nat h]
  show (xs.drop (min v.toNat xs.length)).take (xs.length - min v.toNat xs.length) = _
  by_cases hl : v.toNat ≤ xs.length
  · rw [Nat.min_eq_left hl, List.take_of_length_le (by simp)]
  · rw [Nat.min_eq_right (by omega), List.drop_length, List.drop_eq_nil_of_le (by omega)]
    simp
@[simp] theorem bin_add_tup {xs ys : List D} (h : xs.length + ys.length ≤ 1000) : binEv .add (.tup xs) (.tup ys) S = some (.tup (xs ++ ys)) := by
  have : xs.length + ys.length ≤ sizeLine := by rw [sizeLine_eq]; omega
  simp only [binEv, addEv, if_pos this]
theorem app_Sq {ds : List D} {y : D} (hp : p < S.length) (hl : ds.length < 1000) : mthEv .append (.ref S.length) [y] (Sq (S ++ [.lst ds]) p q) = some (.non, Sq (S ++ [.lst (ds ++ [y])]) p q) := by
  have : ds.length < sizeLine := by rw [sizeLine_eq]; omega
  simp only [mthEv, Sq_last hp, if_pos this, Sq_setLast hp]
theorem seqL_Sq {ds : List D} (hp : p < S.length) : seqL (Sq (S ++ [.lst ds]) p q) (.ref S.length) = some ds := by
  simp only [seqL, Sq_last hp]
theorem seqOf_Sq {ds : List D} (hp : p < S.length) : seqOf (Sq (S ++ [.lst ds]) p q) (.ref S.length) = some ds := by
  simp only [seqOf, Sq_last hp]
theorem sum_take : ∀ {xs : List Len} (j : Nat), (∀ x ∈ xs, LenOk x) → 0 ≤ ((xs.take j).map (·.1)).sum ∧ ((xs.take j).map (·.1)).sum ≤ (xs.map (·.1)).sum
  | [], j, _ => by simp
  | x :: xs, 0, h => by
    have := (steps_pos h).1
    unfold allSteps at this
    simpa using this
  | x :: xs, j + 1, h => by
    have ih := sum_take j fun y hy => h y (List.mem_cons_of_mem _ hy)
    have hx := (h x List.mem_cons_self).lo
    simp only [List.take_succ_cons, List.map_cons, List.sum_cons]
    omega
theorem rng_len {a b : Int} : (rngD a b).length = (b - a).toNat := by simp [rngD]
theorem pk4 {l : List Int} {q : Q3} {m : Int} (h : (l.length : Int) = m) (hm : 0 < m) : ∃ x ∈ l, L2.atI (l.map D.int) (pkR m q) = some (.int x) := at_sel (pkR_nonneg hm) (by rw [h]; exact pkR_lt hm)
/-- one length of a cable that is drawn -/
theorem cable_body (q : Q3) : ∃ (x : Len) (y : Option D) (q' : Q3), LenOk x ∧ ∀ (n : Nat) (S : Store) (p : Nat) (x1 x3 x4 : Option D) (xs : List Len), p < S.length → xs.length < 900 →
    run (evF P (n + 1)) (cb_law_cable_1 (Lib.ix P)) [some (.ref p), x1, some (.ref S.length), x3, x4] (Sq (S ++ [.lst (xs.map enL)]) p q) = .nx [some (.ref p), x1, some (.ref S.length), x3, y] (Sq (S ++ [.lst ((xs ++ [x]).map enL)]) p q') := by
  obtain ⟨a, ha, s1⟩ := pk4 (l := [9, 40, 999]) (q := q) (m := 3) rfl (by decide)
  have ba : 0 < a ∧ a ≤ 999 := by simp at ha; omega
  have r2 := pkR_nonneg (m := a) (q := pkQ 3 q) ba.1
  have u2 := pkR_lt (m := a) (q := pkQ 3 q) ba.1
  have r3 := pkR_nonneg (m := 9) (q := pkQ a (pkQ 3 q)) (by decide)
  have u3 := pkR_lt (m := 9) (q := pkQ a (pkQ 3 q)) (by decide)
  obtain ⟨b, hb, s2⟩ := pk4 (l := [1, 1, 2, 3]) (q := pkQ 9 (pkQ a (pkQ 3 q))) (m := 4) rfl (by decide)
  have bb : 0 < b ∧ b ≤ 3 := by simp at hb; omega
  have hs := small_div (a := 1 + pkR 9 (pkQ a (pkQ 3 q))) (b := b) (by omega) (by omega) bb.1 (by omega)
  refine ⟨(1 + pkR a (pkQ 3 q), ((1 + pkR 9 (pkQ a (pkQ 3 q)) : Int) : Rat) / (b : Rat)), some (.int (1 + pkR a (pkQ 3 q))), pkQ 4 (pkQ 9 (pkQ a (pkQ 3 q))), ⟨by show 1 ≤ 1 + pkR a (pkQ 3 q); omega, by show 1 + pkR a (pkQ 3 q) ≤ 999; omega, div_pos' (by omega) bb.1, hs.1, hs.2⟩, fun n S p x1 x3 x4 xs hp hl => ?_⟩
  have hp' := len_hi hp (.lst (xs.map enL))
  simp only [List.map_cons, List.map_nil] at s1 s2
  have b0 : b ≠ 0 := by omega
  have e := ev_law_low (P := P) (n := n) (S := Sq (S ++ [.lst (xs.map enL)]) p (pkQ 4 (pkQ 9 (pkQ a (pkQ 3 q))))) (a := 1 + pkR 9 (pkQ a (pkQ 3 q))) (b := b) b0
  simp only [List.length_append, List.length_cons, List.length_nil] at hp'
  simp [cb_law_cable_1, hp', s1, s2, ba.1, e, -ev_law_low, seqL_Sq hp, app_Sq hp, show xs.length < 1000 by omega, enL]
theorem cable_loop : ∀ (items : List D) (q : Q3) (xs : List Len), xs.length + items.length < 900 → (∀ x ∈ xs, LenOk x) → ∃ (ys : List Len) (q' : Q3), (∀ x ∈ ys, LenOk x) ∧ ys.length = xs.length + items.length ∧
    ∀ (n : Nat) (S : Store) (p : Nat) (w : List D) (x1 x3 x4 : Option D), p < S.length → ∃ y3 y4, forEv (run (evF P (n + 1)) (cb_law_cable_1 (Lib.ix P))) (.nm 3) (.fix w) items [some (.ref p), x1, some (.ref S.length), x3, x4] (Sq (S ++ [.lst (xs.map enL)]) p q) = .nx [some (.ref p), x1, some (.ref S.length), y3, y4] (Sq (S ++ [.lst (ys.map enL)]) p q')
  | [], q, xs, hl, hx => ⟨xs, q, hx, by simp, fun n S p w x1 x3 x4 hp => ⟨x3, x4, by simp [forEv, at_fix]⟩⟩
  | d :: items, q, xs, hl, hx => by
    simp only [List.length_cons] at hl
    obtain ⟨x, y, q1, ox, e1⟩ := cable_body (P := P) q
    obtain ⟨ys, q2, oy, ly, e2⟩ := cable_loop items q1 (xs ++ [x]) (by simp; omega) (fun y hy => by
      rcases List.mem_append.mp hy with hy | hy
      · exact hx y hy
      · rw [List.mem_singleton.mp hy]; exact ox)
    refine ⟨ys, q2, oy, by rw [ly]; simp; omega, fun n S p w x1 x3 x4 hp => ?_⟩
    obtain ⟨y3, y4, e3⟩ := e2 n S p w x1 (some d) y hp
    refine ⟨y3, y4, ?_⟩
    simp only [forEv, at_fix, if_true, stepT_nm, List.length_cons, List.length_nil, Nat.reduceAdd, Nat.reduceLT, List.set_cons_succ, List.set_cons_zero, e1 n S p x1 (some d) x4 xs hp (by omega)]
    exact e3
theorem ex_cable (q : Q3) {m : Int} (h1 : 1 ≤ m) (h2 : m ≤ 12) : ∃ (ls : List Len) (b : Rat) (q' : Q3), LsOk ls ∧ BkOk b ∧ (ls.length : Int) ≤ m ∧ ∀ n S p, p < S.length → evF P (n + 2) (f_law_cable P) [.ref p, .int m] (Sq S p q) = .ok (.tup [.tup (ls.map enL), fr b]) (Sq S p q') := by
  have r0 := pkR_nonneg (m := m) (q := q) (by omega)
  have u0 := pkR_lt (m := m) (q := q) (by omega)
  obtain ⟨ys, q1, oy, ly, e1⟩ := cable_loop (P := P) (rngD 0 (1 + pkR m q)) (pkQ m q) [] (by simp [rng_len]; omega) (by simp)
  rw [rng_len] at ly
  simp at ly
  have r1 := pkR_nonneg (m := 30) (q := q1) (by omega)
  have u1 := pkR_lt (m := 30) (q := q1) (by omega)
  have r2 := pkR_nonneg (m := 3) (q := pkQ 30 q1) (by omega)
  have u2 := pkR_lt (m := 3) (q := pkQ 30 q1) (by omega)
  have hs := small_div (a := pkR 30 q1) (b := 1 + pkR 3 (pkQ 30 q1)) (by omega) (by omega) (by omega) (by omega)
  refine ⟨ys, ((pkR 30 q1 : Int) : Rat) / ((1 + pkR 3 (pkQ 30 q1) : Int) : Rat), pkQ 3 (pkQ 30 q1), ⟨by omega, by omega, oy⟩, ⟨div_nonneg' r1 (by omega), hs.1, hs.2⟩, by omega, fun n S p hp => ?_⟩
  rw [evF_at (p_law_cable P) rfl rfl]
  obtain ⟨y3, y4, e2⟩ := e1 n S p (rngD 0 (1 + pkR m q)) (some (.int m)) none none hp
  simp only [List.map_nil] at e2
  have s1 : small62 0 := ⟨by decide, by decide⟩
  have s2 : small62 (1 + pkR m q) := ⟨by omega, by omega⟩
  have hp1 : p < S.length + 1 := by omega
  have m0 : 0 < m := by omega
  have b0 : (1 + pkR 3 (pkQ 30 q1)) ≠ 0 := by omega
  have e := ev_law_low (P := P) (n := n) (S := Sq (S ++ [.lst (ys.map enL)]) p (pkQ 3 (pkQ 30 q1))) (a := pkR 30 q1) (b := 1 + pkR 3 (pkQ 30 q1)) b0
  simp [cf_law_cable, Sq_app hp, hp1, m0, s1, s2, e2, seqOf_Sq hp, e, -ev_law_low]
  exact gc_sq (S := S) (q := q) (T := [.lst (ys.map enL)]) (q' := pkQ 3 (pkQ 30 q1)) hp (by simp [noref, norefs, norefL, norefF])
theorem sum_steps {ls : List Len} : bltEv .sum [.lst (ls.map fun x => D.int x.1)] S = some (.int (allSteps ls)) := by
  show (ints? _).map _ = _
  rw [ints_eq]
  rfl
theorem ex_sixths (q : Q3) (ls : List Len) [h : LsOk ls] : ∃ (r : Int) (q' : Q3), 0 ≤ r ∧ r ≤ 6 * allSteps ls ∧ ∀ n S p b, p < S.length → evF P (n + 2) (f_law_sixths P) [.ref p, .tup [.tup (ls.map enL), fr b]] (Sq S p q) = .ok (.int r) (Sq S p q') := by
  have hst := steps_pos h.len
  have hl := h.hi
  have r1 := pkR_nonneg (m := 5) (q := q) (by omega)
  have u1 := pkR_lt (m := 5) (q := q) (by omega)
  have ec : ∀ n S p b, compEv (ev (evF P n) (.idx (.var 4) (.con (.int 0)))) (ev (evF P n) (.con (.bl true))) (.nm 4) (.fix (ls.map enL)) [some (.ref p), some (.tup [.tup (ls.map enL), fr b]), none, none, none] [4] (ls.map enL) [] S = .ok (ls.map fun x => .int x.1) S := fun n S p b => by
    rw [comp_map enL (fun x => .int x.1) ls [] (by simp; omega) (fun x hx => by simp [wipeD, enL])]
    simp
  have m6 : MulOk 6 (allSteps ls) := mulOk_l (by decide) (by decide)
  by_cases h0 : pkR 5 q = 0
  · have r2 := pkR_nonneg (m := 2) (q := pkQ 5 q) (by omega)
    have u2 := pkR_lt (m := 2) (q := pkQ 5 q) (by omega)
    have m7 : MulOk (6 * allSteps ls) (pkR 2 (pkQ 5 q)) := mulOk_r (by omega) (by omega)
    refine ⟨6 * allSteps ls * pkR 2 (pkQ 5 q), pkQ 2 (pkQ 5 q), Int.mul_nonneg (by omega) r2, ?_, fun n S p b hp => ?_⟩
    · have : pkR 2 (pkQ 5 q) = 0 ∨ pkR 2 (pkQ 5 q) = 1 := by omega
      rcases this with h | h <;> rw [h] <;> omega
    · rw [evF_at (p_law_sixths P) rfl rfl]
      simp [cf_law_sixths, ec, hp, h0, sum_steps, -blt_sum, bin_mul_int m6, bin_mul_int m7]
      rw [gc_same (by simp)]
  · have b0 : (pkR 5 q == 0) = false := by simpa using h0
    by_cases h1 : pkR 5 q = 1
    · have r2 := pkR_nonneg (m := ls.length + 1) (q := pkQ 5 q) (by omega)
      have hp0 : 0 < (ls.length : Int) + 1 := by omega
      have st := sum_take (pkR (ls.length + 1) (pkQ 5 q)).toNat h.len
      have hs2 : ∀ S, bltEv .sum [.lst ((ls.take (pkR (ls.length + 1) (pkQ 5 q)).toNat).map fun x => D.int x.1)] S = some (.int (allSteps (ls.take (pkR (ls.length + 1) (pkQ 5 q)).toNat))) := fun S => sum_steps
      have m7 : MulOk 6 (allSteps (ls.take (pkR (ls.length + 1) (pkQ 5 q)).toNat)) := mulOk_l (by decide) (by decide)
      refine ⟨6 * allSteps (ls.take (pkR (ls.length + 1) (pkQ 5 q)).toNat), pkQ (ls.length + 1) (pkQ 5 q), by unfold allSteps; omega, by unfold allSteps; omega, fun n S p b hp => ?_⟩
      rw [evF_at (p_law_sixths P) rfl rfl]
      simp only [List.map_take] at hs2
      simp [cf_law_sixths, ec, hp, h1, hp0, cut_take r2, hs2, -blt_sum, bin_mul_int m7]
      rw [gc_same (by simp)]
    · have b1 : (pkR 5 q == 1) = false := by simpa using h1
      have hp0 : 0 < 6 * allSteps ls + 1 := by omega
      have r2 := pkR_nonneg (m := 6 * allSteps ls + 1) (q := pkQ 5 q) (by omega)
      have u2 := pkR_lt (m := 6 * allSteps ls + 1) (q := pkQ 5 q) (by omega)
      refine ⟨pkR (6 * allSteps ls + 1) (pkQ 5 q), pkQ (6 * allSteps ls + 1) (pkQ 5 q), r2, by omega, fun n S p b hp => ?_⟩
      rw [evF_at (p_law_sixths P) rfl rfl]
      simp [cf_law_sixths, ec, hp, h0, h1, hp0, sum_steps, -blt_sum, bin_mul_int m6]
      rw [gc_same (by simp)]
end
end Z

/-! X, part I: leaks that a law draws. -/
namespace Z
open PySem
section
variable {P : Nat → Option CF} [Lib P] {n k f m l : Nat} {S : Store} {p : Nat} {q : Q3}
abbrev KV := List (L2.Key × D)
structure DkOk (T : Int) (kvs : KV) : Prop where
  each : ∀ kv ∈ kvs, ∃ (i : Int) (d : Rat), kv = (.inl i, fr d) ∧ 0 ≤ i ∧ i ≤ 6 * T ∧ 0 < d ∧ Bd d 200
  nd : (kvs.map (·.1)).Nodup
theorem any_key {kvs : KV} {k : L2.Key} : (kvs.any fun kv => decide (kv.1 = k)) = true ↔ k ∈ kvs.map (·.1) := by
  simp only [List.any_eq_true, decide_eq_true_eq, List.mem_map]
theorem DkOk.put {T : Int} {kvs : KV} (h : DkOk T kvs) {i : Int} {d : Rat} (h0 : 0 ≤ i) (h1 : i ≤ 6 * T) (hd : 0 < d) (hs : Bd d 200) : DkOk T (putD kvs (.inl i) (fr d)) ∧ (putD kvs (.inl i) (fr d)).length ≤ kvs.length + 1 := by
  unfold putD
  by_cases ha : (kvs.any fun kv => decide (kv.1 = (.inl i : L2.Key))) = true
  · rw [if_pos ha]
    refine ⟨⟨fun kv hkv => ?_, ?_⟩, by simp⟩
    · obtain ⟨x, hx, rfl⟩ := List.mem_map.mp hkv
      split
      · rename_i e
        exact ⟨i, d, by rw [e], h0, h1, hd, hs⟩
      · exact h.each x hx
    · have e : (kvs.map fun kv => if kv.1 = (.inl i : L2.Key) then (kv.1, fr d) else kv).map (·.1) = kvs.map (·.1) := by
        rw [List.map_map]
        refine List.map_congr_left fun x _ => ?_
        simp only [Function.comp]
        split <;> rfl
      rw [e]
      exact h.nd
  · rw [if_neg ha]
    refine ⟨⟨fun kv hkv => ?_, ?_⟩, by simp⟩
    · rcases List.mem_append.mp hkv with hkv | hkv
      · exact h.each kv hkv
      · rw [List.mem_singleton.mp hkv]
        exact ⟨i, d, rfl, h0, h1, hd, hs⟩
    · rw [any_key] at ha
      rw [List.map_append, List.map_cons, List.map_nil, List.nodup_append]
      exact ⟨h.nd, by simp, fun a h1 b h2 => by rw [List.mem_singleton.mp h2]; intro e; subst e; exact ha h1⟩
theorem setD_Sq {kvs : KV} {i : Int} {v : D} (hp : p < S.length) (hl : kvs.length < 1000) : setEv (.ref S.length) (.int i) v (Sq (S ++ [.dk kvs]) p q) = some (Sq (S ++ [.dk (putD kvs (.inl i) v)]) p q) := by
  have : kvs.length < sizeLine := by rw [sizeLine_eq]; omega
  simp only [setEv, Sq_last hp, keyOf, Option.bind_some, if_pos this, Sq_setLast hp]
theorem idxD_Sq {kvs : KV} {i : Int} (hp : p < S.length) : idxEv (.ref S.length) (.int i) (Sq (S ++ [.dk kvs]) p q) = valD kvs (.inl i) := by
  simp only [idxEv, dkOf, Sq_last hp, keyOf, Option.bind_some]
theorem sorted_Sq {kvs : KV} {ks : List Int} (hp : p < S.length) (h : keysI kvs = some ks) (hl : ks.length < 64) : bltEv .sorted [.ref S.length] (Sq (S ++ [.dk kvs]) p q) = some (.lst ((sortI ks).map .int)) := by
  simp only [bltEv, dkOf, Sq_last hp, h, Option.bind_some, if_pos hl]
theorem DkOk.keys {T : Int} : ∀ {kvs : KV}, (∀ kv ∈ kvs, ∃ (i : Int) (d : Rat), kv = (.inl i, fr d) ∧ 0 ≤ i ∧ i ≤ 6 * T ∧ 0 < d ∧ Bd d 200) → ∃ ks, keysI kvs = some ks ∧ ks.length = kvs.length
  | [], _ => ⟨[], rfl, rfl⟩
  | kv :: kvs, h => by
    obtain ⟨i, d, rfl, _⟩ := h kv List.mem_cons_self
    obtain ⟨ks, e, l⟩ := DkOk.keys fun x hx => h x (List.mem_cons_of_mem _ hx)
    exact ⟨i :: ks, by rw [keysI, e]; rfl, by simp [l]⟩
theorem val_mem : ∀ {kvs : KV} {k : L2.Key}, k ∈ kvs.map (·.1) → ∃ kv ∈ kvs, kv.1 = k ∧ valD kvs k = some kv.2
  | [], k, h => by simp at h
  | x :: kvs, k, h => by
    by_cases e : x.1 = k
    · exact ⟨x, List.mem_cons_self, e, by simp [valD, List.find?_cons, e]⟩
    · have h2 : k ∈ kvs.map (·.1) := by
        rw [List.map_cons] at h
        rcases List.mem_cons.mp h with z | z
        · exact absurd z.symm e
        · exact z
      obtain ⟨kv, h3, h4, h5⟩ := val_mem h2
      exact ⟨kv, List.mem_cons_of_mem _ h3, h4, by rw [← h5]; simp [valD, List.find?_cons, e]⟩
theorem sz_200 {a b : Int} (ha : a.natAbs ≤ 2 ^ 200) (hb : 0 < b) (hb2 : b < 2 ^ 64) : Bd ((a : Rat) / (b : Rat)) 200 := bd_div ha (by omega)
/-- behind the drawing: the leaks in their order -/
theorem dk_leaks {T : Int} {kvs : KV} (h : DkOk T kvs) (ls : List Len) (hT : T = allSteps ls) (h0 : 0 ≤ T) (h1 : T ≤ 11988) (hl : kvs.length ≤ 6) :
    ∃ (ks : List Int) (dv : Int → Rat), keysI kvs = some ks ∧ ks.length < 64 ∧ (sortI ks).length ≤ kvs.length ∧ (∀ a ∈ sortI ks, valD kvs (.inl a) = some (fr (dv a))) ∧ KsOk ls ((sortI ks).map fun a : Int => ((a : Rat) / ((6 : Int) : Rat), dv a)) ∧ ∀ x ∈ (sortI ks).map (fun a : Int => ((a : Rat) / ((6 : Int) : Rat), dv a)), Bd x.1 200 ∧ Bd x.2 200 := by
  obtain ⟨ks, e, hlen⟩ := DkOk.keys h.each
  have hk := keysI_at e
  have perm : (sortI ks).Perm ks := List.mergeSort_perm ks _
  have nd : ks.Nodup := by
    have := h.nd
    rw [hk] at this
    exact (List.pairwise_map.mp this).imp fun h e => h (by rw [e])
  have nd2 : (sortI ks).Nodup := perm.nodup_iff.mpr nd
  have srt : (sortI ks).Pairwise (· ≤ ·) := by
    have := List.pairwise_mergeSort (le := fun a b : Int => decide (a ≤ b)) (fun a b c h1 h2 => by simp at *; omega) (fun a b => by simp; omega) ks
    exact this.imp fun h => of_decide_eq_true h
  have val : ∀ a, ∃ d : Rat, a ∈ sortI ks → valD kvs (.inl a) = some (fr d) ∧ 0 ≤ a ∧ a ≤ 6 * T ∧ 0 < d ∧ Bd d 200 := fun a => by
    by_cases ha : a ∈ sortI ks
    · have hm : (.inl a : L2.Key) ∈ kvs.map (·.1) := by
        rw [hk]
        exact List.mem_map.mpr ⟨a, perm.mem_iff.mp ha, rfl⟩
      obtain ⟨kv, m1, m2, m3⟩ := val_mem hm
      obtain ⟨i, d, rfl, g0, g1, g2, g3⟩ := h.each kv m1
      cases m2
      exact ⟨d, fun _ => ⟨m3, g0, g1, g2, g3⟩⟩
    · exact ⟨0, fun z => absurd z ha⟩
  obtain ⟨dv, hdv⟩ := Classical.axiomOfChoice val
  have each : ∀ x ∈ (sortI ks).map (fun a : Int => ((a : Rat) / ((6 : Int) : Rat), dv a)), 0 ≤ x.1 ∧ x.1 ≤ ((allSteps ls : Int) : Rat) ∧ 0 < x.2 ∧ Bd x.1 1000 ∧ Bd x.2 1000 := fun x hx => by
    obtain ⟨a, ha, rfl⟩ := List.mem_map.mp hx
    obtain ⟨_, g0, g1, g2, g3⟩ := hdv a ha
    refine ⟨div_nonneg' g0 (by decide), ?_, g2, (sz_200 (by omega) (by decide) (by decide)).mono (by omega), g3.mono (by omega)⟩
    show (a : Rat) / ((6 : Int) : Rat) ≤ ((allSteps ls : Int) : Rat)
    rw [← hT]
    have h6 : ((6 : Int) : Rat) = 6 := rfl
    have : ((a : Int) : Rat) ≤ ((T * 6 : Int) : Rat) := Rat.intCast_le_intCast.mpr (by omega)
    rw [Rat.intCast_mul] at this
    rw [h6] at this ⊢
    grind
  refine ⟨ks, dv, e, by omega, by rw [perm.length_eq]; omega, fun a ha => (hdv a ha).1, ⟨by rw [List.length_map, perm.length_eq]; omega, .inr (by decide), by decide, fun x hx => (each x hx).1, fun x hx => (each x hx).2.1, fun x hx => (each x hx).2.2.1, fun x hx => (each x hx).2.2.2.1, fun x hx => (each x hx).2.2.2.2, ?_⟩, fun x hx => ?_⟩
  · rw [List.pairwise_map]
    refine (srt.and nd2).imp fun {a b} ⟨h1, h2⟩ => ?_
    show (a : Rat) / ((6 : Int) : Rat) < (b : Rat) / ((6 : Int) : Rat)
    have h3 : (a : Rat) < (b : Rat) := Rat.intCast_lt_intCast.mpr (by omega)
    have h6 : ((6 : Int) : Rat) = 6 := rfl
    rw [h6]
    grind
  · obtain ⟨a, ha, rfl⟩ := List.mem_map.mp hx
    obtain ⟨_, g0, g1, g2, g3⟩ := hdv a ha
    exact ⟨sz_200 (by omega) (by decide) (by decide), g3⟩
theorem leaks_body (q : Q3) (ls : List Len) [h : LsOk ls] : ∃ (i : Int) (d : Rat) (q' : Q3), 0 ≤ i ∧ i ≤ 6 * allSteps ls ∧ 0 < d ∧ Bd d 200 ∧ ∀ (n : Nat) (S : Store) (p : Nat) (b : Rat) (x2 x4 x5 : Option D) (kvs : KV), p < S.length → kvs.length < 900 →
    run (evF P (n + 2)) (cb_law_leaks_2_1 (Lib.ix P)) [some (.ref p), some (.tup [.tup (ls.map enL), fr b]), x2, some (.ref S.length), x4, x5] (Sq (S ++ [.dk kvs]) p q) = .nx [some (.ref p), some (.tup [.tup (ls.map enL), fr b]), x2, some (.ref S.length), x4, x5] (Sq (S ++ [.dk (putD kvs (.inl i) (fr d))]) p q') := by
  have r1 := pkR_nonneg (m := 60) (q := q) (by decide)
  have u1 := pkR_lt (m := 60) (q := q) (by decide)
  obtain ⟨b, hb, s2⟩ := pk4 (l := [1, 1, 2, 7]) (q := pkQ 60 q) (m := 4) rfl (by decide)
  have bb : 0 < b ∧ b ≤ 7 := by simp at hb; omega
  obtain ⟨r3, q3, l3, u3, e3⟩ := ex_sixths (P := P) (pkQ 4 (pkQ 60 q)) ls
  refine ⟨r3, ((1 + pkR 60 q : Int) : Rat) / (b : Rat), q3, l3, u3, div_pos' (a := 1 + pkR 60 q) (by omega) bb.1, sz_200 (a := 1 + pkR 60 q) (by omega) bb.1 (by omega), fun n S p bk x2 x4 x5 kvs hp hl => ?_⟩
  have hp1 : p < S.length + 1 := by omega
  have b0 : b ≠ 0 := by omega
  have hp' := len_hi hp (.dk kvs)
  have e := ev_law_low (P := P) (n := n + 1) (S := Sq (S ++ [.dk kvs]) p (pkQ 4 (pkQ 60 q))) (a := 1 + pkR 60 q) (b := b) b0
  have e5 := setD_Sq (q := q3) (i := r3) (v := fr (((1 + pkR 60 q : Int) : Rat) / (b : Rat))) (kvs := kvs) hp (by omega)
  have e6 := e3 n (S ++ [.dk kvs]) p bk hp'
  simp only [List.map_cons, List.map_nil] at s2
  simp [cb_law_leaks_2_1, hp1, s2, e, -ev_law_low, e6]
  simp at e5
  simp [e5]
theorem leaks_loop (ls : List Len) [h : LsOk ls] : ∀ (items : List D) (q : Q3) (kvs : KV), kvs.length + items.length < 900 → DkOk (allSteps ls) kvs → ∃ (ys : KV) (q' : Q3), DkOk (allSteps ls) ys ∧ ys.length ≤ kvs.length + items.length ∧
    ∀ (n : Nat) (S : Store) (p : Nat) (b : Rat) (w : List D) (x2 x4 x5 : Option D), p < S.length → ∃ y4, forEv (run (evF P (n + 2)) (cb_law_leaks_2_1 (Lib.ix P))) (.nm 4) (.fix w) items [some (.ref p), some (.tup [.tup (ls.map enL), fr b]), x2, some (.ref S.length), x4, x5] (Sq (S ++ [.dk kvs]) p q) = .nx [some (.ref p), some (.tup [.tup (ls.map enL), fr b]), x2, some (.ref S.length), y4, x5] (Sq (S ++ [.dk ys]) p q')
  | [], q, kvs, hl, ok => ⟨kvs, q, ok, by simp, fun n S p b w x2 x4 x5 hp => ⟨x4, by simp [forEv, at_fix]⟩⟩
  | d :: items, q, kvs, hl, ok => by
    simp only [List.length_cons] at hl
    obtain ⟨i, v, q1, i0, i1, v0, vs, e1⟩ := leaks_body (P := P) q ls
    obtain ⟨ok2, l2⟩ := ok.put i0 i1 v0 vs
    obtain ⟨ys, q2, ok3, l3, e2⟩ := leaks_loop ls items q1 _ (by omega) ok2
    refine ⟨ys, q2, ok3, by simp; omega, fun n S p b w x2 x4 x5 hp => ?_⟩
    obtain ⟨y4, e3⟩ := e2 n S p b w x2 (some d) x5 hp
    refine ⟨y4, ?_⟩
    simp only [forEv, at_fix, if_true, stepT_nm, List.length_cons, List.length_nil, Nat.reduceAdd, Nat.reduceLT, List.set_cons_succ, List.set_cons_zero, e1 n S p b x2 (some d) x5 kvs hp (by omega)]
    exact e3
theorem ex_leaks (q : Q3) (ls : List Len) [h : LsOk ls] {c : Int} (h0 : 0 ≤ c) (h1 : c ≤ 6) : ∃ (xs : List Leak) (q' : Q3), KsOk ls xs ∧ (xs.length : Int) ≤ c ∧ (∀ x ∈ xs, Bd x.1 200 ∧ Bd x.2 200) ∧ ∀ n S p b, p < S.length → evF P (n + 3) (f_law_leaks_2 P) [.ref p, .tup [.tup (ls.map enL), fr b], .int c] (Sq S p q) = .ok (.tup (xs.map enK)) (Sq S p q') := by
  have hst := steps_pos h.len
  have hhi := h.hi
  have r0 := pkR_nonneg (m := c + 1) (q := q) (by omega)
  have u0 := pkR_lt (m := c + 1) (q := q) (by omega)
  obtain ⟨kvs, q2, ok, hl, e1⟩ := leaks_loop (P := P) ls (rngD 0 (pkR (c + 1) q)) (pkQ (c + 1) q) [] (by simp [rng_len]; omega) ⟨by simp, by simp⟩
  simp only [rng_len, List.length_nil] at hl
  obtain ⟨ks, dv, k1, k2, k3, k4, k5, k6⟩ := dk_leaks ok ls rfl hst.1 (by omega) (by omega)
  have hlen : ((sortI ks).map fun a : Int => ((a : Rat) / ((6 : Int) : Rat), dv a)).length = (sortI ks).length := List.length_map _
  have e0 : ((sortI ks).map fun a : Int => enK ((a : Rat) / ((6 : Int) : Rat), dv a)) = ((sortI ks).map fun a : Int => ((a : Rat) / ((6 : Int) : Rat), dv a)).map enK := by rw [List.map_map]; rfl
  have ev : ∀ n S p b y4, p < S.length → compEv (ev (evF P (n + 2)) (.tup (.cons (.call (Lib.ix P 21) (.cons (.var 5) (.cons (.con (.int 6)) .nil))) (.cons (.idx (.var 3) (.var 5)) .nil)))) (ev (evF P (n + 2)) (.con (.bl true))) (.nm 5) (.fix ((sortI ks).map D.int)) [some (.ref p), some (.tup [.tup (ls.map enL), fr b]), some (.int c), some (.ref S.length), y4, none] [5] ((sortI ks).map D.int) [] (Sq (S ++ [.dk kvs]) p q2) = .ok (((sortI ks).map fun a : Int => ((a : Rat) / ((6 : Int) : Rat), dv a)).map enK) (Sq (S ++ [.dk kvs]) p q2) := fun n S p b y4 hp => by
    rw [comp_map D.int (fun a : Int => enK ((a : Rat) / ((6 : Int) : Rat), dv a)) (sortI ks) [] (by simp; omega) (fun a ha => by
      have e' := idxD_Sq (q := q2) (kvs := kvs) (i := a) hp
      rw [k4 a ha] at e'
      simp [wipeD, e', enK])]
    rw [List.nil_append, e0]
  generalize ((sortI ks).map fun a : Int => ((a : Rat) / ((6 : Int) : Rat), dv a)) = ys at *
  refine ⟨ys, q2, k5, by omega, k6, fun n S p b hp => ?_⟩
  rw [evF_at (p_law_leaks_2 P) rfl rfl]
  obtain ⟨y4, e2⟩ := e1 n S p b (rngD 0 (pkR (c + 1) q)) (some (.int c)) none none hp
  have hp1 : p < S.length + 1 := by omega
  have c0 : 0 < c + 1 := by omega
  have s1 : small62 0 := ⟨by decide, by decide⟩
  have s2 : small62 (pkR (c + 1) q) := ⟨by omega, by omega⟩
  have hso := sorted_Sq (q := q2) hp k1 k2
  have ec := ev n S p b y4 hp
  simp [cf_law_leaks_2, Sq_app hp, hp1, c0, s1, s2, e2, hso, ec]
  exact gc_sq (S := S) (q := q) (T := [.dk kvs]) (q' := q2) hp (by simp [noref, norefK])
end
end Z

/-! X, part J: a law's program made wider; a law's loop. -/
namespace Z
open PySem
def callsE (M : Nat) : CE → Bool
  | .cons a b => callsE M a && callsE M b
  | .one a => callsE M a
  | .tup a => callsE M a
  | .lst a => callsE M a
  | .mlst a => callsE M a
  | .bin _ a b => callsE M a && callsE M b
  | .neg a => callsE M a
  | .cmp _ a b => callsE M a && callsE M b
  | .chain _ _ a b c => callsE M a && (callsE M b && callsE M c)
  | .not a => callsE M a
  | .and a b => callsE M a && callsE M b
  | .or a b => callsE M a && callsE M b
  | .ife a b c => callsE M a && (callsE M b && callsE M c)
  | .idx a b => callsE M a && callsE M b
  | .sl a b c => callsE M a && (callsE M b && callsE M c)
  | .rev a => callsE M a
  | .call f a => decide (f < M) && callsE M a
  | .blt _ a => callsE M a
  | .isi a _ => callsE M a
  | .mth _ a b => callsE M a && callsE M b
  | .rng a b => callsE M a && callsE M b
  | .rgl a b => callsE M a && callsE M b
  | .setd a b c => callsE M a && callsE M b && callsE M c
  | .comp a _ b c _ _ => callsE M a && (callsE M b && callsE M c)
  | _ => true
def callsS (M : Nat) : CS → Bool
  | .seq a b => callsS M a && callsS M b
  | .expr e => callsE M e
  | .ret e => callsE M e
  | .asg _ e => callsE M e
  | .set a b c => callsE M a && (callsE M b && callsE M c)
  | .ife c a b => callsE M c && (callsS M a && callsS M b)
  | .whl c b => callsE M c && callsS M b
  | .fr _ i b => callsE M i && callsS M b
  | .rais _ a => callsE M a
  | .tr b _ _ h => callsS M b && callsS M h
  | _ => true
structure Same (F F' : Fn) (e : CE) : Prop where
  v : ev F e = ev F' e
  vs : evs F e = evs F' e
  i : evI F e = evI F' e
  o : evo F e = evo F' e
section
variable {F F' : Fn} {M : Nat}
theorem same_of (hF : ∀ f, f < M → F f = F' f) : ∀ e : CE, callsE M e = true → Same F F' e := fun e => by
  induction e with
  | call f a ih =>
    intro h
    simp only [callsE, Bool.and_eq_true, decide_eq_true_eq] at h
    have i := ih h.2
    constructor <;> funext δ S <;> simp [ev, evs, evI, evo, i.vs, hF f h.1]
  | comp a t b c o m ih1 ih2 ih3 =>
    intro h
    simp only [callsE, Bool.and_eq_true] at h
    have i1 := ih1 h.1
    have i2 := ih2 h.2.1
    have i3 := ih3 h.2.2
    constructor <;> funext δ S <;> simp [ev, evs, evI, evo, i1.v, i2.i, i3.v]
  | cons a b ih1 ih2 =>
    intro h
    simp only [callsE, Bool.and_eq_true] at h
    have i1 := ih1 h.1
    have i2 := ih2 h.2
    constructor <;> funext δ S <;> simp [ev, evs, evI, evo, i1.v, i2.vs]
  | one a ih => intro h; have i := ih (by simpa [callsE] using h); constructor <;> funext δ S <;> simp [ev, evs, evI, evo, i.v]
  | tup a ih => intro h; have i := ih (by simpa [callsE] using h); constructor <;> funext δ S <;> simp [ev, evs, evI, evo, i.vs]
  | lst a ih => intro h; have i := ih (by simpa [callsE] using h); constructor <;> funext δ S <;> simp [ev, evs, evI, evo, i.vs]
  | mlst a ih => intro h; have i := ih (by simpa [callsE] using h); constructor <;> funext δ S <;> simp [ev, evs, evI, evo, i.vs]
  | neg a ih => intro h; have i := ih (by simpa [callsE] using h); constructor <;> funext δ S <;> simp [ev, evs, evI, evo, i.v]
  | not a ih => intro h; have i := ih (by simpa [callsE] using h); constructor <;> funext δ S <;> simp [ev, evs, evI, evo, i.v]
  | rev a ih => intro h; have i := ih (by simpa [callsE] using h); constructor <;> funext δ S <;> simp [ev, evs, evI, evo, i.v]
  | isi a t ih => intro h; have i := ih (by simpa [callsE] using h); constructor <;> funext δ S <;> simp [ev, evs, evI, evo, i.v]
  | blt b a ih => intro h; have i := ih (by simpa [callsE] using h); constructor <;> funext δ S <;> simp [ev, evs, evI, evo, i.vs]
  | setd a b c ih1 ih2 ih3 => intro h; simp only [callsE, Bool.and_eq_true] at h; have i1 := ih1 h.1.1; have i2 := ih2 h.1.2; have i3 := ih3 h.2; constructor <;> funext δ S <;> simp [ev, evs, evI, evo, i1.v, i2.v, i3.v]
  | rgl a b ih1 ih2 => intro h; simp only [callsE, Bool.and_eq_true] at h; have i1 := ih1 h.1; have i2 := ih2 h.2; constructor <;> funext δ S <;> simp [ev, evs, evI, evo, i1.v, i2.v]
  | bin op a b ih1 ih2 => intro h; simp only [callsE, Bool.and_eq_true] at h; have i1 := ih1 h.1; have i2 := ih2 h.2; constructor <;> funext δ S <;> simp [ev, evs, evI, evo, i1.v, i2.v]
  | cmp op a b ih1 ih2 => intro h; simp only [callsE, Bool.and_eq_true] at h; have i1 := ih1 h.1; have i2 := ih2 h.2; constructor <;> funext δ S <;> simp [ev, evs, evI, evo, i1.v, i2.v]
  | and a b ih1 ih2 => intro h; simp only [callsE, Bool.and_eq_true] at h; have i1 := ih1 h.1; have i2 := ih2 h.2; constructor <;> funext δ S <;> simp [ev, evs, evI, evo, i1.v, i2.v]
  | or a b ih1 ih2 => intro h; simp only [callsE, Bool.and_eq_true] at h; have i1 := ih1 h.1; have i2 := ih2 h.2; constructor <;> funext δ S <;> simp [ev, evs, evI, evo, i1.v, i2.v]
  | idx a b ih1 ih2 => intro h; simp only [callsE, Bool.and_eq_true] at h; have i1 := ih1 h.1; have i2 := ih2 h.2; constructor <;> funext δ S <;> simp [ev, evs, evI, evo, i1.v, i2.v]
  | mth m a b ih1 ih2 => intro h; simp only [callsE, Bool.and_eq_true] at h; have i1 := ih1 h.1; have i2 := ih2 h.2; constructor <;> funext δ S <;> simp [ev, evs, evI, evo, i1.v, i2.vs]
  | rng a b ih1 ih2 => intro h; simp only [callsE, Bool.and_eq_true] at h; have i1 := ih1 h.1; have i2 := ih2 h.2; constructor <;> funext δ S <;> simp [ev, evs, evI, evo, i1.v, i2.v]
  | chain o1 o2 a b c ih1 ih2 ih3 => intro h; simp only [callsE, Bool.and_eq_true] at h; have i1 := ih1 h.1; have i2 := ih2 h.2.1; have i3 := ih3 h.2.2; constructor <;> funext δ S <;> simp [ev, evs, evI, evo, i1.v, i2.v, i3.v]
  | ife a b c ih1 ih2 ih3 => intro h; simp only [callsE, Bool.and_eq_true] at h; have i1 := ih1 h.1; have i2 := ih2 h.2.1; have i3 := ih3 h.2.2; constructor <;> funext δ S <;> simp [ev, evs, evI, evo, i1.v, i2.v, i3.v]
  | sl a b c ih1 ih2 ih3 => intro h; simp only [callsE, Bool.and_eq_true] at h; have i1 := ih1 h.1; have i2 := ih2 h.2.1; have i3 := ih3 h.2.2; constructor <;> funext δ S <;> simp [ev, evs, evI, evo, i1.v, i2.o, i3.o]
  | _ => intro h; constructor <;> funext δ S <;> simp [ev, evs, evI, evo]
theorem same_run (hF : ∀ f, f < M → F f = F' f) : ∀ s : CS, callsS M s = true → run F s = run F' s := fun s => by
  induction s with
  | seq a b ih1 ih2 => intro h; simp only [callsS, Bool.and_eq_true] at h; funext δ S; simp only [run, ih1 h.1, ih2 h.2]
  | expr e => intro h; have i := same_of hF e (by simpa [callsS] using h); funext δ S; simp only [run, i.v]
  | ret e => intro h; have i := same_of hF e (by simpa [callsS] using h); funext δ S; simp only [run, i.v]
  | asg t e => intro h; have i := same_of hF e (by simpa [callsS] using h); funext δ S; simp only [run, i.v]
  | set a b c => intro h; simp only [callsS, Bool.and_eq_true] at h; have i1 := same_of hF a h.1; have i2 := same_of hF b h.2.1; have i3 := same_of hF c h.2.2; funext δ S; simp only [run, i1.v, i2.v, i3.v]
  | ife c a b ih1 ih2 => intro h; simp only [callsS, Bool.and_eq_true] at h; have i1 := same_of hF c h.1; funext δ S; simp only [run, i1.v, ih1 h.2.1, ih2 h.2.2]
  | whl c b ih => intro h; simp only [callsS, Bool.and_eq_true] at h; have i1 := same_of hF c h.1; funext δ S; simp only [run, i1.v, ih h.2]
  | fr t i b ih => intro h; simp only [callsS, Bool.and_eq_true] at h; have i1 := same_of hF i h.1; funext δ S; simp only [run, i1.i, ih h.2]
  | rais c a => intro h; have i := same_of hF a (by simpa [callsS] using h); funext δ S; simp only [run, i.v]
  | tr b c i h ih1 ih2 => intro hh; simp only [callsS, Bool.and_eq_true] at hh; funext δ S; simp only [run, ih1 hh.1, ih2 hh.2]
  | _ => intro h; funext δ S; simp only [run]
end
/-- a wider program answers as the narrower one -/
theorem evF_wide {P P' : Nat → Option CF} {M : Nat} (h : ∀ i, i < M → P i = P' i) (hc : ∀ i cf, i < M → P i = some cf → callsS M cf.body = true) : ∀ (n f : Nat), f < M → evF P n f = evF P' n f
  | 0, f, hf => by funext ds S; simp only [evF]
  | n + 1, f, hf => by
    have ih := evF_wide h hc n
    funext ds S
    simp only [evF, ← h f hf]
    cases e : P f with
    | none => rfl
    | some cf => simp only [same_run ih cf.body (hc f cf hf e)]
def progW (L : Lw) (ext : List CF) (i : Nat) : Option CF := if i < L.defs.length then L.prog i else ext[i - L.defs.length]?
def closedB (L : Lw) : Bool := (List.range L.defs.length).all fun i => match L.prog i with
  | some cf => callsS L.defs.length cf.body
  | none => true
theorem evF_progW {L : Lw} {ext : List CF} (hc : closedB L = true) {n f : Nat} (hf : f < L.defs.length) : evF L.prog n f = evF (progW L ext) n f :=
  evF_wide (fun i hi => by unfold progW; rw [if_pos hi]) (fun i cf hi e => by
    have := List.all_eq_true.mp hc i (List.mem_range.mpr hi)
    rw [e] at this
    exact this) n f hf
theorem tab_of {P : Nat → Option CF} {ix : Nat → Nat} {l : List (Nat × CF)} (h : (l.map fun x => P (ix x.1)) = l.map fun x => some x.2) : ∀ x ∈ l, P (ix x.1) = some x.2 := fun x hx => (List.map_inj_left.mp h) x hx
/-- a law's loop over its cells: it goes on to the end -/
theorem law_loop {F : Fn} {body : CS} {scr : D} {N : Nat} {w : List D} (h : ∀ (i : Int) (t : List (Option D)) (S : Store), 0 ≤ i → i < 64 → t.length = N → ∃ t' S', run F body (some scr :: some (.int i) :: t) S = .nx (some scr :: t') S' ∧ t'.length = N + 1) :
    ∀ (items : List Int) (x : Option D) (t : List (Option D)) (S : Store), (∀ i ∈ items, 0 ≤ i ∧ i < 64) → t.length = N → ∃ t' S', forEv (run F body) (.nm 1) (.fix w) (items.map D.int) (some scr :: x :: t) S = .nx (some scr :: t') S' ∧ t'.length = N + 1
  | [], x, t, S, _, ht => ⟨x :: t, S, by simp [forEv, at_fix], by simp [ht]⟩
  | i :: items, x, t, S, hi, ht => by
    obtain ⟨t1, S1, e1, l1⟩ := h i t S (hi i List.mem_cons_self).1 (hi i List.mem_cons_self).2 ht
    cases t1 with
    | nil => simp at l1
    | cons y t1 =>
      simp at l1
      obtain ⟨t2, S2, e2, l2⟩ := law_loop h items y t1 S1 (fun j hj => hi j (List.mem_cons_of_mem _ hj)) l1
      refine ⟨t2, S2, ?_, l2⟩
      rw [List.map_cons]
      unfold forEv
      rw [if_pos at_fix']
      simp only [stepT_nm, List.length_cons, List.set_cons_succ, List.set_cons_zero]
      rw [if_pos (by omega)]
      simp only [e1]
      exact e2
theorem gc_ex (S0 S' : Store) (d : D) : ∃ S, gc S0 (.ok d S') = .ok d S := by
  by_cases h : Keep S0 S' ∧ noref d = true
  · exact ⟨S'.take S0.length, by simp only [gc, if_pos h]⟩
  · exact ⟨S', by simp only [gc, if_neg h]⟩
theorem rngD_ints (c : Int) : rngD 0 c = ((List.range c.toNat).map fun k : Nat => (k : Int)).map D.int := by
  unfold rngD
  rw [List.map_map]
  simp
/-- a law that goes over cells and then says yes -/
theorem law_good {P : Nat → Option CF} {n f N : Nat} {E : CE} {body : CS} {scr : D} (h : P f = some ⟨1, N + 2, .seq (.fr (.nm 1) (.rng (.con (.int 0)) E) body) (.ret (.con (.bl true)))⟩) (c : Int) (h0 : 0 ≤ c) (h1 : c < 64)
    (hE : ev (evF P n) E (some scr :: List.replicate (N + 1) none) [] = .ok (.int c) [])
    (step : ∀ (i : Int) (t : List (Option D)) (S : Store), 0 ≤ i → i < 64 → t.length = N → ∃ t' S', run (evF P n) body (some scr :: some (.int i) :: t) S = .nx (some scr :: t') S' ∧ t'.length = N + 1) :
    ∃ S, evF P (n + 1) f [scr] [] = .ok (.bl true) S := by
  rw [evF_at h rfl (by simp)]
  obtain ⟨t', S', e, lt⟩ := law_loop (w := rngD 0 c) step ((List.range c.toNat).map fun k : Nat => (k : Int)) none (List.replicate N none) [] (fun i hi => by
    obtain ⟨k, hk, rfl⟩ := List.mem_map.mp hi
    have := List.mem_range.mp hk
    omega) (by simp)
  rw [← rngD_ints] at e
  have s1 : small62 0 := ⟨by decide, by decide⟩
  have s2 : small62 c := ⟨by omega, by omega⟩
  obtain ⟨S, hS⟩ := gc_ex [] S' (.bl true)
  refine ⟨S, ?_⟩
  rw [← hS]
  congr 1
  have e0 : N + 2 - 1 = N + 1 := by omega
  have e1 : (some scr :: List.replicate (N + 1) none : Env) = some scr :: none :: List.replicate N none := rfl
  rw [e1] at hE
  simp only [e0, List.map_cons, List.map_nil, List.cons_append, List.nil_append, run_seq, run_fr, evI_rng, ev_con', R.bk_ok, List.replicate_succ, hE]
  rw [if_pos ⟨s1, s2⟩]
  simp only [R.sk_ok, items_fix, e, SR.bs_nx, run_ret, ev_con', out_rt]
end Z

/-! X, part K: stretches in order: a leak more, a lesser drag. -/
namespace Z
def Pos (q : Sn) : Prop := 0 ≤ q.1 ∧ 0 ≤ q.2.1 ∧ 0 < q.2.2
def OPos (o : Option Sn) : Prop := ∀ q, o = some q → Pos q
/-- what flows: drag by squares -/
def quad (q : Sn) (x y : Rat) : Rat := q.1 * (x * x) + q.2.1 * (y * y) + q.2.2 * ((x + y) * (x + y))
/-- the one stretch presses no more than the other, both of this drag -/
def Le (d : Rat) : Option Sn → Option Sn → Prop
  | none, none => True
  | some a, none => a.1 + a.2.1 ≤ d
  | none, some _ => False
  | some a, some b => ∀ x y, quad a x y ≤ quad b x y
def leakO (d g : Rat) (o : Option Sn) : Option Sn := joinO d 0 o (some (0, 0, g))
def wireO (l : Rat) (o : Option Sn) : Option Sn := joinO 0 l o none
theorem wireO_some (l : Rat) (q : Sn) : wireO l (some q) = some (q.1, q.2.1 + l, q.2.2) := rfl
theorem wireO_none (l : Rat) : wireO l none = none := rfl
theorem join_wire (d l : Rat) (o : Option Sn) : join (d, o) (l, none) = (d + l, wireO l o) := by cases o <;> rfl
theorem join_leak (d g : Rat) (o : Option Sn) : join (d, o) (0, some (0, 0, g)) = (d, leakO d g o) := by
  unfold join leakO
  rw [Rat.add_zero]
theorem wire_wire (l k : Rat) (o : Option Sn) : wireO k (wireO l o) = wireO (l + k) o := by
  cases o with
  | none => rfl
  | some q => rw [wireO_some, wireO_some, wireO_some]; congr 3; grind
theorem sq_nonneg (x : Rat) : 0 ≤ x * x := by
  by_cases h : 0 ≤ x
  · exact Rat.mul_nonneg h h
  · have := Rat.mul_nonneg (show 0 ≤ -x by grind) (show 0 ≤ -x by grind)
    grind
theorem Le.wire {d l : Rat} {s t : Option Sn} (h : Le d s t) : Le (d + l) (wireO l s) (wireO l t) := by
  cases s with
  | none => cases t with
    | none => trivial
    | some b => exact h.elim
  | some a => cases t with
    | none =>
      have h : a.1 + a.2.1 ≤ d := h
      show a.1 + (a.2.1 + l) ≤ d + l
      grind
    | some b =>
      intro x y
      have := (show ∀ x y, quad a x y ≤ quad b x y from h) x y
      unfold quad at *
      show a.1 * (x * x) + (a.2.1 + l) * (y * y) + a.2.2 * ((x + y) * (x + y)) ≤ b.1 * (x * x) + (b.2.1 + l) * (y * y) + b.2.2 * ((x + y) * (x + y))
      grind
theorem bs_leak (q : Sn) (g : Rat) : bothSeen q (0, 0, g) = (q.1 + q.2.2 * q.2.1 / (q.2.2 + g + q.2.1), g * q.2.1 / (q.2.2 + g + q.2.1), q.2.2 * g / (q.2.2 + g + q.2.1)) := by
  unfold bothSeen
  simp only [Rat.add_zero, Rat.zero_add]
/-- the flow shared between what lies west and the leak: no way is cheaper -/
theorem leak_share {q : Sn} {g : Rat} (hq : Pos q) (hg : 0 < g) (x y u : Rat) : quad (bothSeen q (0, 0, g)) x y ≤ quad q x (y - u) + g * (u * u) := by
  obtain ⟨h1, h2, h3⟩ := hq
  rw [bs_leak]
  have r0 : 0 < q.2.2 + g + q.2.1 := by grind
  have rz : q.2.2 + g + q.2.1 ≠ 0 := ne_of_pos r0
  have key : quad q x (y - u) + g * (u * u) - quad (q.1 + q.2.2 * q.2.1 / (q.2.2 + g + q.2.1), g * q.2.1 / (q.2.2 + g + q.2.1), q.2.2 * g / (q.2.2 + g + q.2.1)) x y = (q.2.2 + g + q.2.1) * ((u - (q.2.2 * (x + y) + q.2.1 * y) / (q.2.2 + g + q.2.1)) * (u - (q.2.2 * (x + y) + q.2.1 * y) / (q.2.2 + g + q.2.1))) := by
    unfold quad
    simp only []
    generalize q.1 = w at *
    generalize q.2.1 = e at *
    generalize q.2.2 = f at *
    grind
  have := Rat.mul_nonneg (Rat.le_of_lt r0) (sq_nonneg (u - (q.2.2 * (x + y) + q.2.1 * y) / (q.2.2 + g + q.2.1)))
  grind
theorem leak_best {q : Sn} {g : Rat} (hq : Pos q) (hg : 0 < g) (x y : Rat) : ∃ u, quad (bothSeen q (0, 0, g)) x y = quad q x (y - u) + g * (u * u) := by
  obtain ⟨h1, h2, h3⟩ := hq
  rw [bs_leak]
  have r0 : 0 < q.2.2 + g + q.2.1 := by grind
  have rz : q.2.2 + g + q.2.1 ≠ 0 := ne_of_pos r0
  refine ⟨(q.2.2 * (x + y) + q.2.1 * y) / (q.2.2 + g + q.2.1), ?_⟩
  unfold quad
  simp only []
  generalize q.1 = w at *
  generalize q.2.1 = e at *
  generalize q.2.2 = f at *
  grind
theorem leakO_none (d g : Rat) : leakO d g none = some (0 + d, 0, g) := rfl
theorem leakO_some (d g : Rat) (q : Sn) : leakO d g (some q) = some (bothSeen q (0, 0, g)) := rfl
theorem Le.leak {d g g' : Rat} {s t : Option Sn} (hs : OPos s) (ht : OPos t) (hg : 0 < g') (hgg : g' ≤ g) (h : Le d s t) : Le d (leakO d g' s) (leakO d g t) := by
  have gu : ∀ u : Rat, g' * (u * u) ≤ g * (u * u) := fun u => Rat.mul_le_mul_of_nonneg_right hgg (sq_nonneg u)
  cases s with
  | none =>
    cases t with
    | none =>
      intro x y
      have := gu (x + y)
      unfold quad
      show (0 + d) * (x * x) + 0 * (y * y) + g' * ((x + y) * (x + y)) ≤ (0 + d) * (x * x) + 0 * (y * y) + g * ((x + y) * (x + y))
      grind
    | some b => exact h.elim
  | some a =>
    have pa := hs a rfl
    cases t with
    | none =>
      have h : a.1 + a.2.1 ≤ d := h
      intro x y
      have k := leak_share pa hg x y (x + y)
      have := gu (x + y)
      have h2 := Rat.mul_le_mul_of_nonneg_right h (sq_nonneg x)
      have e : quad a x (y - (x + y)) = (a.1 + a.2.1) * (x * x) := by unfold quad; grind
      have e2 : quad (0 + d, 0, g) x y = d * (x * x) + g * ((x + y) * (x + y)) := by unfold quad; grind
      show quad (bothSeen a (0, 0, g')) x y ≤ quad (0 + d, 0, g) x y
      rw [e2]
      grind
    | some b =>
      have pb := ht b rfl
      have h : ∀ x y, quad a x y ≤ quad b x y := h
      intro x y
      obtain ⟨u, eu⟩ := leak_best pb (show 0 < g by grind) x y
      have k := leak_share pa hg x y u
      have := gu u
      have := h x (y - u)
      show quad (bothSeen a (0, 0, g')) x y ≤ quad (bothSeen b (0, 0, g)) x y
      rw [eu]
      grind
/-- a leak more, just here -/
theorem Le.more {d g : Rat} {s : Option Sn} (hs : OPos s) (hd : 0 ≤ d) (hg : 0 < g) : Le d (leakO d g s) s := by
  cases s with
  | none =>
    show (0 + d) + 0 ≤ d
    grind
  | some a =>
    intro x y
    have k := leak_share (hs a rfl) hg x y 0
    have e : quad a x (y - 0) + g * (0 * 0) = quad a x y := by
      have : y - 0 = y := by grind
      rw [this]
      grind
    rw [e] at k
    exact k
theorem Le.refl (d : Rat) (s : Option Sn) : Le d s s := by
  cases s with
  | none => trivial
  | some a => exact fun x y => Rat.le_refl
theorem OPos.wire {l : Rat} {o : Option Sn} (h : OPos o) (hl : 0 ≤ l) : OPos (wireO l o) := by
  cases o with
  | none => exact fun q hq => by cases hq
  | some a =>
    intro q hq
    cases hq
    obtain ⟨h1, h2, h3⟩ := h a rfl
    exact ⟨h1, by show 0 ≤ a.2.1 + l; grind, h3⟩
theorem OPos.leak {d g : Rat} {o : Option Sn} (h : OPos o) (hd : 0 ≤ d) (hg : 0 < g) : OPos (leakO d g o) := by
  cases o with
  | none =>
    intro q hq
    cases hq
    exact ⟨by show 0 ≤ 0 + d; grind, Rat.le_refl, hg⟩
  | some a =>
    intro q hq
    cases hq
    obtain ⟨h1, h2, h3⟩ := h a rfl
    have r0 : 0 < a.2.2 + g + a.2.1 := by grind
    rw [bs_leak]
    refine ⟨?_, div_nonneg (Rat.mul_nonneg (Rat.le_of_lt hg) h2) r0, div_pos (Rat.mul_pos h3 hg) r0⟩
    have := div_nonneg (Rat.mul_nonneg (Rat.le_of_lt h3) h2) r0
    show 0 ≤ a.1 + a.2.2 * a.2.1 / (a.2.2 + g + a.2.1)
    grind
/-! readings -/
def LeQ : Option Rat → Option Rat → Prop
  | _, none => True
  | none, some _ => False
  | some a, some b => a ≤ b
theorem besides {f e : Rat} (hf : 0 < f) (he : 0 ≤ e) (w : Rat) (y : Rat) : w + besideOf f e ≤ w * (1 * 1) + e * (y * y) + f * ((1 + y) * (1 + y)) := by
  have r0 : 0 < f + e := by grind
  have rz := ne_of_pos r0
  have key : w * (1 * 1) + e * (y * y) + f * ((1 + y) * (1 + y)) - (w + besideOf f e) = (f + e) * ((y + f / (f + e)) * (y + f / (f + e))) := by
    unfold besideOf
    grind
  have := Rat.mul_nonneg (Rat.le_of_lt r0) (sq_nonneg (y + f / (f + e)))
  grind
theorem beside_at {f e : Rat} (hf : 0 < f) (he : 0 ≤ e) (w : Rat) : ∃ y : Rat, w + besideOf f e = w * (1 * 1) + e * (y * y) + f * ((1 + y) * (1 + y)) := by
  have r0 : 0 < f + e := by grind
  have rz := ne_of_pos r0
  refine ⟨-(f / (f + e)), ?_⟩
  unfold besideOf
  grind
theorem Le.reads {d back : Rat} {s t : Option Sn} (hs : OPos s) (ht : OPos t) (h : Le d s t) (k : Nat) : LeQ (readingOf k (d, s) back) (readingOf k (d, t) back) := by
  cases s with
  | none => cases t with
    | none => rcases k with _ | _ | _ | _ | k <;> first | trivial | exact Rat.le_refl
    | some b => exact h.elim
  | some a =>
    obtain ⟨a1, a2, a3⟩ := hs a rfl
    cases t with
    | none =>
      have h : a.1 + a.2.1 ≤ d := h
      rcases k with _ | _ | _ | _ | k
      · trivial
      · trivial
      · have := besides a3 a2 a.1 (-1)
        show a.1 + besideOf a.2.2 a.2.1 ≤ d
        grind
      · have := besides a3 a1 a.2.1 (-1)
        show a.2.1 + besideOf a.2.2 a.1 ≤ d
        grind
      · show back + (a.1 + a.2.1) ≤ back + d
        grind
    | some b =>
      obtain ⟨b1, b2, b3⟩ := ht b rfl
      have h : ∀ x y, quad a x y ≤ quad b x y := h
      rcases k with _ | _ | _ | _ | k
      · have := h 1 0
        unfold quad at this
        show a.1 + a.2.2 ≤ b.1 + b.2.2
        grind
      · have := h 0 1
        unfold quad at this
        show a.2.1 + a.2.2 ≤ b.2.1 + b.2.2
        grind
      · obtain ⟨y, hy⟩ := beside_at b3 b2 b.1
        have k1 := besides a3 a2 a.1 y
        have k2 := h 1 y
        unfold quad at k2
        show a.1 + besideOf a.2.2 a.2.1 ≤ b.1 + besideOf b.2.2 b.2.1
        rw [hy]
        grind
      · obtain ⟨y, hy⟩ := beside_at b3 b1 b.2.1
        have k1 := besides a3 a1 a.2.1 y
        have k2 := h y 1
        unfold quad at k2
        show a.2.1 + besideOf a.2.2 a.1 ≤ b.2.1 + besideOf b.2.2 b.1
        rw [hy]
        grind
      · have := h 1 (-1)
        unfold quad at this
        show back + (a.1 + a.2.1) ≤ back + (b.1 + b.2.1)
        grind
/-! the walk along a cable -/
/-- the two walks: the one just here, the other perhaps some way behind -/
structure Beh (s t : Stretch × Rat) : Prop where
  ds : s.1.1 = s.2
  dt : t.1.1 = t.2
  hs : OPos s.1.2
  ht : OPos t.1.2
  le : t.2 ≤ s.2
  n0 : 0 ≤ t.2
  le2 : Le s.2 s.1.2 (wireO (s.2 - t.2) t.1.2)
theorem stStep_eq (ls : List Len) (s : Stretch × Rat) (x : Leak) (h : s.1.1 = s.2) : stStep ls s x = ((dragAt ls x.1, leakO (dragAt ls x.1) x.2 (wireO (dragAt ls x.1 - s.2) s.1.2)), dragAt ls x.1) := by
  obtain ⟨⟨d, o⟩, h'⟩ := s
  have h : d = h' := h
  subst h
  unfold stStep
  simp only []
  rw [join_wire, join_leak]
  have : d + (dragAt ls x.1 - d) = dragAt ls x.1 := by grind
  rw [this]
theorem Beh.step {ls : List Len} {s t : Stretch × Rat} (B : Beh s t) {x y : Leak} (hxy : x.1 = y.1) (hg : 0 < x.2) (hgg : x.2 ≤ y.2) (hx : s.2 ≤ dragAt ls x.1) : Beh (stStep ls s x) (stStep ls t y) := by
  rw [stStep_eq ls s x B.ds, stStep_eq ls t y B.dt, ← hxy]
  have n0 := B.n0
  have le := B.le
  have e1 := B.hs.wire (l := dragAt ls x.1 - s.2) (by grind)
  have e2 := B.ht.wire (l := dragAt ls x.1 - t.2) (by grind)
  refine ⟨rfl, rfl, e1.leak (by grind) hg, e2.leak (by grind) (by grind), Rat.le_refl, by show 0 ≤ dragAt ls x.1; grind, ?_⟩
  have l1 := B.le2.wire (l := dragAt ls x.1 - s.2)
  rw [wire_wire] at l1
  have a1 : s.2 + (dragAt ls x.1 - s.2) = dragAt ls x.1 := by grind
  have a2 : s.2 - t.2 + (dragAt ls x.1 - s.2) = dragAt ls x.1 - t.2 := by grind
  rw [a1, a2] at l1
  have l2 := l1.leak e1 e2 hg hgg
  show Le (dragAt ls x.1) (leakO _ x.2 _) (wireO (dragAt ls x.1 - dragAt ls x.1) (leakO _ y.2 _))
  have a3 : dragAt ls x.1 - dragAt ls x.1 = 0 := by grind
  rw [a3]
  have w0 : ∀ o : Option Sn, wireO 0 o = o := fun o => by
    cases o with
    | none => rfl
    | some q => rw [wireO_some, Rat.add_zero]
  rw [w0]
  exact l2
/-- a leak that only the one has -/
theorem Beh.more {ls : List Len} {s t : Stretch × Rat} (B : Beh s t) {x : Leak} (hg : 0 < x.2) (hx : s.2 ≤ dragAt ls x.1) : Beh (stStep ls s x) t := by
  rw [stStep_eq ls s x B.ds]
  have n0 := B.n0
  have le := B.le
  have e1 := B.hs.wire (l := dragAt ls x.1 - s.2) (by grind)
  have e2 := B.ht.wire (l := dragAt ls x.1 - t.2) (by grind)
  refine ⟨rfl, B.dt, e1.leak (by grind) hg, B.ht, by show t.2 ≤ dragAt ls x.1; grind, B.n0, ?_⟩
  have l1 := B.le2.wire (l := dragAt ls x.1 - s.2)
  rw [wire_wire] at l1
  have a1 : s.2 + (dragAt ls x.1 - s.2) = dragAt ls x.1 := by grind
  have a2 : s.2 - t.2 + (dragAt ls x.1 - s.2) = dragAt ls x.1 - t.2 := by grind
  rw [a1, a2] at l1
  have l3 := Le.more e1 (d := dragAt ls x.1) (by grind) hg
  show Le (dragAt ls x.1) (leakO _ x.2 _) (wireO (dragAt ls x.1 - t.2) t.1.2)
  -- the two steps behind one another
  generalize wireO (dragAt ls x.1 - t.2) t.1.2 = T at *
  generalize wireO (dragAt ls x.1 - s.2) s.1.2 = A at *
  generalize leakO (dragAt ls x.1) x.2 A = B' at *
  cases B' with
  | none => cases A with
    | none => exact l1
    | some a => exact l3.elim
  | some b => cases A with
    | none => cases T with
      | none => exact l3
      | some t => exact l1.elim
    | some a => cases T with
      | none =>
        have l1 : a.1 + a.2.1 ≤ dragAt ls x.1 := l1
        have := (show ∀ x y, quad b x y ≤ quad a x y from l3) 1 (-1)
        unfold quad at this
        show b.1 + b.2.1 ≤ dragAt ls x.1
        grind
      | some t =>
        intro u v
        have h1 := (show ∀ x y, quad b x y ≤ quad a x y from l3) u v
        have h2 := (show ∀ x y, quad a x y ≤ quad t x y from l1) u v
        exact Rat.le_trans h1 h2
theorem Beh.init : Beh ((0, none), 0) ((0, none), 0) := ⟨rfl, rfl, fun q h => (by cases h), fun q h => (by cases h), Rat.le_refl, Rat.le_refl, trivial⟩
/-- places that grow, from here on -/
def Up (ls : List Len) (h : Rat) : List Leak → Prop
  | [] => h ≤ allDrag ls
  | x :: xs => h ≤ dragAt ls x.1 ∧ 0 < x.2 ∧ Up ls (dragAt ls x.1) xs
theorem Beh.last {ls : List Len} {s t : Stretch × Rat} (B : Beh s t) (h : s.2 ≤ allDrag ls) (k : Nat) (back : Rat) :
    LeQ (readingOf k (join s.1 (allDrag ls - s.2, none)) back) (readingOf k (join t.1 (allDrag ls - t.2, none)) back) := by
  obtain ⟨⟨d, o⟩, h1⟩ := s
  obtain ⟨⟨d', o'⟩, h2⟩ := t
  have e1 : d = h1 := B.ds
  have e2 : d' = h2 := B.dt
  subst e1 e2
  have h : d ≤ allDrag ls := h
  have le : d' ≤ d := B.le
  have n0 : 0 ≤ d' := B.n0
  rw [join_wire, join_wire]
  have a1 : d + (allDrag ls - d) = allDrag ls := by grind
  have a1' : d' + (allDrag ls - d') = allDrag ls := by grind
  have l1 := B.le2.wire (l := allDrag ls - d)
  rw [wire_wire] at l1
  simp only [] at l1
  have a2 : d - d' + (allDrag ls - d) = allDrag ls - d' := by grind
  rw [a1, a2] at l1
  rw [a1, a1']
  exact l1.reads (B.hs.wire (by grind)) (B.ht.wire (by grind)) k
/-- leaks in order: the one has more of them, or lesser drags -/
inductive Pr : List Leak → List Leak → Prop
  | nil : Pr [] []
  | cons {x y : Leak} {xs ys : List Leak} : x.1 = y.1 → x.2 ≤ y.2 → Pr xs ys → Pr (x :: xs) (y :: ys)
  | more {x : Leak} {xs ys : List Leak} : Pr xs ys → Pr (x :: xs) ys
theorem Pr.refl : ∀ xs : List Leak, Pr xs xs
  | [] => .nil
  | x :: xs => .cons rfl Rat.le_refl (Pr.refl xs)
theorem Pr.app {xs ys us vs : List Leak} (h : Pr xs ys) (h2 : Pr us vs) : Pr (xs ++ us) (ys ++ vs) := by
  induction h with
  | nil => exact h2
  | cons h1 h3 _ ih => exact .cons h1 h3 ih
  | more _ ih => exact .more ih
theorem Beh.fold {ls : List Len} {xs ys : List Leak} (h : Pr xs ys) : ∀ {s t : Stretch × Rat}, Beh s t → Up ls s.2 xs → Beh (xs.foldl (stStep ls) s) (ys.foldl (stStep ls) t) ∧ (xs.foldl (stStep ls) s).2 ≤ allDrag ls := by
  induction h with
  | nil => exact fun B u => ⟨B, u⟩
  | cons h1 h3 _ ih => exact fun B u => ih (B.step h1 u.2.1 h3 u.1) u.2.2
  | more _ ih => exact fun B u => ih (B.more u.2.1 u.1) u.2.2
theorem up_of {ls : List Len} (h : ∀ x ∈ ls, LenOk x) : ∀ {xs : List Leak} {p : Rat}, 0 ≤ p → p ≤ (allSteps ls : Int) → (∀ x ∈ xs, p ≤ x.1) → (∀ x ∈ xs, x.1 ≤ (allSteps ls : Int)) → (∀ x ∈ xs, 0 < x.2) → (xs.Pairwise fun x y => x.1 < y.1) → Up ls (dragAt ls p) xs
  | [], p, h0, h1, _, _, _, _ => dragAt_hi h h0 h1
  | x :: xs, p, h0, h1, hp, hi, hg, up => by
    have hp1 := hp x List.mem_cons_self
    have hi1 := hi x List.mem_cons_self
    obtain ⟨u1, u2⟩ := List.pairwise_cons.mp up
    exact ⟨dragAt_le h h0 hp1 hi1, hg x List.mem_cons_self, up_of h (by grind) hi1 (fun y hy => Rat.le_of_lt (u1 y hy)) (fun y hy => hi y (List.mem_cons_of_mem _ hy)) (fun y hy => hg y (List.mem_cons_of_mem _ hy)) u2⟩
theorem up_Ks {ls : List Len} {xs : List Leak} [h : LsOk ls] {B : Nat} [hK : KsB ls xs B] : Up ls 0 xs := by
  have sp := steps_pos h.len
  have s0 : (0 : Rat) ≤ ((allSteps ls : Int) : Rat) := by
    have := Rat.intCast_le_intCast.mpr sp.1
    simpa using this
  have := up_of h.len (p := 0) Rat.le_refl s0 hK.lo hK.hi hK.pos hK.up
  rwa [dragAt_zero h.len] at this
theorem press {ls : List Len} {xs ys : List Leak} {B : Nat} [h : LsOk ls] [hK : KsB ls xs B] (hp : Pr xs ys) (k : Nat) (back : Rat) : LeQ (readingOf k (stretchBy ls xs) back) (readingOf k (stretchBy ls ys) back) := by
  obtain ⟨B, l⟩ := Beh.fold hp Beh.init up_Ks (ls := ls)
  exact B.last l k back
theorem rd_bd {s : Stretch} {back a : Rat} {k : Nat} {N : Nat} (h : SB s 300 N N) (hN : N ≤ 12100000) [Bd back 10] (e : readingOf k s back = some a) : Bd a 61000000 := by
  obtain ⟨d, o⟩ := s
  have i1 : Bd d 300 := h.d
  cases o with
  | none =>
    rcases k with _ | _ | _ | _ | k
    · cases e
    · cases e
    · cases e; exact i1.mono (by omega)
    · cases e; exact i1.mono (by omega)
    · cases e
      show Bd (back + d) _
      exact Bd.mono (m := 10 + 300 + 1) inferInstance (by omega)
  | some q =>
    obtain ⟨i2, i3, i4, _⟩ := h.seen q rfl
    rcases k with _ | _ | _ | _ | k <;> cases e
    · show Bd (q.1 + q.2.2) _
      exact Bd.mono (m := N + N + 1) inferInstance (by omega)
    · show Bd (q.2.1 + q.2.2) _
      exact Bd.mono (m := N + N + 1) inferInstance (by omega)
    · show Bd (q.1 + q.2.2 * q.2.1 / (q.2.2 + q.2.1)) _
      exact Bd.mono (m := N + (N + N + (N + N + 1)) + 1) inferInstance (by omega)
    · show Bd (q.2.1 + q.2.2 * q.1 / (q.2.2 + q.1)) _
      exact Bd.mono (m := N + (N + N + (N + N + 1)) + 1) inferInstance (by omega)
    · show Bd (back + (q.1 + q.2.1)) _
      exact Bd.mono (m := 10 + (N + N + 1) + 1) inferInstance (by omega)
end Z

/-! X, part L: what the ends of a cable with leaks see. -/
namespace Z
/-- so many leaks, so far from the west end -/
def Net (h : Rat) (k : Nat) (o : Option Sn) : Prop := (k = 0 ∧ o = none) ∨ ∃ q, o = some q ∧ Pos q ∧ q.2.2 * (h - q.1 - q.2.1) ≤ q.1 * q.2.1 ∧ ((k = 1 ∧ q.1 + q.2.1 = h) ∨ (2 ≤ k ∧ q.1 + q.2.1 < h))
theorem Net.wire {h l : Rat} {k : Nat} {o : Option Sn} (N : Net h k o) (hl : 0 ≤ l) : Net (h + l) k (wireO l o) := by
  rcases N with ⟨h1, rfl⟩ | ⟨q, rfl, ⟨p1, p2, p3⟩, h2, h3⟩
  · exact .inl ⟨h1, rfl⟩
  · refine .inr ⟨_, wireO_some l q, ⟨p1, by show 0 ≤ q.2.1 + l; grind, p3⟩, ?_, ?_⟩
    · show q.2.2 * (h + l - q.1 - (q.2.1 + l)) ≤ q.1 * (q.2.1 + l)
      have := Rat.mul_nonneg p1 hl
      have e : h + l - q.1 - (q.2.1 + l) = h - q.1 - q.2.1 := by grind
      rw [e]
      grind
    · rcases h3 with ⟨a, b⟩ | ⟨a, b⟩
      · exact .inl ⟨a, by show q.1 + (q.2.1 + l) = h + l; grind⟩
      · exact .inr ⟨a, by show q.1 + (q.2.1 + l) < h + l; grind⟩
theorem Net.leak {h g : Rat} {k : Nat} {o : Option Sn} (N : Net h k o) (hh : 0 ≤ h) (hg : 0 < g) (he : ∀ q, o = some q → 0 < q.2.1) : Net h (k + 1) (leakO h g o) := by
  rcases N with ⟨h1, rfl⟩ | ⟨q, rfl, ⟨p1, p2, p3⟩, h2, h3⟩
  · refine .inr ⟨_, leakO_none h g, ⟨by show 0 ≤ 0 + h; grind, Rat.le_refl, hg⟩, ?_, .inl ⟨by omega, by show (0 + h) + 0 = h; grind⟩⟩
    show g * (h - (0 + h) - 0) ≤ (0 + h) * 0
    have e : h - (0 + h) - 0 = 0 := by grind
    rw [e]
    grind
  · have e0 := he q rfl
    have r0 : 0 < q.2.2 + g + q.2.1 := by grind
    have rz := ne_of_pos r0
    have op : OPos (some (bothSeen q (0, 0, g))) := OPos.leak (d := h) (o := some q) (fun q' hq => by cases hq; exact ⟨p1, p2, p3⟩) hh hg
    refine .inr ⟨_, leakO_some h g q, op _ rfl, ?_, .inr ⟨by omega, ?_⟩⟩
    · rw [bs_leak]
      show q.2.2 * g / (q.2.2 + g + q.2.1) * (h - (q.1 + q.2.2 * q.2.1 / (q.2.2 + g + q.2.1)) - g * q.2.1 / (q.2.2 + g + q.2.1)) ≤ (q.1 + q.2.2 * q.2.1 / (q.2.2 + g + q.2.1)) * (g * q.2.1 / (q.2.2 + g + q.2.1))
      have key : (q.1 + q.2.2 * q.2.1 / (q.2.2 + g + q.2.1)) * (g * q.2.1 / (q.2.2 + g + q.2.1)) - q.2.2 * g / (q.2.2 + g + q.2.1) * (h - (q.1 + q.2.2 * q.2.1 / (q.2.2 + g + q.2.1)) - g * q.2.1 / (q.2.2 + g + q.2.1)) = g * (q.1 * q.2.1 - q.2.2 * (h - q.1 - q.2.1)) / (q.2.2 + g + q.2.1) := by
        generalize q.1 = w at *
        generalize q.2.1 = e at *
        generalize q.2.2 = f at *
        grind
      have := div_nonneg (Rat.mul_nonneg (Rat.le_of_lt hg) (show 0 ≤ q.1 * q.2.1 - q.2.2 * (h - q.1 - q.2.1) by grind)) r0
      grind
    · rw [bs_leak]
      show q.1 + q.2.2 * q.2.1 / (q.2.2 + g + q.2.1) + g * q.2.1 / (q.2.2 + g + q.2.1) < h
      have key : q.1 + q.2.2 * q.2.1 / (q.2.2 + g + q.2.1) + g * q.2.1 / (q.2.2 + g + q.2.1) = q.1 + q.2.1 - q.2.1 * q.2.1 / (q.2.2 + g + q.2.1) := by
        generalize q.1 = w at *
        generalize q.2.1 = e at *
        generalize q.2.2 = f at *
        grind
      have := div_pos (Rat.mul_pos e0 e0) r0
      rw [key]
      rcases h3 with ⟨a, b⟩ | ⟨a, b⟩ <;> grind
theorem net_fold {ls : List Len} (h : ∀ x ∈ ls, LenOk x) : ∀ {xs : List Leak} {t : Stretch × Rat} {k : Nat}, t.1.1 = t.2 → 0 ≤ t.2 → Net t.2 k t.1.2 → OPos t.1.2 → (∀ x ∈ xs, 0 ≤ x.1) → (∀ x ∈ xs, x.1 ≤ (allSteps ls : Int)) → (∀ x ∈ xs, 0 < x.2) → (xs.Pairwise fun x y => x.1 < y.1) → (∀ x ∈ xs, t.2 ≤ dragAt ls x.1 ∧ (1 ≤ k → t.2 < dragAt ls x.1)) → t.2 ≤ allDrag ls →
    Net (allDrag ls) (k + xs.length) (join (xs.foldl (stStep ls) t).1 (allDrag ls - (xs.foldl (stStep ls) t).2, none)).2 ∧ (join (xs.foldl (stStep ls) t).1 (allDrag ls - (xs.foldl (stStep ls) t).2, none)).1 = allDrag ls
  | [], t, k, e, h0, N, _, _, _, _, _, _, hl => by
    obtain ⟨⟨d, o⟩, h'⟩ := t
    have e : d = h' := e
    subst e
    have hl : d ≤ allDrag ls := hl
    have e1 : (([] : List Leak).foldl (stStep ls) ((d, o), d)) = ((d, o), d) := rfl
    rw [e1]
    have e2 : d + (allDrag ls - d) = allDrag ls := by grind
    simp only [join_wire, e2]
    have := N.wire (l := allDrag ls - d) (by show 0 ≤ allDrag ls - d; grind)
    rw [show ((d, o), d).2 + (allDrag ls - d) = allDrag ls from e2] at this
    exact ⟨this, trivial⟩
  | x :: xs, t, k, e, h0, N, op, hlo, hhi, hpos, up, hm, hl => by
    obtain ⟨u1, u2⟩ := List.pairwise_cons.mp up
    have hx := hm x List.mem_cons_self
    have x0 := hlo x List.mem_cons_self
    have x1 := hhi x List.mem_cons_self
    have x2 := hpos x List.mem_cons_self
    have d0 := dragAt_nonneg h x0
    have op1 := op.wire (l := dragAt ls x.1 - t.2) (by grind)
    have N1 := N.wire (l := dragAt ls x.1 - t.2) (by grind)
    have e1 : t.2 + (dragAt ls x.1 - t.2) = dragAt ls x.1 := by grind
    rw [e1] at N1
    have N2 := N1.leak (g := x.2) d0 x2 (fun q hq => by
      obtain ⟨⟨d, o⟩, h'⟩ := t
      cases o with
      | none => cases hq
      | some a =>
        cases hq
        have k1 : 1 ≤ k := by
          rcases N with ⟨_, n⟩ | ⟨_, _, _, _, n⟩
          · cases n
          · rcases n with ⟨n, _⟩ | ⟨n, _⟩ <;> omega
        have := hx.2 k1
        have a2 := (op a rfl).2.1
        show 0 < a.2.1 + (dragAt ls x.1 - h')
        have this : h' < dragAt ls x.1 := this
        grind)
    have st := stStep_eq ls t x e
    rw [List.foldl_cons, st]
    have := net_fold h (xs := xs) (t := ((dragAt ls x.1, leakO (dragAt ls x.1) x.2 (wireO (dragAt ls x.1 - t.2) t.1.2)), dragAt ls x.1)) (k := k + 1) rfl d0 N2 (op1.leak d0 x2) (fun y hy => hlo y (List.mem_cons_of_mem _ hy)) (fun y hy => hhi y (List.mem_cons_of_mem _ hy)) (fun y hy => hpos y (List.mem_cons_of_mem _ hy)) u2 (fun y hy => by
      have lt := dragAt_mono h x0 (u1 y hy) (hhi y (List.mem_cons_of_mem _ hy))
      exact ⟨Rat.le_of_lt lt, fun _ => lt⟩) (dragAt_hi h x0 x1)
    have e2 : k + 1 + xs.length = k + (x :: xs).length := by rw [List.length_cons]; omega
    rw [e2] at this
    exact this
theorem net {ls : List Len} {xs : List Leak} {B : Nat} [h : LsOk ls] [hK : KsB ls xs B] : Net (allDrag ls) xs.length (stretchBy ls xs).2 ∧ (stretchBy ls xs).1 = allDrag ls := by
  have sp := steps_pos h.len
  have s0 : (0 : Rat) ≤ ((allSteps ls : Int) : Rat) := by
    have := Rat.intCast_le_intCast.mpr sp.1
    simpa using this
  have d0 : 0 ≤ allDrag ls := by
    rw [← dragAt_end h.len]
    exact dragAt_nonneg h.len s0
  have := net_fold h.len (xs := xs) (t := ((0, none), 0)) (k := 0) rfl Rat.le_refl (.inl ⟨rfl, rfl⟩) (fun q hq => by cases hq) hK.lo hK.hi hK.pos hK.up (fun x hx => ⟨dragAt_nonneg h.len (hK.lo x hx), fun z => by omega⟩) d0
  rw [Nat.zero_add] at this
  exact this
theorem drag_pos {ls : List Len} [h : LsOk ls] : 0 < allDrag ls := by
  have hl := h.lo
  have key : ∀ ls : List Len, (∀ x ∈ ls, LenOk x) → 0 ≤ allDrag ls := fun ls => by
    induction ls with
    | nil => intro _; exact Rat.le_refl
    | cons x ls ih =>
      intro h
      have := ih fun y hy => h y (List.mem_cons_of_mem _ hy)
      have h1 := lenPos (h x List.mem_cons_self)
      have h2 := (h x List.mem_cons_self).pos
      rw [allDrag_cons]
      have := Rat.mul_pos h1 h2
      grind
  cases ls with
  | nil => simp at hl
  | cons x ls =>
    have h1 := lenPos (h.len x List.mem_cons_self)
    have h2 := (h.len x List.mem_cons_self).pos
    have := key ls fun y hy => h.len y (List.mem_cons_of_mem _ hy)
    have := Rat.mul_pos h1 h2
    rw [allDrag_cons]
    grind
end Z

/-! X, part M: the laws' own numbers and cables. -/
namespace Z
open PySem
section
variable {P : Nat → Option CF} [Lib P] {n : Nat} {S : Store} {m l : Nat} {a b p : Rat} {ls : List Len}
@[simp] theorem comp_nil {F G : Env → Store → R D} {tg : CT} {ws : List D} {δ : Env} {own : List Nat} {acc : List D} : compEv F G tg (.fix ws) δ own [] acc S = .ok acc S := by simp [compEv, at_fix]
@[simp] theorem comp_cons {F G : Env → Store → R D} {tg : CT} {ws : List D} {δ : Env} {own : List Nat} {acc : List D} {d : D} {ds : List D} (h : acc.length ≤ 900) : compEv F G tg (.fix ws) δ own (d :: ds) acc S = match stepT tg d (wipeD δ own) with
    | some δ1 => (match G δ1 S with
      | .ok (.bl true) S1 => (match F δ1 S1 with
        | .ok y S2 => compEv F G tg (.fix ws) δ own ds (acc ++ [y]) S2
        | _ => .stuck)
      | .ok (.bl false) S1 => compEv F G tg (.fix ws) δ own ds acc S1
      | _ => .stuck)
    | none => .stuck := by
  have hz : acc.length < sizeLine := by rw [sizeLine_eq]; omega
  rw [compEv, if_pos at_fix']
  cases stepT tg d (wipeD δ own) with
  | none => rfl
  | some δ1 =>
    simp only [if_pos hz] <;> rfl
@[simp] theorem stepT_lst {ts : CT} {ds : List D} {δ : Env} : stepT (.tp ts) (.lst ds) δ = stepT.go ts ds δ := rfl
@[simp] theorem bls_nil : bls? [] = some [] := rfl
@[simp] theorem bls_cons {b : Bool} {ds : List D} : bls? (.bl b :: ds) = (bls? ds).map (b :: ·) := rfl
@[simp] theorem ints_nil : ints? [] = some [] := rfl
@[simp] theorem ints_cons {i : Int} {ds : List D} : ints? (.int i :: ds) = (ints? ds).map (i :: ·) := rfl
@[simp] theorem wipeD_nil {δ : Env} : wipeD δ [] = δ := rfl
@[simp] theorem wipeD_cons {δ : Env} {v : Nat} {vs : List Nat} : wipeD δ (v :: vs) = (wipeD δ vs).set v none := rfl
@[simp] theorem ev_law_is_fraction : evF P (n + 2) (f_law_is_fraction P) [fr a] S = .ok (.bl true) S := by
  rw [evF_at (p_law_is_fraction P) rfl rfl]
  have hd := a.den_pos
  have e := lawlow_at (P := P) (n := n) (S := S) (x := a.num) (y := a.den) (q := a) (by omega) (rat_eq a).symm
  simp [cf_law_is_fraction, hd, e, -ev_law_low]
@[simp] theorem ev_law_all [h : LsOk ls] : evF P (n + 3) (f_law_all P) [.tup [.tup (ls.map enL), fr b]] S = .ok (fr (allDrag ls)) S := by
  rw [evF_at (p_law_all P) rfl rfl]
  have e : ∀ (ws : List D) (s : Rat × Option D × Option D), (s.1 = 0) → forEv (run (evF P (n + 2)) (cb_law_all_1 (Lib.ix P))) (.tp (.cons (.nm 2) (.cons (.nm 3) .nil))) (.fix ws) (ls.map enL) [some (.tup [.tup (ls.map enL), fr b]), some (fr s.1), s.2.1, s.2.2] S
      = .nx (let t := ls.foldl (fun (s : Rat × Option D × Option D) x => (s.1 + (x.1 : Rat) * x.2, some (.int x.1), some (fr x.2))) s; [some (.tup [.tup (ls.map enL), fr b]), some (fr t.1), t.2.1, t.2.2]) S := fun ws s hs =>
    for_fold (ws := ws) enL (fun s : Rat × Option D × Option D => [some (.tup [.tup (ls.map enL), fr b]), some (fr s.1), s.2.1, s.2.2]) (fun s x => (s.1 + (x.1 : Rat) * x.2, some (.int x.1), some (fr x.2)))
      (fun xs s => (∀ x ∈ xs, LenOk x) ∧ xs.length ≤ 12 ∧ Bd s.1 (21 * (12 - xs.length))) (fun x xs s ⟨h1, h2, h3⟩ => by
        have i1 := (h1 x List.mem_cons_self).ib
        have i2 := (h1 x List.mem_cons_self).bd
        simp at h2
        have b3 : Bd s.1 252 := h3.mono (by omega)
        refine ⟨by simp [enL, cb_law_all_1], fun y hy => h1 y (List.mem_cons_of_mem _ hy), by omega, ?_⟩
        show Bd (s.1 + (x.1 : Rat) * x.2) _
        clear b3
        exact Bd.mono (m := 21 * (12 - (x :: xs).length) + (10 + 10) + 1) inferInstance (by simp; omega)) ls s
      ⟨h.len, h.hi, by rw [hs]; exact Bd.mono (m := 0) (inferInstanceAs (Bd 0 0)) (by omega)⟩
  have e2 : ∀ (xs : List Len) (s : Rat × Option D × Option D), (xs.foldl (fun (s : Rat × Option D × Option D) x => (s.1 + (x.1 : Rat) * x.2, some (.int x.1), some (fr x.2))) s).1 = s.1 + allDrag xs := fun xs => by
    induction xs with
    | nil => intro s; simp [allDrag, Rat.add_zero]
    | cons x xs ih =>
      intro s
      rw [List.foldl_cons, ih]
      simp only [allDrag, List.map_cons, List.sum_cons]
      grind
  have e := e (ls.map enL) (0, none, none) rfl
  simp only [] at e
  simp [cf_law_all, e, e2, Rat.zero_add]
instance [LsOk ls] : KsB ls [] 1000 := ⟨by simp, .inr (by decide), by decide, fun x hx => (by cases hx), fun x hx => (by cases hx), fun x hx => (by cases hx), fun x hx => (by cases hx), fun x hx => (by cases hx), .nil⟩
@[simp] theorem ev_measure_west_free_nil [h : LsOk ls] [hb : BkOk b] : evF P (n + 8) (f_measure P) [.tup [.tup (ls.map enL), fr b], .tup [], .str "west free"] S = .ok (enQ (readingOf 0 (stretchBy ls []) b)) S := ev_measure_west_free (xs := [])
@[simp] theorem ev_measure_east_free_nil [h : LsOk ls] [hb : BkOk b] : evF P (n + 8) (f_measure P) [.tup [.tup (ls.map enL), fr b], .tup [], .str "east free"] S = .ok (enQ (readingOf 1 (stretchBy ls []) b)) S := ev_measure_east_free (xs := [])
@[simp] theorem ev_measure_west_earth_nil [h : LsOk ls] [hb : BkOk b] : evF P (n + 8) (f_measure P) [.tup [.tup (ls.map enL), fr b], .tup [], .str "west earth"] S = .ok (enQ (readingOf 2 (stretchBy ls []) b)) S := ev_measure_west_earth (xs := [])
@[simp] theorem ev_measure_east_earth_nil [h : LsOk ls] [hb : BkOk b] : evF P (n + 8) (f_measure P) [.tup [.tup (ls.map enL), fr b], .tup [], .str "east earth"] S = .ok (enQ (readingOf 3 (stretchBy ls []) b)) S := ev_measure_east_earth (xs := [])
@[simp] theorem ev_measure_loop_nil [h : LsOk ls] [hb : BkOk b] : evF P (n + 8) (f_measure P) [.tup [.tup (ls.map enL), fr b], .tup [], .str "loop"] S = .ok (enQ (readingOf 4 (stretchBy ls []) b)) S := ev_measure_loop (xs := [])
end
end Z

/-! X, part N: the laws' walks along a cable. -/
namespace Z
open PySem
section
variable {P : Nat → Option CF} [Lib P] {n : Nat} {S : Store} {m l : Nat} {a b p : Rat} {ls : List Len} {xs : List Leak}
@[simp] theorem Sq0 : S ++ ([] : List Cell) = S := List.append_nil S
theorem ev_law_drag_to [h : LsOk ls] [hp : Bd p m] (hm : m ≤ 1000000) (h0 : 0 ≤ p) : evF P (n + 3) (f_law_drag_to P) [.tup [.tup (ls.map enL), fr b], fr p] S = .ok (fr (dragAt ls p)) S := by
  rw [evF_at (p_law_drag_to P) rfl rfl]
  let C : D := .tup [.tup (ls.map enL), fr b]
  let E : Rat × Int × Option D × Option D × Option D → Env := fun s => [some C, some (fr p), some (fr s.1), some (.int s.2.1), s.2.2.1, s.2.2.2.1, s.2.2.2.2]
  let al : Int → Len → Rat := fun t x => if (x.1 : Rat) < p - (t : Rat) then (x.1 : Rat) else p - (t : Rat)
  let f : Rat × Int × Option D × Option D × Option D → Len → Rat × Int × Option D × Option D × Option D := fun s x => (if 0 < al s.2.1 x then s.1 + al s.2.1 x * x.2 else s.1, s.2.1 + x.1, some (.int x.1), some (fr x.2), some (fr (al s.2.1 x)))
  have e := for_fold (body := run (evF P (n + 2)) (cb_law_drag_to_1 (Lib.ix P))) (tg := .tp (.cons (.nm 4) (.cons (.nm 5) .nil))) (S := S) (ws := ls.map enL) enL E f
      (fun xs s => (∀ x ∈ xs, LenOk x) ∧ xs.length ≤ 12 ∧ Bd s.1 ((m + 200) * (12 - xs.length)) ∧ IB s.2.1 (11 * (12 - xs.length))) (fun x xs s ⟨h1, h2, h3, h4⟩ => by
        have i1 := (h1 x List.mem_cons_self).ib
        have i2 := (h1 x List.mem_cons_self).bd
        simp at h2
        have h4' : IB (s.2.1 + x.1) (11 * (12 - xs.length)) := by
          exact IB.mono (m := 11 * (12 - (x :: xs).length) + 10 + 1) inferInstance (by simp; omega)
        have b4 : IB s.2.1 132 := h4.mono (by omega)
        have ba : Bd (al s.2.1 x) (m + 133) := by
          show Bd (if (x.1 : Rat) < p - (s.2.1 : Rat) then (x.1 : Rat) else p - (s.2.1 : Rat)) _
          split
          · exact Bd.mono (m := 10) inferInstance (by omega)
          · clear h4
            exact Bd.mono (m := m + 132 + 1) inferInstance (by omega)
        have h3' : Bd (if 0 < al s.2.1 x then s.1 + al s.2.1 x * x.2 else s.1) ((m + 200) * (12 - xs.length)) := by
          have e : 12 - xs.length = (12 - (x :: xs).length) + 1 := by simp; omega
          rw [e, Nat.mul_succ]
          split
          · exact Bd.mono (m := (m + 200) * (12 - (x :: xs).length) + (m + 133 + 10) + 1) inferInstance (by omega)
          · exact h3.mono (by omega)
        have mm : (m + 200) * (12 - (x :: xs).length) ≤ (m + 200) * 12 := Nat.mul_le_mul_left _ (by omega)
        have b3 : Bd s.1 ((m + 200) * 12) := h3.mono mm
        have q1 : m + 132 ≤ 130000000 := by omega
        have q2 : 10 + (m + 132 + 1) ≤ 130000000 := by omega
        have q3 : (m + 133) + 10 ≤ 130000000 := by omega
        have q4 : (m + 200) * 12 + (m + 133 + 10) ≤ 130000000 := by omega
        refine ⟨?_, fun y hy => h1 y (List.mem_cons_of_mem _ hy), by omega, h3', h4'⟩
        by_cases c : (x.1 : Rat) < p - (s.2.1 : Rat)
        · have ea : al s.2.1 x = (x.1 : Rat) := if_pos c
          have xp := lenPos (h1 x List.mem_cons_self)
          have xn : 0 < x.1 := by have := (h1 x List.mem_cons_self).lo; omega
          have q5 : (m + 200) * 12 + (10 + 10) ≤ 130000000 := by omega
          clear ba
          simp [E, f, enL, cb_law_drag_to_1, C, ev_law_minus q1, ev_law_below q2, c, ea, xp, xn, ev_law_plus (a := s.1) q5]
        · have ea : al s.2.1 x = p - (s.2.1 : Rat) := if_neg c
          rw [ea] at ba
          by_cases c2 : 0 < p - (s.2.1 : Rat)
          · have c3 := num_pos.mpr c2
            simp [E, f, enL, cb_law_drag_to_1, C, ev_law_minus q1, ev_law_below q2, c, ea, c2, c3, ev_law_times (a := p - (s.2.1 : Rat)) q3, ev_law_plus (a := s.1) q4]
          · have c3 : ¬ (0 < (p - (s.2.1 : Rat)).num) := fun z => c2 (num_pos.mp z)
            simp [E, f, enL, cb_law_drag_to_1, C, ev_law_minus q1, ev_law_below q2, c, ea, c2, c3]) ls (0, 0, none, none, none)
      ⟨h.len, h.hi, Bd.mono (m := 0) (inferInstanceAs (Bd 0 0)) (by omega), IB.mono (m := 0) (inferInstanceAs (IB 0 0)) (by omega)⟩
  have e2 : ∀ (xs : List Len) (s : Rat × Int × Option D × Option D × Option D), (∀ x ∈ xs, LenOk x) → (xs.foldl f s).1 = s.1 + (if 0 < p - (s.2.1 : Rat) then dragAt xs (p - (s.2.1 : Rat)) else 0) := fun xs => by
    induction xs with
    | nil => intro s _; simp [dragAt, Rat.add_zero]
    | cons x xs ih =>
      intro s hx
      have xp := lenPos (hx x List.mem_cons_self)
      rw [List.foldl_cons, ih _ fun y hy => hx y (List.mem_cons_of_mem _ hy)]
      have ec : ((s.2.1 + x.1 : Int) : Rat) = (s.2.1 : Rat) + (x.1 : Rat) := Rat.intCast_add _ _
      simp only [f, ec, dragAt]
      by_cases c : (x.1 : Rat) < p - (s.2.1 : Rat)
      · have ea : al s.2.1 x = (x.1 : Rat) := if_pos c
        have c1 : 0 < p - ((s.2.1 : Rat) + (x.1 : Rat)) := by grind
        have c2 : 0 < p - (s.2.1 : Rat) := by grind
        rw [ea, if_pos xp, if_pos c1, if_pos c2, if_pos c]
        have e3 : p - ((s.2.1 : Rat) + (x.1 : Rat)) = p - (s.2.1 : Rat) - (x.1 : Rat) := by grind
        rw [e3]
        grind
      · have ea : al s.2.1 x = p - (s.2.1 : Rat) := if_neg c
        have c1 : ¬ (0 < p - ((s.2.1 : Rat) + (x.1 : Rat))) := by grind
        rw [ea, if_neg c1, if_neg c]
        by_cases c2 : 0 < p - (s.2.1 : Rat)
        · rw [if_pos c2, if_pos c2]
          grind
        · rw [if_neg c2, if_neg c2]
  have k := e2 ls (0, 0, none, none, none) h.len
  have z0 : ((0 : Int) : Rat) = 0 := rfl
  simp only [z0, Rat.zero_add] at k
  have e3 : p - 0 = p := by grind
  rw [e3] at k
  have k' : (ls.foldl f (0, 0, none, none, none)).1 = dragAt ls p := by
    rw [k]
    by_cases c : 0 < p
    · rw [if_pos c]
    · have : p = 0 := by grind
      rw [if_neg c, this, dragAt_zero h.len]
  simp only [E, C] at e
  simp [cf_law_drag_to, e, k']
end
end Z

/-! X, part O: what a walk sees. -/
namespace Z
open PySem
/-- what is seen at each leak, from the first on -/
def seenL (far : Rat) (e : Option Rat) : List Leak → List Rat
  | [] => []
  | p :: ps => (match ps, seenL far e ps with
    | q :: _, v :: _ => besideOf p.2 (v + (q.1 - p.1))
    | _, _ => (match e with
      | none => p.2
      | some r => besideOf p.2 (r + (far - p.1)))) :: seenL far e ps
def seenE (far : Rat) (e : Option Rat) (ps : List Leak) : Option Rat := match seenL far e ps with
  | v :: _ => some v
  | [] => e
def hereL (far : Rat) : List Leak → Rat
  | [] => far
  | q :: _ => q.1
theorem hereL_cons (far : Rat) (q : Leak) (ps : List Leak) : hereL far (q :: ps) = q.1 := rfl
theorem seenL_cons (far : Rat) (e : Option Rat) (p : Leak) (ps : List Leak) : seenL far e (p :: ps) = (match seenE far e ps with
    | none => p.2
    | some r => besideOf p.2 (r + (hereL far ps - p.1))) :: seenL far e ps := by
  cases ps with
  | nil => cases e <;> rfl
  | cons q ps =>
    have : ∃ v vs, seenL far e (q :: ps) = v :: vs := ⟨_, _, rfl⟩
    obtain ⟨v, vs, hv⟩ := this
    show (match q :: ps, seenL far e (q :: ps) with
    | q :: _, v :: _ => besideOf p.2 (v + (q.1 - p.1))
    | _, _ => (match e with
      | none => p.2
      | some r => besideOf p.2 (r + (far - p.1)))) :: seenL far e (q :: ps) = _
    unfold seenE
    rw [hv]
    rfl
/-- leaks by their drags from an end -/
structure PtOk (far : Rat) (B : Nat) (ps : List Leak) : Prop where
  len : ps.length ≤ 6
  cap : ps.length ≤ 2 ∨ B ≤ 2000
  hB : B ≤ 500000
  pos : ∀ x ∈ ps, 0 < x.2
  b1 : ∀ x ∈ ps, Bd x.1 (B + 800)
  b2 : ∀ x ∈ ps, Bd x.2 B
  lo : ∀ x ∈ ps, 0 ≤ x.1
  hi : ∀ x ∈ ps, x.1 ≤ far
  up : ps.Pairwise fun x y => x.1 ≤ y.1
def vB (B : Nat) : Nat → Nat
  | 0 => 100
  | k + 1 => 2 * vB B k + (8 * B + 12000)
theorem vB_mono {B j k : Nat} (h : j ≤ k) : vB B j ≤ vB B k := by
  induction k with
  | zero => have : j = 0 := by omega
            subst this; exact Nat.le_refl _
  | succ k ih =>
    by_cases e : j = k + 1
    · subst e; exact Nat.le_refl _
    · have := ih (by omega)
      have e : vB B (k + 1) = 2 * vB B k + (8 * B + 12000) := rfl
      omega
theorem vB_cap {B k : Nat} (hk : k ≤ 6) (hc : k ≤ 2 ∨ B ≤ 2000) (hB : B ≤ 500000) : vB B k ≤ 13000000 := by
  have e0 : vB B 0 = 100 := rfl
  have e1 : vB B 1 = 2 * vB B 0 + (8 * B + 12000) := rfl
  have e2 : vB B 2 = 2 * vB B 1 + (8 * B + 12000) := rfl
  have e3 : vB B 3 = 2 * vB B 2 + (8 * B + 12000) := rfl
  have e4 : vB B 4 = 2 * vB B 3 + (8 * B + 12000) := rfl
  have e5 : vB B 5 = 2 * vB B 4 + (8 * B + 12000) := rfl
  have e6 : vB B 6 = 2 * vB B 5 + (8 * B + 12000) := rfl
  rcases hc with hc | hc
  · have := vB_mono (B := B) hc
    omega
  · have := vB_mono (B := B) hk
    omega
theorem vB_cap2 {B k : Nat} (hk : k ≤ 6) (hB : B ≤ 2000) : vB B k ≤ 1800000 := by
  have e0 : vB B 0 = 100 := rfl
  have e1 : vB B 1 = 2 * vB B 0 + (8 * B + 12000) := rfl
  have e2 : vB B 2 = 2 * vB B 1 + (8 * B + 12000) := rfl
  have e3 : vB B 3 = 2 * vB B 2 + (8 * B + 12000) := rfl
  have e4 : vB B 4 = 2 * vB B 3 + (8 * B + 12000) := rfl
  have e5 : vB B 5 = 2 * vB B 4 + (8 * B + 12000) := rfl
  have e6 : vB B 6 = 2 * vB B 5 + (8 * B + 12000) := rfl
  have := vB_mono (B := B) hk
  omega
theorem PtOk.tail {far : Rat} {B : Nat} {p : Leak} {ps : List Leak} (h : PtOk far B (p :: ps)) : PtOk far B ps :=
  ⟨by have := h.len; simp at this; omega, by have := h.cap; simp at this; omega, h.hB, fun x hx => h.pos x (List.mem_cons_of_mem _ hx), fun x hx => h.b1 x (List.mem_cons_of_mem _ hx), fun x hx => h.b2 x (List.mem_cons_of_mem _ hx), fun x hx => h.lo x (List.mem_cons_of_mem _ hx), fun x hx => h.hi x (List.mem_cons_of_mem _ hx), (List.pairwise_cons.mp h.up).2⟩
theorem PtOk.here {far : Rat} {B : Nat} {p : Leak} {ps : List Leak} (h : PtOk far B (p :: ps)) : p.1 ≤ hereL far ps := by
  cases ps with
  | nil => exact h.hi p List.mem_cons_self
  | cons q ps => exact (List.pairwise_cons.mp h.up).1 q List.mem_cons_self
theorem PtOk.hereB {far : Rat} {B : Nat} {ps : List Leak} [hf : Bd far 300] (h : PtOk far B ps) : Bd (hereL far ps) (B + 800) := by
  cases ps with
  | nil => exact hf.mono (by omega)
  | cons q ps => exact h.b1 q List.mem_cons_self
/-- the end, or what is seen so far: none, or from 0 on; above 0 behind a leak -/
def EOk (B k : Nat) (e : Option Rat) : Prop := ∀ r, e = some r → 0 ≤ r ∧ Bd r (vB B k)
theorem beside_pos {f g : Rat} (hf : 0 < f) (hg : 0 < g) : 0 < besideOf f g := div_pos (Rat.mul_pos hf hg) (by grind)
theorem beside_nn {f g : Rat} (hf : 0 < f) (hg : 0 ≤ g) : 0 ≤ besideOf f g := div_nonneg (Rat.mul_nonneg (Rat.le_of_lt hf) hg) (by grind)
theorem seen_ok {far : Rat} {B : Nat} {e : Option Rat} [hf : Bd far 300] (he : EOk B 0 e) : ∀ {ps : List Leak}, PtOk far B ps → EOk B ps.length (seenE far e ps) ∧ (∀ v ∈ seenL far e ps, 0 ≤ v ∧ Bd v (vB B ps.length)) ∧ (seenL far e ps).length = ps.length
  | [], _ => ⟨he, fun v hv => (by cases hv), rfl⟩
  | p :: ps, h => by
    obtain ⟨i1, i2, i3⟩ := seen_ok he h.tail
    have hh := h.here
    have hb := h.tail.hereB
    have b1 := h.b1 p List.mem_cons_self
    have b2 := h.b2 p List.mem_cons_self
    have pp := h.pos p List.mem_cons_self
    have m1 : vB B ps.length ≤ vB B (p :: ps).length := vB_mono (by simp)
    have ev : vB B (p :: ps).length = 2 * vB B ps.length + (8 * B + 12000) := rfl
    have hd : ∀ v, (match seenE far e ps with
        | none => p.2
        | some r => besideOf p.2 (r + (hereL far ps - p.1))) = v → 0 ≤ v ∧ Bd v (vB B (p :: ps).length) := fun v hv => by
      cases q : seenE far e ps with
      | none =>
        rw [q] at hv
        subst hv
        exact ⟨Rat.le_of_lt pp, b2.mono (by omega)⟩
      | some r =>
        rw [q] at hv
        subst hv
        obtain ⟨r0, rb⟩ := i1 r q
        refine ⟨beside_nn pp (by grind), ?_⟩
        show Bd (p.2 * (r + (hereL far ps - p.1)) / (p.2 + (r + (hereL far ps - p.1)))) _
        exact Bd.mono (m := B + (vB B ps.length + (B + 800 + (B + 800) + 1) + 1) + (B + (vB B ps.length + (B + 800 + (B + 800) + 1) + 1) + 1)) inferInstance (by omega)
    rw [seenL_cons]
    refine ⟨fun r hr => ?_, fun v hv => ?_, by simp [i3]⟩
    · unfold seenE at hr
      rw [seenL_cons] at hr
      exact hd r (Option.some.inj hr)
    · rcases List.mem_cons.mp hv with rfl | hv
      · exact hd _ rfl
      · exact ⟨(i2 v hv).1, (i2 v hv).2.mono m1⟩
section
variable {P : Nat → Option CF} [Lib P] {n : Nat} {S : Store} {m l : Nat} {a b p : Rat} {ls : List Len} {xs : List Leak}
def enE : Option Rat → D
  | none => .non
  | some r => fr r
@[simp] theorem last_at {c : Cell} : (S ++ [c])[S.length]? = some c := by simp
@[simp] theorem set_last {c c' : Cell} : (S ++ [c]).set S.length c' = S ++ [c'] := by simp
theorem app_last {ds : List D} {y : D} (hl : ds.length < 1000) : mthEv .append (.ref S.length) [y] (S ++ [Cell.lst ds]) = some (.non, S ++ [Cell.lst (ds ++ [y])]) := by
  have : ds.length < sizeLine := by rw [sizeLine_eq]; omega
  simp only [mthEv, last_at, if_pos this, set_last]
theorem seqL_last {ds : List D} : seqL (S ++ [Cell.lst ds]) (.ref S.length) = some ds := by simp only [seqL, last_at]
theorem gc_last {d : D} {c : Cell} (hd : noref d = true) : gc S (.ok d (S ++ [c])) = .ok d S := by
  have hk : Keep S (S ++ [c]) := ⟨by simp, fun i hi => .inl (List.getElem?_append_left hi)⟩
  simp only [gc, if_pos (And.intro hk hd), List.take_left']
theorem steps_body {far : Rat} {B : Nat} {e : Option Rat} [hf : Bd far 300] (he : EOk B 0 e) {q : Leak} {ps : List Leak} (h : PtOk far B (q :: ps)) (x0 x1 x5 x6 x7 : Option D) : ∃ y5 y6 y7,
    (match stepT (.tp (.cons (.nm 5) (.cons (.nm 6) .nil))) (enK q) [x0, x1, some (enE (seenE far e ps)), some (.ref S.length), some (fr (hereL far ps)), x5, x6, x7] with
      | some δ1 => run (evF P (n + 2)) (cb_law_steps_seen_1 (Lib.ix P)) δ1 (S ++ [Cell.lst ((seenL far e ps).reverse.map fr)])
      | none => .stuck) = .nx [x0, x1, some (enE (seenE far e (q :: ps))), some (.ref S.length), some (fr (hereL far (q :: ps))), y5, y6, y7] (S ++ [Cell.lst ((seenL far e (q :: ps)).reverse.map fr)]) := by
  obtain ⟨i1, i2, i3⟩ := seen_ok he h.tail
  have hh := h.here
  have hb := h.tail.hereB
  have b1 := h.b1 q List.mem_cons_self
  have b2 := h.b2 q List.mem_cons_self
  have pp := h.pos q List.mem_cons_self
  have hl := h.len
  simp at hl
  have hln : ((seenL far e ps).reverse.map fr).length < 1000 := by simp [i3]; omega
  have v5 : vB B ps.length ≤ 13000000 := vB_cap (by omega) (by have := h.cap; simp at this; omega) h.hB
  have hB := h.hB
  have es : seenE far e (q :: ps) = some (match seenE far e ps with
      | none => q.2
      | some r => besideOf q.2 (r + (hereL far ps - q.1))) := by
    unfold seenE
    rw [seenL_cons]
    rfl
  rw [es, seenL_cons]
  cases hs : seenE far e ps with
  | none =>
    refine ⟨some (fr q.1), some (fr q.2), x7, ?_⟩
    have e1 := app_last (S := S) (y := fr q.2) hln
    have e2 := seqL_last (S := S) (ds := (seenL far e ps).reverse.map fr)
    simp only [List.map_reverse] at e1 e2
    simp [enK, enE, cb_law_steps_seen_1, e1, e2, hereL_cons]
  | some r =>
    obtain ⟨r0, rb⟩ := i1 r hs
    have q1 : vB B ps.length + (B + 800 + (B + 800) + 1) ≤ 130000000 := by omega
    have q2 : B + (vB B ps.length + (B + 800 + (B + 800) + 1) + 1) ≤ 130000000 := by omega
    have q3 : B + (vB B ps.length + (B + 800 + (B + 800) + 1) + 1) + (B + (vB B ps.length + (B + 800 + (B + 800) + 1) + 1) + 1) ≤ 130000000 := by omega
    have z : q.2 + (r + (hereL far ps - q.1)) ≠ 0 := ne_of_pos (by grind)
    refine ⟨some (fr q.1), some (fr q.2), some (fr (r + (hereL far ps - q.1))), ?_⟩
    have e1 := app_last (S := S) (y := fr (besideOf q.2 (r + (hereL far ps - q.1)))) hln
    have e2 := seqL_last (S := S) (ds := (seenL far e ps).reverse.map fr)
    simp only [List.map_reverse, besideOf] at e1 e2
    simp [enK, enE, cb_law_steps_seen_1, hereL_cons, ev_law_minus (a := hereL far ps) (b := q.1) (show B + 800 + (B + 800) ≤ 130000000 by omega), ev_law_plus (a := r) q1, ev_law_times (a := q.2) q2, ev_law_plus (a := q.2) q2, ev_law_over (a := q.2 * (r + (hereL far ps - q.1))) z q3, e1, e2, besideOf]
theorem steps_loop {far : Rat} {B : Nat} {e : Option Rat} [hf : Bd far 300] (he : EOk B 0 e) (x0 x1 : Option D) (w : List D) : ∀ (rs ps : List Leak) (x5 x6 x7 : Option D), PtOk far B (rs.reverse ++ ps) → ∃ y5 y6 y7,
    forEv (run (evF P (n + 2)) (cb_law_steps_seen_1 (Lib.ix P))) (.tp (.cons (.nm 5) (.cons (.nm 6) .nil))) (.fix w) (rs.map enK) [x0, x1, some (enE (seenE far e ps)), some (.ref S.length), some (fr (hereL far ps)), x5, x6, x7] (S ++ [Cell.lst ((seenL far e ps).reverse.map fr)]) =
      .nx [x0, x1, some (enE (seenE far e (rs.reverse ++ ps))), some (.ref S.length), some (fr (hereL far (rs.reverse ++ ps))), y5, y6, y7] (S ++ [Cell.lst ((seenL far e (rs.reverse ++ ps)).reverse.map fr)])
  | [], ps, x5, x6, x7, h => ⟨x5, x6, x7, by simp⟩
  | q :: rs, ps, x5, x6, x7, h => by
    have e1 : (q :: rs).reverse ++ ps = rs.reverse ++ (q :: ps) := by simp
    rw [e1] at h ⊢
    have hq : PtOk far B (q :: ps) := ⟨by have := h.len; simp at this ⊢; omega, by have := h.cap; simp at this ⊢; omega, h.hB, fun x hx => h.pos x (List.mem_append_right _ hx), fun x hx => h.b1 x (List.mem_append_right _ hx), fun x hx => h.b2 x (List.mem_append_right _ hx), fun x hx => h.lo x (List.mem_append_right _ hx), fun x hx => h.hi x (List.mem_append_right _ hx), (List.pairwise_append.mp h.up).2.1⟩
    obtain ⟨y5, y6, y7, h1⟩ := steps_body (P := P) (n := n) (S := S) he hq x0 x1 x5 x6 x7
    obtain ⟨z5, z6, z7, h2⟩ := steps_loop he x0 x1 w rs (q :: ps) y5 y6 y7 h
    refine ⟨z5, z6, z7, ?_⟩
    rw [List.map_cons, for_cons]
    cases hst : stepT (.tp (.cons (.nm 5) (.cons (.nm 6) .nil))) (enK q) [x0, x1, some (enE (seenE far e ps)), some (.ref S.length), some (fr (hereL far ps)), x5, x6, x7] with
    | none => rw [hst] at h1; cases h1
    | some δ1 =>
      rw [hst] at h1
      simp only [] at h1
      simp only [h1]
      exact h2
@[simp] theorem rev_lst' {ds : List D} : revEv (.lst ds) S = some (.lst ds.reverse) := rfl
@[simp] theorem rev_tup' {ds : List D} : revEv (.tup ds) S = some (.tup ds.reverse) := rfl
theorem ev_law_steps_seen {far : Rat} {B : Nat} {e : Option Rat} [hf : Bd far 300] (he : EOk B 0 e) {ps : List Leak} (h : PtOk far B ps) : evF P (n + 3) (f_law_steps_seen P) [.lst (ps.map enK), fr far, enE e] S = .ok (.lst ((seenL far e ps).map fr)) S := by
  rw [evF_at (p_law_steps_seen P) rfl rfl]
  obtain ⟨y5, y6, y7, h1⟩ := steps_loop (P := P) (n := n) (S := S) he (some (.lst (ps.map enK))) (some (fr far)) (ps.map enK).reverse ps.reverse [] none none none (by simpa using h)
  simp only [List.reverse_reverse, List.append_nil, List.map_reverse] at h1
  have e0 : seenE far e [] = e := rfl
  have e1 : seenL far e [] = [] := rfl
  rw [e0, e1] at h1
  simp only [List.map_nil, List.reverse_nil, hereL] at h1
  have e2 : revEv (.ref S.length) (S ++ [Cell.lst ((seenL far e ps).map fr).reverse]) = some (.lst ((seenL far e ps).map fr)) := by
    show (seqL _ _).map _ = _
    rw [seqL_last]
    simp
  simp [cf_law_steps_seen, h1, e2]
  have nr : noref (.lst ((seenL far e ps).map fr)) = true := by
    have : norefs ((seenL far e ps).map fr) = true := norefs_ok (n := 1) (okDs_map (fun x => okD_fr 0 x) _)
    unfold noref
    exact this
  exact gc_last nr
end
end Z

/-! X, part P: a walk comes to the same as the joins. -/
namespace Z
open PySem
def ptsW (ls : List Len) (xs : List Leak) : List Leak := xs.map fun x => (dragAt ls x.1, x.2)
def ptsE (ls : List Len) (xs : List Leak) : List Leak := xs.reverse.map fun x => (allDrag ls - dragAt ls x.1, x.2)
/-- from here to the leaks ahead -/
def ahead (far : Rat) (h : Rat) : List Leak → Option Rat
  | [] => none
  | p :: ps => (seenE far none (p :: ps)).map fun v => p.1 - h + v
theorem ahead_cons (far h : Rat) (p : Leak) (ps : List Leak) : ahead far h (p :: ps) = (seenE far none (p :: ps)).map fun v => p.1 - h + v := rfl
theorem seenE_cons (far : Rat) (p : Leak) (ps : List Leak) : seenE far none (p :: ps) = some (match ahead far p.1 ps with
    | none => p.2
    | some X => besideOf p.2 X) := by
  have e : seenE far none (p :: ps) = some (match seenE far none ps with
      | none => p.2
      | some r => besideOf p.2 (r + (hereL far ps - p.1))) := by
    show (match seenL far none (p :: ps) with
      | v :: _ => some v
      | [] => none) = _
    rw [seenL_cons] <;> rfl
  rw [e]
  cases ps with
  | nil => rfl
  | cons q ps =>
    rw [ahead_cons]
    have : ∃ v, seenE far none (q :: ps) = some v := by
      unfold seenE
      rw [seenL_cons]
      exact ⟨_, rfl⟩
    obtain ⟨v, hv⟩ := this
    rw [hv]
    show some (besideOf p.2 (v + (q.1 - p.1))) = some (besideOf p.2 (q.1 - p.1 + v))
    rw [Rat.add_comm]
/-- what the last leak feels of what the first one has -/
def feels (far : Rat) : List Leak → Rat
  | [] => 1
  | p :: ps => (match ahead far p.1 ps with
    | none => p.2
    | some X => besideOf p.2 X / X * feels far ps)
def finalO (ls : List Len) (xs : List Leak) (t : Stretch × Rat) : Option Sn := (join (xs.foldl (stStep ls) t).1 (allDrag ls - (xs.foldl (stStep ls) t).2, none)).2
theorem finalO_nil (ls : List Len) (d : Rat) (o : Option Sn) : finalO ls [] ((d, o), d) = wireO (allDrag ls - d) o := by
  unfold finalO
  simp only [List.foldl_nil]
  rw [join_wire]
theorem finalO_cons (ls : List Len) (x : Leak) (xs : List Leak) (d : Rat) (o : Option Sn) : finalO ls (x :: xs) ((d, o), d) = finalO ls xs ((dragAt ls x.1, leakO (dragAt ls x.1) x.2 (wireO (dragAt ls x.1 - d) o)), dragAt ls x.1) := by
  unfold finalO
  rw [List.foldl_cons, stStep_eq ls _ x rfl]
theorem ahead_pos {far : Rat} : ∀ {ps : List Leak} {h X : Rat}, (∀ x ∈ ps, 0 < x.2) → (ps.Pairwise fun x y => x.1 ≤ y.1) → (∀ x ∈ ps, h ≤ x.1) → ahead far h ps = some X → 0 < X
  | [], h, X, _, _, _, e => by cases e
  | p :: ps, h, X, hp, up, hh, e => by
    have pp := hp p List.mem_cons_self
    have h1 := hh p List.mem_cons_self
    obtain ⟨u1, u2⟩ := List.pairwise_cons.mp up
    rw [ahead_cons, seenE_cons] at e
    have e : p.1 - h + (match ahead far p.1 ps with
      | none => p.2
      | some X => besideOf p.2 X) = X := Option.some.inj e
    cases q : ahead far p.1 ps with
    | none => rw [q] at e; simp only [] at e; grind
    | some Y =>
      rw [q] at e
      have y0 := ahead_pos (fun x hx => hp x (List.mem_cons_of_mem _ hx)) u2 u1 q
      have := beside_pos pp y0
      simp only [] at e
      grind
structure Walk (ls : List Len) (h : Rat) (xs : List Leak) : Prop where
  pos : ∀ x ∈ xs, 0 < x.2
  up : (ptsW ls xs).Pairwise fun x y => x.1 ≤ y.1
  hh : ∀ x ∈ xs, h ≤ dragAt ls x.1
theorem Walk.tail {ls : List Len} {h : Rat} {x : Leak} {xs : List Leak} (W : Walk ls h (x :: xs)) : Walk ls (dragAt ls x.1) xs := by
  have u := List.pairwise_cons.mp (show ((dragAt ls x.1, x.2) :: ptsW ls xs).Pairwise fun x y => x.1 ≤ y.1 from W.up)
  exact ⟨fun y hy => W.pos y (List.mem_cons_of_mem _ hy), u.2, fun y hy => u.1 (dragAt ls y.1, y.2) (List.mem_map.mpr ⟨y, hy, rfl⟩)⟩
theorem Walk.pts {ls : List Len} {h : Rat} {xs : List Leak} (W : Walk ls h xs) : (∀ x ∈ ptsW ls xs, 0 < x.2) ∧ ∀ x ∈ ptsW ls xs, h ≤ x.1 := ⟨fun x hx => by
  obtain ⟨y, hy, rfl⟩ := List.mem_map.mp hx
  exact W.pos y hy, fun x hx => by
  obtain ⟨y, hy, rfl⟩ := List.mem_map.mp hx
  exact W.hh y hy⟩
theorem walk_some {ls : List Len} : ∀ {xs : List Leak} {h : Rat} {q : Sn}, Pos q → 0 ≤ h → Walk ls h xs → ∃ q', finalO ls xs ((h, some q), h) = some q' ∧
    q'.1 + q'.2.2 = q.1 + (match ahead (allDrag ls) h (ptsW ls xs) with
      | none => q.2.2
      | some X => besideOf q.2.2 (q.2.1 + X)) ∧
    q'.2.2 = (match ahead (allDrag ls) h (ptsW ls xs) with
      | none => q.2.2
      | some X => besideOf q.2.2 (q.2.1 + X) / (q.2.1 + X) * feels (allDrag ls) (ptsW ls xs))
  | [], h, q, hq, h0, W => ⟨_, finalO_nil ls h (some q), rfl, rfl⟩
  | x :: xs, h, q, hq, h0, W => by
    obtain ⟨p1, p2, p3⟩ := hq
    have g0 := W.pos x List.mem_cons_self
    have l0 := W.hh x List.mem_cons_self
    have hw : Pos (q.1, q.2.1 + (dragAt ls x.1 - h), q.2.2) := ⟨p1, by show 0 ≤ q.2.1 + (dragAt ls x.1 - h); grind, p3⟩
    have op : OPos (leakO (dragAt ls x.1) x.2 (some (q.1, q.2.1 + (dragAt ls x.1 - h), q.2.2))) := OPos.leak (fun q' hq' => by cases hq'; exact hw) (by grind) g0
    obtain ⟨q', e1, e2, e3⟩ := walk_some (xs := xs) (op _ rfl) (by grind : 0 ≤ dragAt ls x.1) W.tail
    refine ⟨q', ?_, ?_, ?_⟩
    · rw [finalO_cons]
      exact e1
    · rw [e2, bs_leak]
      have ea : ahead (allDrag ls) h (ptsW ls (x :: xs)) = some (dragAt ls x.1 - h + (match ahead (allDrag ls) (dragAt ls x.1) (ptsW ls xs) with
        | none => x.2
        | some X => besideOf x.2 X)) := by
        show (seenE (allDrag ls) none ((dragAt ls x.1, x.2) :: ptsW ls xs)).map (fun v => dragAt ls x.1 - h + v) = _
        rw [seenE_cons]
        rfl
      rw [ea]
      have l1 : 0 ≤ dragAt ls x.1 - h := by grind
      generalize dragAt ls x.1 - h = L at *
      cases ha : ahead (allDrag ls) (dragAt ls x.1) (ptsW ls xs) with
      | none =>
        simp only []
        have r0 : q.2.2 + x.2 + (q.2.1 + L) ≠ 0 := ne_of_pos (by grind)
        have r1 : q.2.2 + (q.2.1 + (L + x.2)) ≠ 0 := ne_of_pos (by grind)
        unfold besideOf
        generalize q.1 = w at *
        generalize q.2.1 = e at *
        generalize q.2.2 = f at *
        generalize x.2 = g at *
        grind
      | some X =>
        simp only []
        have x0 := ahead_pos W.tail.pts.1 W.tail.up W.tail.pts.2 ha
        have r0 : q.2.2 + x.2 + (q.2.1 + L) ≠ 0 := ne_of_pos (by grind)
        have gx : 0 < besideOf x.2 X := beside_pos g0 x0
        have r1 : q.2.2 + (q.2.1 + (L + besideOf x.2 X)) ≠ 0 := ne_of_pos (by grind)
        have r2 : x.2 + X ≠ 0 := ne_of_pos (by grind)
        have rr : 0 < q.2.2 + x.2 + (q.2.1 + L) := by grind
        have r3 : q.2.2 * x.2 / (q.2.2 + x.2 + (q.2.1 + L)) + (x.2 * (q.2.1 + L) / (q.2.2 + x.2 + (q.2.1 + L)) + X) ≠ 0 := ne_of_pos (by
          have := div_pos (Rat.mul_pos p3 g0) rr
          have := div_nonneg (Rat.mul_nonneg (Rat.le_of_lt g0) (show 0 ≤ q.2.1 + L by grind)) rr
          grind)
        unfold besideOf at r1 ⊢
        generalize q.1 = w at *
        generalize q.2.1 = e at *
        generalize q.2.2 = f at *
        generalize x.2 = g at *
        grind
    · rw [e3, bs_leak]
      have ea : ahead (allDrag ls) h (ptsW ls (x :: xs)) = some (dragAt ls x.1 - h + (match ahead (allDrag ls) (dragAt ls x.1) (ptsW ls xs) with
        | none => x.2
        | some X => besideOf x.2 X)) := by
        show (seenE (allDrag ls) none ((dragAt ls x.1, x.2) :: ptsW ls xs)).map (fun v => dragAt ls x.1 - h + v) = _
        rw [seenE_cons]
        rfl
      have ef : feels (allDrag ls) (ptsW ls (x :: xs)) = (match ahead (allDrag ls) (dragAt ls x.1) (ptsW ls xs) with
        | none => x.2
        | some X => besideOf x.2 X / X * feels (allDrag ls) (ptsW ls xs)) := rfl
      rw [ea, ef]
      have l1 : 0 ≤ dragAt ls x.1 - h := by grind
      generalize dragAt ls x.1 - h = L at *
      generalize feels (allDrag ls) (ptsW ls xs) = Φ at *
      cases ha : ahead (allDrag ls) (dragAt ls x.1) (ptsW ls xs) with
      | none =>
        simp only []
        have r0 : q.2.2 + x.2 + (q.2.1 + L) ≠ 0 := ne_of_pos (by grind)
        have r1 : q.2.2 + (q.2.1 + (L + x.2)) ≠ 0 := ne_of_pos (by grind)
        have r2 : q.2.1 + (L + x.2) ≠ 0 := ne_of_pos (by grind)
        unfold besideOf
        generalize q.1 = w at *
        generalize q.2.1 = e at *
        generalize q.2.2 = f at *
        generalize x.2 = g at *
        grind
      | some X =>
        simp only []
        have x0 := ahead_pos W.tail.pts.1 W.tail.up W.tail.pts.2 ha
        have xz := ne_of_pos x0
        have r0 : q.2.2 + x.2 + (q.2.1 + L) ≠ 0 := ne_of_pos (by grind)
        have gx : 0 < besideOf x.2 X := beside_pos g0 x0
        have r1 : q.2.2 + (q.2.1 + (L + besideOf x.2 X)) ≠ 0 := ne_of_pos (by grind)
        have r4 : q.2.1 + (L + besideOf x.2 X) ≠ 0 := ne_of_pos (by grind)
        have r2 : x.2 + X ≠ 0 := ne_of_pos (by grind)
        have rr : 0 < q.2.2 + x.2 + (q.2.1 + L) := by grind
        have r5 : x.2 * (q.2.1 + L) / (q.2.2 + x.2 + (q.2.1 + L)) + X ≠ 0 := ne_of_pos (by
          have := div_nonneg (Rat.mul_nonneg (Rat.le_of_lt g0) (show 0 ≤ q.2.1 + L by grind)) rr
          grind)
        have r3 : q.2.2 * x.2 / (q.2.2 + x.2 + (q.2.1 + L)) + (x.2 * (q.2.1 + L) / (q.2.2 + x.2 + (q.2.1 + L)) + X) ≠ 0 := ne_of_pos (by
          have := div_pos (Rat.mul_pos p3 g0) rr
          have := div_nonneg (Rat.mul_nonneg (Rat.le_of_lt g0) (show 0 ≤ q.2.1 + L by grind)) rr
          grind)
        have k1 : ∀ f y : Rat, y ≠ 0 → besideOf f y / y = f / (f + y) := fun f y hy => by unfold besideOf; by_cases z : f + y = 0 <;> grind
        rw [k1 _ _ r5, k1 _ _ r4, k1 _ _ xz]
        unfold besideOf at r1 ⊢
        generalize q.1 = w at *
        generalize q.2.1 = e at *
        generalize q.2.2 = f at *
        generalize x.2 = g at *
        grind
end Z

/-! X, part Q: the day as a law walks it. -/
namespace Z
open PySem
section
variable {ls : List Len} {xs : List Leak} {B : Nat}
theorem ptsW_ok [h : LsOk ls] [hK : KsB ls xs B] : PtOk (allDrag ls) B (ptsW ls xs) := by
  refine ⟨by simp [ptsW]; exact hK.len, by simp [ptsW]; exact hK.cap, hK.hB, fun y hy => ?_, fun y hy => ?_, fun y hy => ?_, fun y hy => ?_, fun y hy => ?_, ?_⟩
  · obtain ⟨x, hx, rfl⟩ := List.mem_map.mp hy
    exact hK.pos x hx
  · obtain ⟨x, hx, rfl⟩ := List.mem_map.mp hy
    have := hK.s1 x hx
    show Bd (dragAt ls x.1) _
    exact Bd.mono (m := B + 480) inferInstance (by omega)
  · obtain ⟨x, hx, rfl⟩ := List.mem_map.mp hy
    exact hK.s2 x hx
  · obtain ⟨x, hx, rfl⟩ := List.mem_map.mp hy
    exact dragAt_nonneg h.len (hK.lo x hx)
  · obtain ⟨x, hx, rfl⟩ := List.mem_map.mp hy
    exact dragAt_hi h.len (hK.lo x hx) (hK.hi x hx)
  · unfold ptsW
    rw [List.pairwise_map]
    refine List.Pairwise.imp_of_mem (fun {a c} ha hc hac => ?_) hK.up
    exact dragAt_le h.len (hK.lo a ha) (Rat.le_of_lt hac) (hK.hi c hc)
theorem ptsE_ok [h : LsOk ls] [hK : KsB ls xs B] : PtOk (allDrag ls) B (ptsE ls xs) := by
  have mem : ∀ y ∈ ptsE ls xs, ∃ x ∈ xs, y = (allDrag ls - dragAt ls x.1, x.2) := fun y hy => by
    obtain ⟨x, hx, rfl⟩ := List.mem_map.mp hy
    exact ⟨x, List.mem_reverse.mp hx, rfl⟩
  refine ⟨by simp [ptsE]; exact hK.len, by simp [ptsE]; exact hK.cap, hK.hB, fun y hy => ?_, fun y hy => ?_, fun y hy => ?_, fun y hy => ?_, fun y hy => ?_, ?_⟩
  · obtain ⟨x, hx, rfl⟩ := mem y hy
    exact hK.pos x hx
  · obtain ⟨x, hx, rfl⟩ := mem y hy
    have := hK.s1 x hx
    show Bd (allDrag ls - dragAt ls x.1) _
    exact Bd.mono (m := 252 + (B + 480) + 1) inferInstance (by omega)
  · obtain ⟨x, hx, rfl⟩ := mem y hy
    exact hK.s2 x hx
  · obtain ⟨x, hx, rfl⟩ := mem y hy
    have := dragAt_hi h.len (hK.lo x hx) (hK.hi x hx)
    show 0 ≤ allDrag ls - dragAt ls x.1
    grind
  · obtain ⟨x, hx, rfl⟩ := mem y hy
    have := dragAt_nonneg h.len (hK.lo x hx)
    show allDrag ls - dragAt ls x.1 ≤ allDrag ls
    grind
  · unfold ptsE
    rw [List.pairwise_map, List.pairwise_reverse]
    refine List.Pairwise.imp_of_mem (fun {a c} ha hc hac => ?_) hK.up
    have := dragAt_le h.len (hK.lo a ha) (Rat.le_of_lt hac) (hK.hi c hc)
    show allDrag ls - dragAt ls c.1 ≤ allDrag ls - dragAt ls a.1
    grind
theorem walk_of [h : LsOk ls] [hK : KsB ls xs B] : Walk ls 0 xs := ⟨hK.pos, ptsW_ok.up, fun x hx => dragAt_nonneg h.len (hK.lo x hx)⟩
theorem east_walk [h : LsOk ls] : ∀ (r : Leak) (rs : List Leak), (∀ x ∈ r :: rs, 0 < x.2 ∧ 0 ≤ dragAt ls x.1) → ((r :: rs).Pairwise fun x y => dragAt ls y.1 ≤ dragAt ls x.1) →
    ∃ q, ((r :: rs).reverse.foldl (stStep ls) ((0, none), 0)) = ((dragAt ls r.1, some q), dragAt ls r.1) ∧ Pos q ∧ seenE (allDrag ls) none ((r :: rs).map fun x => (allDrag ls - dragAt ls x.1, x.2)) = some (q.2.1 + q.2.2)
  | r, [], hp, up => by
    obtain ⟨g0, d0⟩ := hp r List.mem_cons_self
    refine ⟨(0 + dragAt ls r.1, 0, r.2), ?_, ⟨by show 0 ≤ 0 + dragAt ls r.1; grind, Rat.le_refl, g0⟩, ?_⟩
    · show stStep ls ((0, none), 0) r = _
      rw [stStep_eq ls _ r rfl]
      rfl
    · show some r.2 = some (0 + r.2)
      rw [Rat.zero_add]
  | r, s :: rs, hp, up => by
    obtain ⟨g0, d0⟩ := hp r List.mem_cons_self
    obtain ⟨u1, u2⟩ := List.pairwise_cons.mp up
    have us := u1 s List.mem_cons_self
    obtain ⟨q, e1, ⟨p1, p2, p3⟩, e3⟩ := east_walk s rs (fun x hx => hp x (List.mem_cons_of_mem _ hx)) u2
    have r0 : 0 < q.2.2 + r.2 + (q.2.1 + (dragAt ls r.1 - dragAt ls s.1)) := by grind
    have rz := ne_of_pos r0
    have op : OPos (leakO (dragAt ls r.1) r.2 (wireO (dragAt ls r.1 - dragAt ls s.1) (some q))) := OPos.leak (OPos.wire (fun q' hq' => by cases hq'; exact ⟨p1, p2, p3⟩) (by grind)) d0 g0
    refine ⟨_, ?_, op _ rfl, ?_⟩
    · have : (r :: s :: rs).reverse = (s :: rs).reverse ++ [r] := by simp
      rw [this, List.foldl_append, e1]
      show stStep ls _ r = _
      rw [stStep_eq ls _ r rfl]
      rfl
    · rw [List.map_cons, seenE_cons, List.map_cons, ahead_cons]
      rw [List.map_cons] at e3
      rw [e3]
      show some (besideOf r.2 (allDrag ls - dragAt ls s.1 - (allDrag ls - dragAt ls r.1) + (q.2.1 + q.2.2))) = _
      congr 1
      rw [bs_leak]
      show _ = r.2 * (q.2.1 + (dragAt ls r.1 - dragAt ls s.1)) / (q.2.2 + r.2 + (q.2.1 + (dragAt ls r.1 - dragAt ls s.1))) + q.2.2 * r.2 / (q.2.2 + r.2 + (q.2.1 + (dragAt ls r.1 - dragAt ls s.1)))
      have e : allDrag ls - dragAt ls s.1 - (allDrag ls - dragAt ls r.1) = dragAt ls r.1 - dragAt ls s.1 := by grind
      rw [e]
      have z : r.2 + (dragAt ls r.1 - dragAt ls s.1 + (q.2.1 + q.2.2)) ≠ 0 := ne_of_pos (by grind)
      unfold besideOf
      generalize dragAt ls r.1 - dragAt ls s.1 = L at *
      generalize q.2.1 = e at *
      generalize q.2.2 = f at *
      generalize r.2 = g at *
      grind
/-- the walks and the joins -/
theorem walk_all [h : LsOk ls] [hK : KsB ls xs B] {q : Sn} (hq : (stretchBy ls xs).2 = some q) :
    ahead (allDrag ls) 0 (ptsW ls xs) = some (q.1 + q.2.2) ∧ feels (allDrag ls) (ptsW ls xs) = q.2.2 ∧ ahead (allDrag ls) 0 (ptsE ls xs) = some (q.2.1 + q.2.2) := by
  have hf : finalO ls xs ((0, none), 0) = some q := hq
  cases hx : xs with
  | nil =>
    subst hx
    rw [finalO_nil] at hf
    cases hf
  | cons x ys =>
    rw [hx] at hf
    have W := walk_of (ls := ls) (xs := xs)
    rw [hx] at W
    have g0 := W.pos x List.mem_cons_self
    have d0 := W.hh x List.mem_cons_self
    rw [finalO_cons] at hf
    have e0 : leakO (dragAt ls x.1) x.2 (wireO (dragAt ls x.1 - 0) none) = some (0 + dragAt ls x.1, 0, x.2) := rfl
    rw [e0] at hf
    obtain ⟨q', e1, e2, e3⟩ := walk_some (q := (0 + dragAt ls x.1, 0, x.2)) ⟨by show 0 ≤ 0 + dragAt ls x.1; grind, Rat.le_refl, g0⟩ d0 W.tail
    rw [e1] at hf
    cases hf
    refine ⟨?_, ?_, ?_⟩
    · rw [e2]
      show ahead (allDrag ls) 0 ((dragAt ls x.1, x.2) :: ptsW ls ys) = _
      rw [ahead_cons, seenE_cons]
      show some (dragAt ls x.1 - 0 + _) = _
      congr 1
      show dragAt ls x.1 - 0 + (match ahead (allDrag ls) (dragAt ls x.1) (ptsW ls ys) with
        | none => x.2
        | some X => besideOf x.2 X) = _
      cases ahead (allDrag ls) (dragAt ls x.1) (ptsW ls ys) with
      | none => simp only []; grind
      | some X => simp only [Rat.zero_add]; grind
    · rw [e3]
      show (match ahead (allDrag ls) (dragAt ls x.1) (ptsW ls ys) with
        | none => x.2
        | some X => besideOf x.2 X / X * feels (allDrag ls) (ptsW ls ys)) = _
      cases ahead (allDrag ls) (dragAt ls x.1) (ptsW ls ys) with
      | none => rfl
      | some X => simp only [Rat.zero_add]
    · obtain ⟨r, rs, hr⟩ : ∃ r rs, xs.reverse = r :: rs := by
        cases hrr : xs.reverse with
        | nil => rw [List.reverse_eq_nil_iff.mp hrr] at hx; cases hx
        | cons r rs => exact ⟨r, rs, rfl⟩
      have mem : ∀ y ∈ r :: rs, y ∈ xs := fun y hy => by rw [← hr] at hy; exact List.mem_reverse.mp hy
      obtain ⟨q2, f1, f2, f3⟩ := east_walk (ls := ls) r rs (fun y hy => ⟨hK.pos y (mem y hy), dragAt_nonneg h.len (hK.lo y (mem y hy))⟩) (by
        rw [← hr, List.pairwise_reverse]
        refine List.Pairwise.imp_of_mem (fun {a c} ha hc hac => ?_) hK.up
        exact dragAt_le h.len (hK.lo a ha) (Rat.le_of_lt hac) (hK.hi c hc))
      rw [← hr, List.reverse_reverse] at f1
      have hq2 : (stretchBy ls xs).2 = wireO (allDrag ls - dragAt ls r.1) (some q2) := by
        unfold stretchBy
        rw [f1, join_wire]
      rw [hq] at hq2
      rw [← hx]
      unfold ptsE
      rw [hr]
      show ((seenE (allDrag ls) none ((r :: rs).map fun x => (allDrag ls - dragAt ls x.1, x.2))).map fun v => allDrag ls - dragAt ls r.1 - 0 + v) = _
      rw [f3]
      cases hq2
      show some (allDrag ls - dragAt ls r.1 - 0 + (q2.2.1 + q2.2.2)) = some (q2.2.1 + (allDrag ls - dragAt ls r.1) + q2.2.2)
      congr 1
      grind
end
section
variable {P : Nat → Option CF} [Lib P] {n : Nat} {S : Store} {m l B : Nat} {a b p : Rat} {ls : List Len} {xs : List Leak}
theorem ev_law_points_w [h : LsOk ls] [hK : KsB ls xs B] : evF P (n + 4) (f_law_points P) [.tup [.tup (ls.map enL), fr b], .tup (xs.map enK), .bl true] S = .ok (.lst ((ptsW ls xs).map enK)) S := by
  rw [evF_at (p_law_points P) rfl rfl]
  have hl := hK.len
  simp [cf_law_points]
  rw [comp_map enK (fun x => enK (dragAt ls x.1, x.2)) xs [] (by simp; omega) (fun x hx => by
    have := hK.s1 x hx
    have := hK.hB
    simp [enK, ev_law_drag_to (P := P) (m := B) (by omega) (hK.lo x hx)])]
  simp [ptsW]
theorem ev_law_points_e [h : LsOk ls] [hK : KsB ls xs B] : evF P (n + 4) (f_law_points P) [.tup [.tup (ls.map enL), fr b], .tup (xs.map enK), .bl false] S = .ok (.lst ((ptsE ls xs).map enK)) S := by
  rw [evF_at (p_law_points P) rfl rfl]
  have hl := hK.len
  simp [cf_law_points]
  rw [comp_map enK (fun x => enK (dragAt ls x.1, x.2)) xs [] (by simp; omega) (fun x hx => by
    have := hK.s1 x hx
    have := hK.hB
    simp [enK, ev_law_drag_to (P := P) (m := B) (by omega) (hK.lo x hx)])]
  simp [-List.map_reverse]
  have e : (xs.map fun x => enK (dragAt ls x.1, x.2)).reverse = xs.reverse.map fun x => enK (dragAt ls x.1, x.2) := by simp
  rw [e, comp_map (fun x : Leak => enK (dragAt ls x.1, x.2)) (fun x => enK (allDrag ls - dragAt ls x.1, x.2)) xs.reverse [] (by simp; omega) (fun x hx => by
    have := hK.s1 x (List.mem_reverse.mp hx)
    have := hK.hB
    have q : 252 + (B + 480) ≤ 130000000 := by omega
    simp [enK, ev_law_minus (a := allDrag ls) (b := dragAt ls x.1) q])]
  simp [ptsE]
@[simp] theorem enE_some {r : Rat} : enE (some r) = fr r := rfl
@[simp] theorem enE_none : enE none = .non := rfl
@[simp] theorem idx_enK0 {q : Leak} : idxEv (enK q) (.int 0) S = some (fr q.1) := by simp [enK]
@[simp] theorem idx_enK1 {q : Leak} : idxEv (enK q) (.int 1) S = some (fr q.2) := by simp [enK]
@[simp] theorem isi_enK {q : Leak} : isiEv (enK q) .tup S = some true := rfl
@[simp] theorem len_enK {q : Leak} : lenEv S (enK q) = some (.int 2) := rfl
/-- what an end sees, the other one led to e -/
def seenFrom (far : Rat) (e : Option Rat) : List Leak → Option Rat
  | [] => e.map fun _ => far
  | p :: ps => (seenE far e (p :: ps)).map fun v => p.1 + v
theorem seen_head {far : Rat} {e : Option Rat} {p : Leak} {ps : List Leak} : ∃ v vs, seenL far e (p :: ps) = v :: vs ∧ seenE far e (p :: ps) = some v := by
  refine ⟨_, _, seenL_cons far e p ps, ?_⟩
  show (match seenL far e (p :: ps) with
    | v :: _ => some v
    | [] => e) = _
  rw [seenL_cons] <;> rfl
theorem seen_end {e : Option Rat} (he : EOk B 0 e) {ps : List Leak} (h : PtOk (allDrag ls) B ps) [hl : LsOk ls] (h1 : ∀ n S, evF P (n + 4) (f_law_points P) [.tup [.tup (ls.map enL), fr b], .tup (xs.map enK), .bl k] S = .ok (.lst (ps.map enK)) S) :
    evF P (n + 5) (f_law_seen P) [.tup [.tup (ls.map enL), fr b], .tup (xs.map enK), .bl k, enE e] S = .ok (enE (seenFrom (allDrag ls) e ps)) S := by
  rw [evF_at (p_law_seen P) rfl rfl]
  have hf : Bd (allDrag ls) 300 := (inferInstance : Bd (allDrag ls) 252).mono (by omega)
  have e2 := fun S => ev_law_steps_seen (P := P) (n := n + 1) (S := S) he h
  cases hp : ps with
  | nil =>
    rw [hp] at h1
    simp only [List.map_nil] at h1
    cases e with
    | none => simp [cf_law_seen, h1, enE, seenFrom]
    | some r => simp [cf_law_seen, h1, enE, seenFrom]
  | cons q qs =>
    rw [hp] at h1 h e2
    obtain ⟨v, vs, s1, s2⟩ := seen_head (far := allDrag ls) (e := e) (p := q) (ps := qs)
    rw [s1] at e2
    have ok := (seen_ok he h).1 v s2
    have b1 := h.b1 q List.mem_cons_self
    have vb : Bd v 13000000 := ok.2.mono (vB_cap h.len h.cap h.hB)
    have hB := h.hB
    have q0 : B + 800 + 13000000 ≤ 130000000 := by omega
    simp only [List.map_cons] at h1 e2
    have ee : eqDs (enK q :: qs.map enK) [] = false := rfl
    have okk : okDs 19 (enK q :: qs.map enK) = true := okDs_enK 17 (q :: qs)
    have okk : okD 19 (enK q) = true ∧ okDs 19 (qs.map enK) = true := ⟨okD_enK 17 q, okDs_enK 17 qs⟩
    simp [cf_law_seen, h1, okk, e2, seenFrom, s2, ev_law_plus (a := q.1) (b := v) q0]
end
end Z

/-! X, part R: days, the law's and the program's. -/
namespace Z
open PySem
theorem seenL_len (far : Rat) (e : Option Rat) : ∀ ps : List Leak, (seenL far e ps).length = ps.length
  | [] => rfl
  | p :: ps => by rw [seenL_cons, List.length_cons, List.length_cons, seenL_len far e ps]
theorem seenL_app (far : Rat) (e : Option Rat) (ps : List Leak) : ∀ pre : List Leak, ∃ vs, seenL far e (pre ++ ps) = vs ++ seenL far e ps ∧ vs.length = pre.length
  | [] => ⟨[], rfl, rfl⟩
  | p :: pre => by
    obtain ⟨vs, h1, h2⟩ := seenL_app far e ps pre
    rw [List.cons_append, seenL_cons, h1]
    exact ⟨_ :: vs, rfl, by rw [List.length_cons, List.length_cons, h2]⟩
def dB (T : Nat) : Nat → Nat
  | 0 => 0
  | k + 1 => dB T k + T
theorem day_cap {B k : Nat} (hk : k + 1 ≤ 6) (hc : k + 1 ≤ 2 ∨ B ≤ 2000) (hB : B ≤ 500000) : ∃ V T, V ≤ 13000000 ∧ vB B (k + 1) ≤ V ∧ 2 * V + 2 * B + 1700 ≤ T ∧ V + dB T k ≤ 60000000 := by
  rcases hc with hc | hc
  · refine ⟨13000000, 27001700, by omega, vB_cap hk (.inl hc) hB, by omega, ?_⟩
    have : k = 0 ∨ k = 1 := by omega
    rcases this with rfl | rfl <;> simp [dB]
  · refine ⟨1800000, 3605700, by omega, vB_cap2 hk hc, by omega, ?_⟩
    have : k = 0 ∨ k = 1 ∨ k = 2 ∨ k = 3 ∨ k = 4 ∨ k = 5 := by omega
    rcases this with rfl | rfl | rfl | rfl | rfl | rfl <;> simp [dB]
section
variable {P : Nat → Option CF} [Lib P] {n : Nat} {S : Store} {m l B : Nat} {a b p : Rat} {ls : List Len} {xs : List Leak}
theorem day_loop {far : Rat} {V T : Nat} [hf : Bd far 300] (hB : B ≤ 500000) (hV : V ≤ 13000000) (hT : 2 * V + 2 * B + 1700 ≤ T) (w : List D) (C L far' : Option D) : ∀ (ps : List Leak) (p : Leak) (pre : List Leak) (F : Rat) (N : Nat) (x6 x7 : Option D), PtOk far B (pre ++ p :: ps) → vB B (ps.length + 1) ≤ V → N + dB T ps.length ≤ 60000000 → Bd F N → ∃ y6 y7 v, seenE far none (p :: ps) = some v ∧ 0 < v ∧
    forEv (run (evF P (n + 2)) (cb_law_day_1 (Lib.ix P))) (.nm 6) (.fix w) ((List.range' (pre.length + 1) ps.length).map fun k : Nat => D.int (k : Int)) [C, L, some (.lst ((pre ++ p :: ps).map enK)), far', some (.lst ((seenL far none (pre ++ p :: ps)).map fr)), some (fr F), x6, x7, none, none, none] S =
      .nx [C, L, some (.lst ((pre ++ p :: ps).map enK)), far', some (.lst ((seenL far none (pre ++ p :: ps)).map fr)), some (fr (F * feels far (p :: ps) / v)), y6, y7, none, none, none] S ∧ Bd (F * feels far (p :: ps) / v) 60000000
  | [], p, pre, F, N, x6, x7, h, hv1, hN, hF => by
    have pp := h.pos p (List.mem_append_right _ List.mem_cons_self)
    have e : F * feels far [p] / p.2 = F := by
      show F * p.2 / p.2 = F
      have := ne_of_pos pp
      grind
    refine ⟨x6, x7, p.2, rfl, pp, ?_, ?_⟩
    · rw [e]
      simp
    · rw [e]
      exact hF.mono (by simp [dB] at hN; omega)
  | q :: ps, p, pre, F, N, x6, x7, h, hv1, hN, hF => by
    have eq1 : pre ++ p :: q :: ps = (pre ++ [p]) ++ q :: ps := by simp
    have hl := h.len
    simp at hl
    have hq : PtOk far B ((pre ++ [p]) ++ q :: ps) := by rw [← eq1]; exact h
    have mem_p : p ∈ pre ++ p :: q :: ps := by simp
    have mem_q : q ∈ pre ++ p :: q :: ps := by simp
    have pp := h.pos p mem_p
    have bq := h.b1 q mem_q
    have bp := h.b1 p mem_p
    have upq : p.1 ≤ q.1 := by
      have := (List.pairwise_append.mp h.up).2.1
      exact (List.pairwise_cons.mp this).1 q List.mem_cons_self
    have tl : PtOk far B (q :: ps) := ⟨by simp; omega, by have := h.cap; simp at this; simp; omega, h.hB, fun x hx => h.pos x (by simp at hx ⊢; right; right; exact hx), fun x hx => h.b1 x (by simp at hx ⊢; right; right; exact hx), fun x hx => h.b2 x (by simp at hx ⊢; right; right; exact hx), fun x hx => h.lo x (by simp at hx ⊢; right; right; exact hx), fun x hx => h.hi x (by simp at hx ⊢; right; right; exact hx), (List.pairwise_cons.mp (List.pairwise_append.mp h.up).2.1).2⟩
    obtain ⟨v, vs, s1, s2⟩ := seen_head (far := far) (e := none) (p := q) (ps := ps)
    have so := (seen_ok (far := far) (e := none) (fun r hr => by cases hr) tl).1 v s2
    have hv2 : vB B (ps.length + 1) ≤ V := Nat.le_trans (vB_mono (by simp)) hv1
    have vb : Bd v V := so.2.mono hv2
    have X0 : ∃ X, ahead far p.1 (q :: ps) = some X ∧ X = q.1 - p.1 + v := ⟨_, by rw [ahead_cons, s2]; rfl, rfl⟩
    obtain ⟨X, hX, eX⟩ := X0
    have hv0 : 0 < v := by
      have e := seenE_cons far q ps
      rw [s2] at e
      have e := Option.some.inj e
      have qp := tl.pos q List.mem_cons_self
      cases ha : ahead far q.1 ps with
      | none => rw [ha] at e; simp only [] at e; rw [e]; exact qp
      | some Y =>
        rw [ha] at e
        simp only [] at e
        rw [e]
        exact beside_pos qp (ahead_pos (fun x hx => tl.pos x (List.mem_cons_of_mem _ hx)) (List.pairwise_cons.mp tl.up).2 (List.pairwise_cons.mp tl.up).1 ha)
    have x0 : 0 < X := by grind
    have sp : seenE far none (p :: q :: ps) = some (besideOf p.2 X) := by rw [seenE_cons, hX]
    have bpX := beside_pos pp x0
    have hz : v + (q.1 - p.1) ≠ 0 := ne_of_pos (by grind)
    have hps : (q :: ps).length = ps.length + 1 := rfl
    have hdB : dB T (q :: ps).length = dB T ps.length + T := rfl
    have hF3 : Bd (F * v / (v + (q.1 - p.1))) (N + T) := by
      exact Bd.mono (m := N + V + (V + (B + 800 + (B + 800) + 1) + 1)) inferInstance (by omega)
    obtain ⟨y6, y7, v', t1, t2, t3, t4⟩ := day_loop hB hV hT w C L far' ps q (pre ++ [p]) (F * v / (v + (q.1 - p.1))) (N + T) (some (.int ((pre.length + 1 : Nat) : Int))) (some (fr (q.1 - p.1))) hq hv2 (by omega) hF3
    rw [s2] at t1
    cases t1
    have ee : F * v / (v + (q.1 - p.1)) * feels far (q :: ps) / v = F * feels far (p :: q :: ps) / besideOf p.2 X := by
      have ef : feels far (p :: q :: ps) = besideOf p.2 X / X * feels far (q :: ps) := by
        show (match ahead far p.1 (q :: ps) with
          | none => p.2
          | some X => besideOf p.2 X / X * feels far (q :: ps)) = _
        rw [hX]
      rw [ef]
      have eX2 : v + (q.1 - p.1) = X := by grind
      rw [eX2]
      have z1 := ne_of_pos hv0
      have z2 := ne_of_pos x0
      have z3 := ne_of_pos bpX
      generalize feels far (q :: ps) = Φ
      generalize besideOf p.2 X = B at *
      grind
    rw [ee] at t3 t4
    refine ⟨y6, y7, besideOf p.2 X, sp, bpX, ?_, t4⟩
    have g1 : L2.atI ((pre ++ p :: q :: ps).map enK) ((pre.length : Int) + 1) = some (enK q) := by
      rw [atI_of (by omega), show ((pre.length : Int) + 1).toNat = pre.length + 1 by omega, List.getElem?_map, List.getElem?_append_right (by omega)]
      simp
    have g2 : L2.atI ((pre ++ p :: q :: ps).map enK) (pre.length : Int) = some (enK p) := by
      rw [atI_of (by omega), show ((pre.length : Int)).toNat = pre.length by omega, List.getElem?_map, List.getElem?_append_right (by omega)]
      simp
    obtain ⟨us, u1, u2⟩ := seenL_app far none (q :: ps) (pre ++ [p])
    have g3 : L2.atI ((seenL far none (pre ++ p :: q :: ps)).map fr) ((pre.length : Int) + 1) = some (fr v) := by
      rw [eq1, u1, s1, atI_of (by omega), show ((pre.length : Int) + 1).toNat = pre.length + 1 by omega, List.getElem?_map, List.getElem?_append_right (by rw [u2]; simp)]
      rw [u2]
      simp
    have q1 : B + 800 + (B + 800) ≤ 130000000 := by omega
    have q4 : V + (B + 800 + (B + 800) + 1) ≤ 130000000 := by omega
    have q2 : N + V ≤ 130000000 := by omega
    have q3 : N + V + (V + (B + 800 + (B + 800) + 1) + 1) ≤ 130000000 := by omega
    rw [← eq1] at t3
    have el : (pre ++ [p]).length + 1 = pre.length + 1 + 1 := by simp
    rw [el] at t3
    generalize pre ++ p :: q :: ps = PT at *
    rw [hps, List.range'_succ, List.map_cons, for_cons]
    have step1 : run (evF P (n + 2)) (cb_law_day_1 (Lib.ix P)) [C, L, some (.lst (PT.map enK)), far', some (.lst ((seenL far none PT).map fr)), some (fr F), some (.int ((pre.length + 1 : Nat) : Int)), x7, none, none, none] S =
        .nx [C, L, some (.lst (PT.map enK)), far', some (.lst ((seenL far none PT).map fr)), some (fr (F * v / (v + (q.1 - p.1)))), some (.int ((pre.length + 1 : Nat) : Int)), some (fr (q.1 - p.1)), none, none, none] S := by
      have c1 : ((pre.length + 1 : Nat) : Int) = (pre.length : Int) + 1 := by omega
      have c2 : (pre.length : Int) + 1 - 1 = (pre.length : Int) := by omega
      rw [c1]
      simp [cb_law_day_1, g1, g2, g3, c2, ev_law_minus (a := q.1) (b := p.1) q1, ev_law_plus (a := v) q4, ev_law_times (a := F) q2, ev_law_over (a := F * v) hz q3]
    simp only [stepT_nm, List.length_cons, List.length_nil, Nat.reduceAdd, Nat.reduceLT, if_true, List.set_cons_succ, List.set_cons_zero, step1]
    exact t3
theorem ev_law_day [h : LsOk ls] [hb : BkOk b] [hK : KsB ls xs B] {q : Sn} (hq : (stretchBy ls xs).2 = some q) : evF P (n + 6) (f_law_day P) [.tup [.tup (ls.map enL), fr b], .tup (xs.map enK)] S = .ok (.tup [fr (q.1 + q.2.2), fr (q.2.1 + q.2.2), fr (b + (q.1 + q.2.1))]) S := by
  rw [evF_at (p_law_day P) rfl rfl]
  have hB := hK.hB
  obtain ⟨i2, i3, i4, p1, p2, p3⟩ := ((sb_stretch P (ls := ls) (xs := xs)).mono (md' := 300) (mw' := 12100000) (m' := 12100000) (by omega) (by unfold nB; omega) (by unfold nB; omega)).seen q hq
  obtain ⟨w1, w2, w3⟩ := walk_all hq
  have hf : Bd (allDrag ls) 300 := (inferInstance : Bd (allDrag ls) 252).mono (by omega)
  have okW := ptsW_ok (ls := ls) (xs := xs)
  have okE := ptsE_ok (ls := ls) (xs := xs)
  have he : EOk B 0 none := fun r hr => by cases hr
  have hne : xs ≠ [] := fun e => by
    subst e
    unfold ptsW at w1
    cases w1
  have hxe : eqDs (xs.map enK) [] = false := by
    cases xs with
    | nil => exact absurd rfl hne
    | cons x xs => rfl
  cases hp : ptsW ls xs with
  | nil => rw [hp] at w1; cases w1
  | cons p ps =>
    rw [hp] at w1 w2 okW
    obtain ⟨v, vs, s1, s2⟩ := seen_head (far := allDrag ls) (e := none) (p := p) (ps := ps)
    have so := (seen_ok he okW).1 v s2
    obtain ⟨V, T, hV, hv1, hT, hc⟩ := day_cap (B := B) (k := ps.length) (by have := okW.len; simpa using this) (by have := okW.cap; simpa using this) hB
    have vb : Bd v V := so.2.mono hv1
    have sW : seenFrom (allDrag ls) none (p :: ps) = some (q.1 + q.2.2) := by
      show (seenE (allDrag ls) none (p :: ps)).map _ = _
      rw [ahead_cons, s2] at w1
      rw [s2]
      have := Option.some.inj w1
      show some (p.1 + v) = _
      congr 1
      grind
    have sE : seenFrom (allDrag ls) none (ptsE ls xs) = some (q.2.1 + q.2.2) := by
      cases hpe : ptsE ls xs with
      | nil => rw [hpe] at w3; cases w3
      | cons p' ps' =>
        rw [hpe] at w3
        obtain ⟨v', vs', s1', s2'⟩ := seen_head (far := allDrag ls) (e := none) (p := p') (ps := ps')
        rw [ahead_cons, s2'] at w3
        show (seenE (allDrag ls) none (p' :: ps')).map _ = _
        rw [s2']
        have := Option.some.inj w3
        show some (p'.1 + v') = _
        congr 1
        grind
    have e1 := fun n S => ev_law_points_w (P := P) (n := n) (S := S) (b := b) (ls := ls) (xs := xs)
    rw [hp] at e1
    have e2 := fun S => ev_law_steps_seen (P := P) (n := n + 2) (S := S) he okW
    rw [enE_none] at e2
    have e3 := seen_end (P := P) (n := n) (S := S) (b := b) (k := true) he okW (fun n S => e1 n S)
    rw [enE_none, sW] at e3
    have e4 := seen_end (P := P) (n := n) (S := S) (b := b) (k := false) he okE (fun n S => ev_law_points_e (P := P) (n := n) (S := S) (b := b) (ls := ls) (xs := xs))
    rw [enE_none, sE] at e4
    obtain ⟨y6, y7, v', t1, t2, t3, t4⟩ := day_loop (P := P) (n := n + 3) (S := S) hB hV hT (rngD 1 ((seenL (allDrag ls) none (p :: ps)).length : Int)) (some (.tup [.tup (ls.map enL), fr b])) (some (.tup (xs.map enK))) (some (fr (allDrag ls))) ps p [] v V none none okW hv1 hc vb
    rw [s2] at t1
    cases t1
    have ef : v * feels (allDrag ls) (p :: ps) / v = q.2.2 := by
      rw [w2]
      have := ne_of_pos t2
      grind
    rw [ef] at t3
    have er : rngD 1 ((seenL (allDrag ls) none (p :: ps)).length : Int) = (List.range' 1 ps.length).map fun k : Nat => D.int (k : Int) := by
      unfold rngD
      rw [seenL_len, List.length_cons, show (((ps.length + 1 : Nat) : Int) - 1).toNat = ps.length by omega, List.range'_eq_map_range, List.map_map]
      refine List.map_congr_left fun k _ => ?_
      simp
    simp only [List.nil_append, List.length_nil, Nat.zero_add] at t3
    rw [← er] at t3
    have hlen : (seenL (allDrag ls) none (p :: ps)).length ≤ 6 := by rw [seenL_len]; exact okW.len
    have sm1 : small62 1 := ⟨by decide, by decide⟩
    have sm2 : small62 ((seenL (allDrag ls) none (p :: ps)).length : Int) := ⟨by omega, by omega⟩
    have g0 : L2.atI ((seenL (allDrag ls) none (p :: ps)).map fr) 0 = some (fr v) := by rw [s1]; simp
    have g0' : ∀ S, idxEv (.lst ((seenL (allDrag ls) none (p :: ps)).map fr)) (.int 0) S = some (fr v) := fun S => g0
    have eW : q.1 + q.2.2 + (q.2.1 + q.2.2) - 2 * q.2.2 = q.1 + q.2.1 := by grind
    generalize seenL (allDrag ls) none (p :: ps) = VS at *
    generalize p :: ps = PS at *
    simp [cf_law_day, hxe, e1, e2, g0', sm1, sm2, t3, e3, e4, eW]
end
end Z

/-! X, part S: the program's days. -/
namespace Z
open PySem
theorem okD_str (k : Nat) {x : Str} (h : PyData.strOk x = true) : okD k (.str x) = true := by cases k <;> (rw [okD]; exact h)
@[simp] theorem okD_sound (k : Nat) : okD k (.str "sound") = true := okD_str k (by decide +kernel)
@[simp] theorem okD_wrong (k : Nat) : okD k (.str "wrong") = true := okD_str k (by decide +kernel)
@[simp] theorem okD_one (k : Nat) : okD k (.str "one") = true := okD_str k (by decide +kernel)
@[simp] theorem okD_two (k : Nat) : okD k (.str "two") = true := okD_str k (by decide +kernel)
@[simp] theorem okD_loop (k : Nat) : okD k (.str "loop") = true := okD_str k (by decide +kernel)
@[simp] theorem okD_earth (k : Nat) : okD k (.str "earth") = true := okD_str k (by decide +kernel)
@[simp] theorem okD_west (k : Nat) : okD k (.str "west") = true := okD_str k (by decide +kernel)
@[simp] theorem okD_east (k : Nat) : okD k (.str "east") = true := okD_str k (by decide +kernel)
@[simp] theorem okD_lack (k : Nat) : okD k (.str "lack") = true := okD_str k (by decide +kernel)
@[simp] theorem eqD_sound_sound : eqD (.str "sound") (.str "sound") = true := by decide +kernel
@[simp] theorem eqD_sound_wrong : eqD (.str "sound") (.str "wrong") = false := by decide +kernel
@[simp] theorem eqD_sound_one : eqD (.str "sound") (.str "one") = false := by decide +kernel
@[simp] theorem eqD_sound_two : eqD (.str "sound") (.str "two") = false := by decide +kernel
@[simp] theorem eqD_sound_loop : eqD (.str "sound") (.str "loop") = false := by decide +kernel
@[simp] theorem eqD_sound_earth : eqD (.str "sound") (.str "earth") = false := by decide +kernel
@[simp] theorem eqD_sound_west : eqD (.str "sound") (.str "west") = false := by decide +kernel
@[simp] theorem eqD_sound_east : eqD (.str "sound") (.str "east") = false := by decide +kernel
@[simp] theorem eqD_sound_lack : eqD (.str "sound") (.str "lack") = false := by decide +kernel
@[simp] theorem is_sound_non {S : Store} : cmpEv .is (.str "sound") .non S = some (.bl false) := rfl
@[simp] theorem isnot_sound_non {S : Store} : cmpEv .isnot (.str "sound") .non S = some (.bl true) := rfl
@[simp] theorem eqD_wrong_sound : eqD (.str "wrong") (.str "sound") = false := by decide +kernel
@[simp] theorem eqD_wrong_wrong : eqD (.str "wrong") (.str "wrong") = true := by decide +kernel
@[simp] theorem eqD_wrong_one : eqD (.str "wrong") (.str "one") = false := by decide +kernel
@[simp] theorem eqD_wrong_two : eqD (.str "wrong") (.str "two") = false := by decide +kernel
@[simp] theorem eqD_wrong_loop : eqD (.str "wrong") (.str "loop") = false := by decide +kernel
@[simp] theorem eqD_wrong_earth : eqD (.str "wrong") (.str "earth") = false := by decide +kernel
@[simp] theorem eqD_wrong_west : eqD (.str "wrong") (.str "west") = false := by decide +kernel
@[simp] theorem eqD_wrong_east : eqD (.str "wrong") (.str "east") = false := by decide +kernel
@[simp] theorem eqD_wrong_lack : eqD (.str "wrong") (.str "lack") = false := by decide +kernel
@[simp] theorem is_wrong_non {S : Store} : cmpEv .is (.str "wrong") .non S = some (.bl false) := rfl
@[simp] theorem isnot_wrong_non {S : Store} : cmpEv .isnot (.str "wrong") .non S = some (.bl true) := rfl
@[simp] theorem eqD_one_sound : eqD (.str "one") (.str "sound") = false := by decide +kernel
@[simp] theorem eqD_one_wrong : eqD (.str "one") (.str "wrong") = false := by decide +kernel
@[simp] theorem eqD_one_one : eqD (.str "one") (.str "one") = true := by decide +kernel
@[simp] theorem eqD_one_two : eqD (.str "one") (.str "two") = false := by decide +kernel
@[simp] theorem eqD_one_loop : eqD (.str "one") (.str "loop") = false := by decide +kernel
@[simp] theorem eqD_one_earth : eqD (.str "one") (.str "earth") = false := by decide +kernel
@[simp] theorem eqD_one_west : eqD (.str "one") (.str "west") = false := by decide +kernel
@[simp] theorem eqD_one_east : eqD (.str "one") (.str "east") = false := by decide +kernel
@[simp] theorem eqD_one_lack : eqD (.str "one") (.str "lack") = false := by decide +kernel
@[simp] theorem is_one_non {S : Store} : cmpEv .is (.str "one") .non S = some (.bl false) := rfl
@[simp] theorem isnot_one_non {S : Store} : cmpEv .isnot (.str "one") .non S = some (.bl true) := rfl
@[simp] theorem eqD_two_sound : eqD (.str "two") (.str "sound") = false := by decide +kernel
@[simp] theorem eqD_two_wrong : eqD (.str "two") (.str "wrong") = false := by decide +kernel
@[simp] theorem eqD_two_one : eqD (.str "two") (.str "one") = false := by decide +kernel
@[simp] theorem eqD_two_two : eqD (.str "two") (.str "two") = true := by decide +kernel
@[simp] theorem eqD_two_loop : eqD (.str "two") (.str "loop") = false := by decide +kernel
@[simp] theorem eqD_two_earth : eqD (.str "two") (.str "earth") = false := by decide +kernel
@[simp] theorem eqD_two_west : eqD (.str "two") (.str "west") = false := by decide +kernel
@[simp] theorem eqD_two_east : eqD (.str "two") (.str "east") = false := by decide +kernel
@[simp] theorem eqD_two_lack : eqD (.str "two") (.str "lack") = false := by decide +kernel
@[simp] theorem is_two_non {S : Store} : cmpEv .is (.str "two") .non S = some (.bl false) := rfl
@[simp] theorem isnot_two_non {S : Store} : cmpEv .isnot (.str "two") .non S = some (.bl true) := rfl
@[simp] theorem eqD_loop_sound : eqD (.str "loop") (.str "sound") = false := by decide +kernel
@[simp] theorem eqD_loop_wrong : eqD (.str "loop") (.str "wrong") = false := by decide +kernel
@[simp] theorem eqD_loop_one : eqD (.str "loop") (.str "one") = false := by decide +kernel
@[simp] theorem eqD_loop_two : eqD (.str "loop") (.str "two") = false := by decide +kernel
@[simp] theorem eqD_loop_loop : eqD (.str "loop") (.str "loop") = true := by decide +kernel
@[simp] theorem eqD_loop_earth : eqD (.str "loop") (.str "earth") = false := by decide +kernel
@[simp] theorem eqD_loop_west : eqD (.str "loop") (.str "west") = false := by decide +kernel
@[simp] theorem eqD_loop_east : eqD (.str "loop") (.str "east") = false := by decide +kernel
@[simp] theorem eqD_loop_lack : eqD (.str "loop") (.str "lack") = false := by decide +kernel
@[simp] theorem is_loop_non {S : Store} : cmpEv .is (.str "loop") .non S = some (.bl false) := rfl
@[simp] theorem isnot_loop_non {S : Store} : cmpEv .isnot (.str "loop") .non S = some (.bl true) := rfl
@[simp] theorem eqD_earth_sound : eqD (.str "earth") (.str "sound") = false := by decide +kernel
@[simp] theorem eqD_earth_wrong : eqD (.str "earth") (.str "wrong") = false := by decide +kernel
@[simp] theorem eqD_earth_one : eqD (.str "earth") (.str "one") = false := by decide +kernel
@[simp] theorem eqD_earth_two : eqD (.str "earth") (.str "two") = false := by decide +kernel
@[simp] theorem eqD_earth_loop : eqD (.str "earth") (.str "loop") = false := by decide +kernel
@[simp] theorem eqD_earth_earth : eqD (.str "earth") (.str "earth") = true := by decide +kernel
@[simp] theorem eqD_earth_west : eqD (.str "earth") (.str "west") = false := by decide +kernel
@[simp] theorem eqD_earth_east : eqD (.str "earth") (.str "east") = false := by decide +kernel
@[simp] theorem eqD_earth_lack : eqD (.str "earth") (.str "lack") = false := by decide +kernel
@[simp] theorem is_earth_non {S : Store} : cmpEv .is (.str "earth") .non S = some (.bl false) := rfl
@[simp] theorem isnot_earth_non {S : Store} : cmpEv .isnot (.str "earth") .non S = some (.bl true) := rfl
@[simp] theorem eqD_west_sound : eqD (.str "west") (.str "sound") = false := by decide +kernel
@[simp] theorem eqD_west_wrong : eqD (.str "west") (.str "wrong") = false := by decide +kernel
@[simp] theorem eqD_west_one : eqD (.str "west") (.str "one") = false := by decide +kernel
@[simp] theorem eqD_west_two : eqD (.str "west") (.str "two") = false := by decide +kernel
@[simp] theorem eqD_west_loop : eqD (.str "west") (.str "loop") = false := by decide +kernel
@[simp] theorem eqD_west_earth : eqD (.str "west") (.str "earth") = false := by decide +kernel
@[simp] theorem eqD_west_west : eqD (.str "west") (.str "west") = true := by decide +kernel
@[simp] theorem eqD_west_east : eqD (.str "west") (.str "east") = false := by decide +kernel
@[simp] theorem eqD_west_lack : eqD (.str "west") (.str "lack") = false := by decide +kernel
@[simp] theorem is_west_non {S : Store} : cmpEv .is (.str "west") .non S = some (.bl false) := rfl
@[simp] theorem isnot_west_non {S : Store} : cmpEv .isnot (.str "west") .non S = some (.bl true) := rfl
@[simp] theorem eqD_east_sound : eqD (.str "east") (.str "sound") = false := by decide +kernel
@[simp] theorem eqD_east_wrong : eqD (.str "east") (.str "wrong") = false := by decide +kernel
@[simp] theorem eqD_east_one : eqD (.str "east") (.str "one") = false := by decide +kernel
@[simp] theorem eqD_east_two : eqD (.str "east") (.str "two") = false := by decide +kernel
@[simp] theorem eqD_east_loop : eqD (.str "east") (.str "loop") = false := by decide +kernel
@[simp] theorem eqD_east_earth : eqD (.str "east") (.str "earth") = false := by decide +kernel
@[simp] theorem eqD_east_west : eqD (.str "east") (.str "west") = false := by decide +kernel
@[simp] theorem eqD_east_east : eqD (.str "east") (.str "east") = true := by decide +kernel
@[simp] theorem eqD_east_lack : eqD (.str "east") (.str "lack") = false := by decide +kernel
@[simp] theorem is_east_non {S : Store} : cmpEv .is (.str "east") .non S = some (.bl false) := rfl
@[simp] theorem isnot_east_non {S : Store} : cmpEv .isnot (.str "east") .non S = some (.bl true) := rfl
@[simp] theorem eqD_lack_sound : eqD (.str "lack") (.str "sound") = false := by decide +kernel
@[simp] theorem eqD_lack_wrong : eqD (.str "lack") (.str "wrong") = false := by decide +kernel
@[simp] theorem eqD_lack_one : eqD (.str "lack") (.str "one") = false := by decide +kernel
@[simp] theorem eqD_lack_two : eqD (.str "lack") (.str "two") = false := by decide +kernel
@[simp] theorem eqD_lack_loop : eqD (.str "lack") (.str "loop") = false := by decide +kernel
@[simp] theorem eqD_lack_earth : eqD (.str "lack") (.str "earth") = false := by decide +kernel
@[simp] theorem eqD_lack_west : eqD (.str "lack") (.str "west") = false := by decide +kernel
@[simp] theorem eqD_lack_east : eqD (.str "lack") (.str "east") = false := by decide +kernel
@[simp] theorem eqD_lack_lack : eqD (.str "lack") (.str "lack") = true := by decide +kernel
@[simp] theorem is_lack_non {S : Store} : cmpEv .is (.str "lack") .non S = some (.bl false) := rfl
@[simp] theorem isnot_lack_non {S : Store} : cmpEv .isnot (.str "lack") .non S = some (.bl true) := rfl

@[simp] theorem at3 {a b c d : D} {ds : List D} : L2.atI (a :: b :: c :: d :: ds) 3 = some d := by rw [atI_of (by decide)]; rfl
@[simp] theorem at4 {a b c d e : D} {ds : List D} : L2.atI (a :: b :: c :: d :: e :: ds) 4 = some e := by rw [atI_of (by decide)]; rfl
@[simp] theorem at5 {a b c d e f : D} {ds : List D} : L2.atI (a :: b :: c :: d :: e :: f :: ds) 5 = some f := by rw [atI_of (by decide)]; rfl

theorem placeWith_dragAt : ∀ {ls : List Len} {p : Rat}, (∀ x ∈ ls, LenOk x) → 0 ≤ p → p ≤ (allSteps ls : Int) → placeWith ls (dragAt ls p) = p
  | [], p, _, h0, h1 => by
    have : ((allSteps [] : Int) : Rat) = 0 := rfl
    rw [this] at h1
    show 0 = p
    grind
  | x :: ls, p, h, h0, h1 => by
    have hr := fun y hy => h y (List.mem_cons_of_mem _ hy)
    have x1 := lenPos (h x List.mem_cons_self)
    have x2 := (h x List.mem_cons_self).pos
    rw [allSteps_cons] at h1
    unfold dragAt placeWith
    by_cases c : (x.1 : Rat) < p
    · rw [if_pos c]
      have d0 : 0 < dragAt ls (p - x.1) := by
        have := dragAt_mono (ls := ls) (p := 0) (q := p - x.1) hr Rat.le_refl (by grind) (by grind)
        rwa [dragAt_zero hr] at this
      rw [if_pos (by grind)]
      have e : (x.1 : Rat) * x.2 + dragAt ls (p - x.1) - (x.1 : Rat) * x.2 = dragAt ls (p - x.1) := by grind
      rw [e, placeWith_dragAt hr (by grind) (by grind)]
      grind
    · rw [if_neg c]
      have := Rat.mul_le_mul_of_nonneg_right (show p ≤ (x.1 : Rat) by grind) (Rat.le_of_lt x2)
      rw [if_neg (by grind)]
      have := ne_of_pos x2
      grind
section
variable {P : Nat → Option CF} [Lib P] {n : Nat} {S : Store} {m l k : Nat} {a b p x y z w e f g : Rat} {ls : List Len} {xs : List Leak}
theorem ev_day_by_none [Bd a m] [Bd b l] (h : l + m ≤ 130000000) : evF P (n + 4) (f_day_by P) [.tup [fr a, .non], fr b] S = .ok (.tup [.non, .non, fr (b + a)]) S := by
  rw [evF_at (p_day_by P) rfl rfl]
  simp [cf_day_by, ev_add (a := b) h]
theorem ev_day_by_some {k1 k2 k3 : Nat} {o : D} [Bd w k1] [Bd e k2] [Bd f k3] [Bd b l] (h1 : k1 + k3 ≤ 130000000) (h2 : k2 + k3 ≤ 130000000) (h3 : k1 + k2 ≤ 130000000) (h4 : l + (k1 + k2 + 1) ≤ 130000000) : evF P (n + 4) (f_day_by P) [.tup [o, .tup [fr w, fr e, fr f]], fr b] S = .ok (.tup [fr (w + f), fr (e + f), fr (b + (w + e))]) S := by
  rw [evF_at (p_day_by P) rfl rfl]
  simp [cf_day_by, ev_add (a := w) h1, ev_add (a := e) h2, ev_add (a := w) (b := e) h3, ev_add (a := b) h4]
/-- the day of leaks -/
def enDay (b : Rat) (s : Stretch) : D := match s.2 with
  | none => .tup [.non, .non, fr (b + s.1)]
  | some q => .tup [fr (q.1 + q.2.2), fr (q.2.1 + q.2.2), fr (b + (q.1 + q.2.1))]
theorem ev_day_of {B : Nat} [h : LsOk ls] [hb : BkOk b] [hK : KsB ls xs B] : evF P (n + 8) (f_day_of P) [.tup [.tup (ls.map enL), fr b], .tup (xs.map enK)] S = .ok (enDay b (stretchBy ls xs)) S := by
  rw [evF_at (p_day_of P) rfl rfl]
  have hB := hK.hB
  have sb := (sb_stretch P (ls := ls) (xs := xs)).mono (md' := 300) (mw' := 12100000) (m' := 12100000) (by omega) (by unfold nB; omega) (by unfold nB; omega)
  have i1 := sb.d
  have key : ∀ S, evF P (n + 7) (f_day_by P) [enS (stretchBy ls xs), fr b] S = .ok (enDay b (stretchBy ls xs)) S := fun S => by
    obtain ⟨s, hs⟩ : ∃ s, stretchBy ls xs = s := ⟨_, rfl⟩
    rw [hs] at sb i1 ⊢
    obtain ⟨d, o⟩ := s
    have i1 : Bd d 300 := i1
    cases o with
    | none => exact ev_day_by_none (a := d) (by decide)
    | some q =>
      obtain ⟨i2, i3, i4, _⟩ := sb.seen q rfl
      exact ev_day_by_some (w := q.1) (e := q.2.1) (f := q.2.2) (by decide) (by decide) (by decide) (by decide)
  simp [cf_day_of, key]
theorem ev_is_day_none (h : 0 ≤ z) : evF P (n + 4) (f_is_day P) [.tup [.non, .non, fr z]] S = .ok (.bl true) S := by
  rw [evF_at (p_is_day P) rfl rfl]
  simp [cf_is_day, h]
theorem ev_is_day_some (hx : 0 < x) (hy : 0 < y) (h : 0 ≤ z) : evF P (n + 4) (f_is_day P) [.tup [fr x, fr y, fr z]] S = .ok (.bl true) S := by
  rw [evF_at (p_is_day P) rfl rfl]
  simp [cf_is_day, h, hx, hy]
theorem ev_check_day_none (h : 0 ≤ z) : evF P (n + 5) (f_check_day P) [.tup [.non, .non, fr z]] S = .ok .non S := by
  rw [evF_at (p_check_day P) rfl rfl]
  simp [cf_check_day, ev_is_day_none (P := P) h]
theorem ev_check_day_some (hx : 0 < x) (hy : 0 < y) (h : 0 ≤ z) : evF P (n + 5) (f_check_day P) [.tup [fr x, fr y, fr z]] S = .ok .non S := by
  rw [evF_at (p_check_day P) rfl rfl]
  simp [cf_check_day, ev_is_day_some (P := P) hx hy h]
/-- WEST, EAST, EARTH, LACK -/
theorem ev_four_of {k1 k2 k3 : Nat} [h : LsOk ls] [hb : BkOk b] [Bd x k1] [Bd y k2] [Bd z k3] (hk : 2 * k1 + k2 + k3 ≤ 129000000) (hk2 : k1 + 2 * k2 + k3 ≤ 129000000) {E W V L : Rat} (hE : (x + y + b - z) / 2 = E) (hW : x - E = W) (hV : y - E = V) (hL : b + allDrag ls - z = L) :
    evF P (n + 5) (f_four_of P) [.tup [.tup (ls.map enL), fr b], .tup [fr x, fr y, fr z]] S = .ok (.tup [fr W, fr V, fr E, fr L]) S := by
  rw [evF_at (p_four_of P) rfl rfl]
  subst hE hW hV hL
  have q1 : k1 + k2 ≤ 130000000 := by omega
  have q2 : k1 + k2 + 1 + 10 ≤ 130000000 := by omega
  have q3 : k1 + k2 + 1 + 10 + 1 + k3 ≤ 130000000 := by omega
  have q4 : 10 + 252 + 1 + k3 ≤ 130000000 := by omega
  have q5 : k1 + (k1 + k2 + 1 + 10 + 1 + k3 + 1 + 1) ≤ 130000000 := by omega
  have q6 : k2 + (k1 + k2 + 1 + 10 + 1 + k3 + 1 + 1) ≤ 130000000 := by omega
  simp [cf_four_of, ev_add (a := x) (b := y) q1, ev_add (a := x + y) q2, ev_less (a := x + y + b) q3, ev_less (a := b + allDrag ls) q4, ev_less (a := x) q5, ev_less (a := y) q6]
theorem ev_law_star {k1 k2 k3 : Nat} [h : LsOk ls] [hb : BkOk b] [Bd x k1] [Bd y k2] [Bd z k3] (hk : 2 * k1 + k2 + k3 ≤ 129000000) (hk2 : k1 + 2 * k2 + k3 ≤ 129000000) {E W V L : Rat} (hE : (x + y + b - z) / 2 = E) (hW : x - E = W) (hV : y - E = V) (hL : b + allDrag ls - z = L) :
    evF P (n + 5) (f_law_star P) [.tup [.tup (ls.map enL), fr b], .tup [fr x, fr y, fr z]] S = .ok (.tup [fr W, fr V, fr E, fr L]) S := by
  rw [evF_at (p_law_star P) rfl rfl]
  have hE' : (x + y + b - z) * (1 / 2) = E := by rw [← hE]; grind
  subst hE' hW hV hL
  have q1 : k1 + k2 ≤ 130000000 := by omega
  have q2 : k1 + k2 + 1 + 10 ≤ 130000000 := by omega
  have q3 : k1 + k2 + 1 + 10 + 1 + k3 ≤ 130000000 := by omega
  have q4 : 10 + 252 + 1 + k3 ≤ 130000000 := by omega
  have hb2 : Bd (1 / 2 : Rat) 1 := ⟨by decide +kernel, by decide +kernel⟩
  have half : (D.tup [.int 1, .int 2]) = fr (1 / 2) := by simp [fr]; decide +kernel
  have q5 : k1 + (k1 + k2 + 1 + 10 + 1 + k3 + 1 + 1) ≤ 130000000 := by omega
  have q6 : k2 + (k1 + k2 + 1 + 10 + 1 + k3 + 1 + 1) ≤ 130000000 := by omega
  have q7 : k1 + k2 + 1 + 10 + 1 + k3 + 1 + 1 ≤ 130000000 := by omega
  simp [cf_law_star, half, ev_law_plus (a := x) (b := y) q1, ev_law_plus (a := x + y) q2, ev_law_minus (a := x + y + b) q3, ev_law_times (a := x + y + b - z) q7, ev_law_minus (a := b + allDrag ls) q4, ev_law_minus (a := x) q5, ev_law_minus (a := y) q6]
theorem ev_fault_none {k1 k2 k3 k4 : Nat} [Bd w k1] [Bd e k2] [Bd f k3] [Bd g k4] (hk : k1 + k2 + k3 + k4 ≤ 130000000) (h1 : 0 ≤ g) (h2 : 0 < f) (h3 : 0 ≤ w) (h4 : 0 ≤ e) (h5 : f * g ≤ w * e) : evF P (n + 4) (f_fault_in P) [.tup [fr w, fr e, fr f, fr g]] S = .ok .non S := by
  rw [evF_at (p_fault_in P) rfl rfl]
  have q1 : k4 + 0 ≤ 130000000 := by omega
  have q2 : 0 + k3 ≤ 130000000 := by omega
  have q3 : k1 + 0 ≤ 130000000 := by omega
  have q4 : k2 + 0 ≤ 130000000 := by omega
  have q5 : k1 + k2 ≤ 130000000 := by omega
  have q6 : k3 + k4 ≤ 130000000 := by omega
  have q7 : k1 + k2 + (k3 + k4) ≤ 130000000 := by omega
  have z0 : ((0 : Int) : Rat) = 0 := rfl
  simp [cf_fault_in, ev_is_less (a := g) (b := 0) q1, ev_is_less (a := 0) (b := f) q2, ev_is_less (a := w) (b := 0) q3, ev_is_less (a := e) (b := 0) q4, ev_mul (a := w) q5, ev_mul (a := f) q6, ev_is_less (a := w * e) (b := f * g) q7, Rat.not_lt.mpr h1, h2, Rat.not_lt.mpr h3, Rat.not_lt.mpr h4, Rat.not_lt.mpr h5]
end
end Z

/-! X, part T: the kind of a day of leaks. -/
namespace Z
open PySem
def kindD : List Leak → D
  | [] => .tup [.str "sound"]
  | [x] => .tup [.str "one", .tup [fr x.1, fr x.2]]
  | _ => .tup [.str "two"]
/-- what a day of leaks tells, in numbers -/
structure DayOf (ls : List Len) (xs : List Leak) (q : Sn) (N : Nat) : Prop where
  hN : N ≤ 12100000
  st : stretchBy ls xs = (allDrag ls, some q)
  b1 : Bd q.1 N
  b2 : Bd q.2.1 N
  b3 : Bd q.2.2 N
  p1 : 0 ≤ q.1
  p2 : 0 ≤ q.2.1
  p3 : 0 < q.2.2
  fit : q.2.2 * (allDrag ls - q.1 - q.2.1) ≤ q.1 * q.2.1
  lk : 0 ≤ allDrag ls - q.1 - q.2.1
  one : ∀ x, xs = [x] → q = (dragAt ls x.1, allDrag ls - dragAt ls x.1, x.2)
  two : 2 ≤ xs.length → 0 < allDrag ls - q.1 - q.2.1
theorem day_of (P : Nat → Option CF) [Lib P] {ls : List Len} {xs : List Leak} {B : Nat} [h : LsOk ls] [hK : KsB ls xs B] (hne : xs ≠ []) : ∃ q, DayOf ls xs q (nB B) := by
  obtain ⟨N, e⟩ := net (ls := ls) (xs := xs)
  have hB := hK.hB
  have sb := sb_stretch P (ls := ls) (xs := xs)
  rcases N with ⟨k0, _⟩ | ⟨q, hq, _, hf, hk⟩
  · exact absurd (List.eq_nil_of_length_eq_zero k0) hne
  · obtain ⟨i2, i3, i4, p1, p2, p3⟩ := sb.seen q hq
    refine ⟨q, by unfold nB; omega, ?_, i2, i3, i4, p1, p2, p3, hf, ?_, fun x hx => ?_, fun h2 => ?_⟩
    · rw [← e, ← hq]
    · rcases hk with ⟨_, z⟩ | ⟨_, z⟩ <;> grind
    · subst hx
      have : (stretchBy ls [x]).2 = some (0 + dragAt ls x.1, 0 + (allDrag ls - dragAt ls x.1), x.2) := by
        show finalO ls [x] ((0, none), 0) = _
        rw [finalO_cons, finalO_nil]
        rfl
      rw [hq] at this
      cases this
      refine Prod.ext ?_ (Prod.ext ?_ rfl)
      · show 0 + dragAt ls x.1 = dragAt ls x.1; grind
      · show 0 + (allDrag ls - dragAt ls x.1) = allDrag ls - dragAt ls x.1; grind
    · rcases hk with ⟨k1, _⟩ | ⟨_, z⟩
      · omega
      · grind
theorem st_nil {ls : List Len} : stretchBy ls [] = (allDrag ls, none) := by
  unfold stretchBy
  simp only [List.foldl_nil]
  rw [join_wire]
  have e : 0 + (allDrag ls - 0) = allDrag ls := by grind
  rw [e]
  rfl
section
variable {P : Nat → Option CF} [Lib P] {n : Nat} {S : Store} {m l k B N : Nat} {a b p x y z w e f g : Rat} {ls : List Len} {xs : List Leak} {q : Sn}
theorem enDay_nil : enDay b (stretchBy ls []) = .tup [.non, .non, fr (b + allDrag ls)] := by rw [st_nil]; rfl
theorem DayOf.day (h : DayOf ls xs q N) : enDay b (stretchBy ls xs) = .tup [fr (q.1 + q.2.2), fr (q.2.1 + q.2.2), fr (b + (q.1 + q.2.1))] := by rw [h.st]; rfl
theorem DayOf.ne (h : DayOf ls xs q N) : xs ≠ [] := fun e => by
  subst e
  have := h.st
  rw [st_nil] at this
  cases this
theorem DayOf.four [hl : LsOk ls] [hb : BkOk b] (h : DayOf ls xs q N) : evF P (n + 5) (f_four_of P) [.tup [.tup (ls.map enL), fr b], .tup [fr (q.1 + q.2.2), fr (q.2.1 + q.2.2), fr (b + (q.1 + q.2.1))]] S = .ok (.tup [fr q.1, fr q.2.1, fr q.2.2, fr (allDrag ls - q.1 - q.2.1)]) S := by
  have hN := h.hN
  have := h.b1
  have := h.b2
  have := h.b3
  exact ev_four_of (x := q.1 + q.2.2) (y := q.2.1 + q.2.2) (z := b + (q.1 + q.2.1)) (by omega) (by omega) (by grind) (by grind) (by grind) (by grind)
theorem DayOf.lstar [hl : LsOk ls] [hb : BkOk b] (h : DayOf ls xs q N) : evF P (n + 5) (f_law_star P) [.tup [.tup (ls.map enL), fr b], .tup [fr (q.1 + q.2.2), fr (q.2.1 + q.2.2), fr (b + (q.1 + q.2.1))]] S = .ok (.tup [fr q.1, fr q.2.1, fr q.2.2, fr (allDrag ls - q.1 - q.2.1)]) S := by
  have hN := h.hN
  have := h.b1
  have := h.b2
  have := h.b3
  exact ev_law_star (x := q.1 + q.2.2) (y := q.2.1 + q.2.2) (z := b + (q.1 + q.2.1)) (by omega) (by omega) (by grind) (by grind) (by grind) (by grind)
theorem DayOf.fault [hl : LsOk ls] (h : DayOf ls xs q N) : evF P (n + 4) (f_fault_in P) [.tup [fr q.1, fr q.2.1, fr q.2.2, fr (allDrag ls - q.1 - q.2.1)]] S = .ok .non S := by
  have hN := h.hN
  have := h.b1
  have := h.b2
  have := h.b3
  exact ev_fault_none (w := q.1) (e := q.2.1) (f := q.2.2) (g := allDrag ls - q.1 - q.2.1) (by omega) h.lk h.p3 h.p1 h.p2 h.fit
theorem ev_kind_nil [hl : LsOk ls] [hb : BkOk b] : evF P (n + 6) (f_kind_by P) [.tup [.tup (ls.map enL), fr b], .tup [.non, .non, fr (b + allDrag ls)]] S = .ok (.tup [.str "sound"]) S := by
  rw [evF_at (p_kind_by P) rfl rfl]
  simp [cf_kind_by]
theorem DayOf.kind [hl : LsOk ls] [hb : BkOk b] [hK : KsB ls xs B] (h : DayOf ls xs q N) : evF P (n + 6) (f_kind_by P) [.tup [.tup (ls.map enL), fr b], .tup [fr (q.1 + q.2.2), fr (q.2.1 + q.2.2), fr (b + (q.1 + q.2.1))]] S = .ok (kindD xs) S := by
  rw [evF_at (p_kind_by P) rfl rfl]
  have hN := h.hN
  have b1 := h.b1
  have b2 := h.b2
  have b3 := h.b3
  have hp : N ≤ 120000000 := by omega
  have e1 := fun S => h.four (P := P) (n := n) (S := S) (b := b)
  have e2 := fun S => h.fault (P := P) (n := n + 1) (S := S)
  match hx : xs with
  | [] => exact absurd rfl h.ne
  | [x] =>
    have hq := h.one x rfl
    have z : allDrag ls - q.1 - q.2.1 = 0 := by rw [hq]; grind
    rw [z] at e1 e2
    have mx : x ∈ xs := by rw [hx]; exact List.mem_cons_self
    have hlo := hK.lo x mx
    have hhi := hK.hi x mx
    have hb1 := hK.s1 x mx
    have e3 : placeWith ls q.1 = x.1 := by rw [hq]; exact placeWith_dragAt hl.len hlo hhi
    have e4 : q.2.2 = x.2 := by rw [hq]
    simp [cf_kind_by, e1, e2, kindD, ev_place_with (p := q.1) hp, e3]
    rw [e4]
  | x :: y :: r =>
    have z := ne_of_pos (h.two (by simp))
    generalize allDrag ls - q.1 - q.2.1 = L at *
    simp [cf_kind_by, e1, e2, kindD, z]
theorem ev_kind_of_nil [hl : LsOk ls] [hb : BkOk b] : evF P (n + 7) (f_kind_of P) [.tup [.tup (ls.map enL), fr b], .tup [.non, .non, fr (b + allDrag ls)]] S = .ok (.tup [.str "sound"]) S := by
  rw [evF_at (p_kind_of P) rfl rfl]
  have := drag_pos (ls := ls)
  have hz : 0 ≤ b + allDrag ls := by have := hb.back; grind
  simp [cf_kind_of, ev_check_day_none (P := P) hz, ev_kind_nil]
theorem DayOf.check [hb : BkOk b] (h : DayOf ls xs q N) : evF P (n + 5) (f_check_day P) [.tup [fr (q.1 + q.2.2), fr (q.2.1 + q.2.2), fr (b + (q.1 + q.2.1))]] S = .ok .non S :=
  ev_check_day_some (by have := h.p1; have := h.p3; grind) (by have := h.p2; have := h.p3; grind) (by have := h.p1; have := h.p2; have := hb.back; grind)
theorem DayOf.kind_of [hl : LsOk ls] [hb : BkOk b] [hK : KsB ls xs B] (h : DayOf ls xs q N) : evF P (n + 7) (f_kind_of P) [.tup [.tup (ls.map enL), fr b], .tup [fr (q.1 + q.2.2), fr (q.2.1 + q.2.2), fr (b + (q.1 + q.2.1))]] S = .ok (kindD xs) S := by
  rw [evF_at (p_kind_of P) rfl rfl]
  simp [cf_kind_of, h.check, h.kind]
theorem kind_two : ∀ {xs : List Leak}, 2 ≤ xs.length → kindD xs = .tup [.str "two"]
  | [], h => by simp at h
  | [_], h => by simp at h
  | _ :: _ :: _, _ => rfl
/-- the first word of a kind -/
def wordD : List Leak → D
  | [] => .str "sound"
  | [x] => .str "one"
  | _ => .str "two"
theorem kind_idx : idxEv (kindD xs) (.int 0) S = some (wordD xs) := by
  match xs with
  | [] => exact at0
  | [x] => exact at0
  | x :: y :: r => exact at0
theorem word_wrong : cmpEv .eq (wordD xs) (.str "wrong") S = some (.bl false) := by
  match xs with
  | [] => show cmpEv .eq (.str "sound") (.str "wrong") S = _; simp
  | [x] => show cmpEv .eq (.str "one") (.str "wrong") S = _; simp
  | x :: y :: r => show cmpEv .eq (.str "two") (.str "wrong") S = _; simp
theorem DayOf.seen_of [hl : LsOk ls] [hb : BkOk b] (h : DayOf ls xs q N) : evF P (n + 6) (f_seen_of P) [.tup [.tup (ls.map enL), fr b], .tup [fr (q.1 + q.2.2), fr (q.2.1 + q.2.2), fr (b + (q.1 + q.2.1))]] S = .ok (enSn q) S := by
  rw [evF_at (p_seen_of P) rfl rfl]
  have e1 := fun S => h.four (P := P) (n := n) (S := S) (b := b)
  simp [cf_seen_of, e1, cut_take, enSn]
theorem ev_seen_of_nil : evF P (n + 6) (f_seen_of P) [.tup [.tup (ls.map enL), fr b], .tup [.non, .non, fr z]] S = .ok .non S := by
  rw [evF_at (p_seen_of P) rfl rfl]
  simp [cf_seen_of]
theorem DayOf.seen_by [hl : LsOk ls] [hb : BkOk b] [hK : KsB ls xs B] (h : DayOf ls xs q N) : evF P (n + 7) (f_seen_by P) [.tup [.tup (ls.map enL), fr b], .tup [fr (q.1 + q.2.2), fr (q.2.1 + q.2.2), fr (b + (q.1 + q.2.1))]] S = .ok (enSn q) S := by
  rw [evF_at (p_seen_by P) rfl rfl]
  simp [cf_seen_by, h.check, h.kind, kind_idx, word_wrong, h.seen_of]
theorem ev_seen_by_nil [hl : LsOk ls] [hb : BkOk b] : evF P (n + 7) (f_seen_by P) [.tup [.tup (ls.map enL), fr b], .tup [.non, .non, fr (b + allDrag ls)]] S = .ok .non S := by
  rw [evF_at (p_seen_by P) rfl rfl]
  have := drag_pos (ls := ls)
  have hz : 0 ≤ b + allDrag ls := by have := hb.back; grind
  simp [cf_seen_by, ev_check_day_none (P := P) hz, ev_kind_nil, ev_seen_of_nil]
theorem DayOf.two_of [hl : LsOk ls] [hb : BkOk b] [hK : KsB ls xs B] (h : DayOf ls xs q N) (h2 : 2 ≤ xs.length) : evF P (n + 7) (f_check_two P) [.tup [.tup (ls.map enL), fr b], .tup [fr (q.1 + q.2.2), fr (q.2.1 + q.2.2), fr (b + (q.1 + q.2.1))]] S = .ok (.tup [fr q.1, fr q.2.1, fr q.2.2, fr (allDrag ls - q.1 - q.2.1)]) S := by
  rw [evF_at (p_check_two P) rfl rfl]
  have hk := kind_two h2
  have e1 := fun S => h.kind (P := P) (n := n) (S := S) (b := b)
  rw [hk] at e1
  simp [cf_check_two, h.check, e1, h.four]
theorem DayOf.ldays [hl : LsOk ls] [hb : BkOk b] [hK : KsB ls xs B] (h : DayOf ls xs q N) : evF P (n + 6) (f_law_day P) [.tup [.tup (ls.map enL), fr b], .tup (xs.map enK)] S = .ok (.tup [fr (q.1 + q.2.2), fr (q.2.1 + q.2.2), fr (b + (q.1 + q.2.1))]) S := ev_law_day (by rw [h.st])
theorem ev_law_day_nil [hl : LsOk ls] [hb : BkOk b] : evF P (n + 6) (f_law_day P) [.tup [.tup (ls.map enL), fr b], .tup []] S = .ok (.tup [.non, .non, fr (b + allDrag ls)]) S := by
  rw [evF_at (p_law_day P) rfl rfl]
  simp [cf_law_day]
theorem DayOf.dday [hl : LsOk ls] [hb : BkOk b] [hK : KsB ls xs B] (h : DayOf ls xs q N) : evF P (n + 8) (f_day_of P) [.tup [.tup (ls.map enL), fr b], .tup (xs.map enK)] S = .ok (.tup [fr (q.1 + q.2.2), fr (q.2.1 + q.2.2), fr (b + (q.1 + q.2.1))]) S := by rw [ev_day_of, h.day]
theorem ev_day_of_nil [hl : LsOk ls] [hb : BkOk b] : evF P (n + 8) (f_day_of P) [.tup [.tup (ls.map enL), fr b], .tup []] S = .ok (.tup [.non, .non, fr (b + allDrag ls)]) S := by
  have := ev_day_of (P := P) (n := n) (S := S) (ls := ls) (b := b) (xs := [])
  rw [enDay_nil] at this
  exact this
end
end Z

/-! X, part U: places of drags; pairs that make a day of two. -/
namespace Z
open PySem
theorem div_le_of {a b c : Rat} (hb : 0 < b) (h : a ≤ c * b) : a / b ≤ c := by
  by_cases q : a / b ≤ c
  · exact q
  · have t := Rat.mul_lt_mul_of_pos_right (Rat.not_le.mp q) hb
    have hz := ne_of_pos hb
    have e : a / b * b = a := by grind
    rw [e] at t
    exact absurd h (Rat.not_le.mpr t)
theorem place_ok : ∀ {ls : List Len} {d : Rat}, (∀ x ∈ ls, LenOk x) → 0 ≤ d → d ≤ allDrag ls → dragAt ls (placeWith ls d) = d ∧ 0 ≤ placeWith ls d ∧ placeWith ls d ≤ (allSteps ls : Int)
  | [], d, _, h0, h1 => by
    have e : allDrag [] = 0 := rfl
    rw [e] at h1
    refine ⟨?_, Rat.le_refl, Rat.le_refl⟩
    show (0 : Rat) = d
    grind
  | x :: ls, d, h, h0, h1 => by
    have hr := fun y hy => h y (List.mem_cons_of_mem _ hy)
    have x1 := lenPos (h x List.mem_cons_self)
    have x2 := (h x List.mem_cons_self).pos
    have xx := Rat.mul_pos x1 x2
    have s0 : (0 : Rat) ≤ ((allSteps ls : Int) : Rat) := by
      have := Rat.intCast_le_intCast.mpr (steps_pos hr).1
      simpa using this
    rw [allDrag_cons] at h1
    rw [allSteps_cons]
    unfold dragAt placeWith
    by_cases c : (x.1 : Rat) * x.2 < d
    · simp only [if_pos c]
      obtain ⟨i1, i2, i3⟩ := place_ok (d := d - (x.1 : Rat) * x.2) hr (by grind) (by grind)
      have p0 : 0 < placeWith ls (d - (x.1 : Rat) * x.2) := by
        by_cases z : placeWith ls (d - (x.1 : Rat) * x.2) = 0
        · rw [z, dragAt_zero hr] at i1
          grind
        · grind
      have e : (x.1 : Rat) + placeWith ls (d - (x.1 : Rat) * x.2) - (x.1 : Rat) = placeWith ls (d - (x.1 : Rat) * x.2) := by grind
      rw [if_pos (by grind), e, i1]
      exact ⟨by grind, by grind, by grind⟩
    · simp only [if_neg c]
      have hz := ne_of_pos x2
      have q : d / x.2 ≤ (x.1 : Rat) := by
        exact div_le_of x2 (by grind)
      rw [if_neg (by grind)]
      exact ⟨by grind, div_nonneg h0 x2, by grind⟩
/-- what a pair tells, by the west leak's drag from the west end -/
structure PairN (D w e f L A : Rat) : Prop where
  hL : D - w - e = L
  l0 : 0 < L
  f0 : 0 < f
  w0 : 0 ≤ w
  e0 : 0 ≤ e
  fit : f * L ≤ w * e
  a0 : 0 ≤ A
  a1 : A ≤ w - f * L / e
def armN (w A : Rat) : Rat := w - A
def othN (w f L A : Rat) : Rat := f * L / (w - A)
def wayN (w f L A : Rat) : Rat := L + (w - A + f * L / (w - A))
theorem PairN.we {D w e f L A : Rat} (h : PairN D w e f L A) : 0 < w ∧ 0 < e := by
  have hfl := Rat.mul_pos h.f0 h.l0
  have := h.fit
  have := h.w0
  have := h.e0
  constructor
  · by_cases z : w = 0
    · subst z; rw [Rat.zero_mul] at *; grind
    · grind
  · by_cases z : e = 0
    · subst z; rw [Rat.mul_zero] at *; grind
    · grind
theorem PairN.arm {D w e f L A : Rat} (h : PairN D w e f L A) : 0 < w - A ∧ 0 < f * L / (w - A) ∧ f * L / (w - A) ≤ e := by
  have hfl := Rat.mul_pos h.f0 h.l0
  obtain ⟨w1, e1⟩ := h.we
  have := h.a1
  have q := div_pos hfl e1
  have a : 0 < w - A := by grind
  refine ⟨a, div_pos hfl a, ?_⟩
  refine div_le_of a ?_
  have t : f * L / e * e ≤ (w - A) * e := Rat.mul_le_mul_of_nonneg_right (by grind) (Rat.le_of_lt e1)
  have hz := ne_of_pos e1
  have q2 : f * L / e * e = f * L := by grind
  rw [q2] at t
  grind
theorem PairN.way {D w e f L A : Rat} (h : PairN D w e f L A) : 0 < wayN w f L A ∧ A + wayN w f L A ≤ D := by
  obtain ⟨a1, a2, a3⟩ := h.arm
  have := h.l0
  have := h.hL
  unfold wayN
  constructor <;> grind
theorem PairN.drags {D w e f L A : Rat} (h : PairN D w e f L A) : 0 < (w - A) * wayN w f L A / L ∧ 0 < f * L / (w - A) * wayN w f L A / L := by
  obtain ⟨a1, a2, a3⟩ := h.arm
  have l1 := h.way.1
  exact ⟨div_pos (Rat.mul_pos a1 l1) h.l0, div_pos (Rat.mul_pos a2 l1) h.l0⟩
theorem PairN.join {D w e f L A : Rat} (h : PairN D w e f L A) :
    wireO (D - (A + wayN w f L A)) (leakO (A + wayN w f L A) (f * L / (w - A) * wayN w f L A / L) (wireO (A + wayN w f L A - A) (some (0 + A, 0, (w - A) * wayN w f L A / L)))) = some (w, e, f) := by
  obtain ⟨a1, a2, a3⟩ := h.arm
  have l1 := h.way.1
  have d := h.drags
  have hl : w - A + f * L / (w - A) + L = wayN w f L A := by unfold wayN; grind
  have ho : f * L / (w - A) * (w - A) = f * L := by have := ne_of_pos a1; grind
  have h0 := ne_of_pos h.l0
  have hD := h.hL
  generalize wayN w f L A = l at *
  generalize f * L / (w - A) = o at *
  have e1 : A + l - A = l := by grind
  rw [e1]
  have z := ne_of_pos l1
  obtain ⟨d1, hd1⟩ : ∃ d1, (w - A) * l / L = d1 := ⟨_, rfl⟩
  obtain ⟨d2, hd2⟩ : ∃ d2, o * l / L = d2 := ⟨_, rfl⟩
  rw [hd1, hd2]
  have m1 : d1 * L = (w - A) * l := by grind
  have m2 : d2 * L = o * l := by grind
  have rd : (d1 + d2 + (0 + l + 0)) * L = l * l := by grind
  have rz : d1 + d2 + (0 + l + 0) ≠ 0 := fun q => by
    rw [q, Rat.zero_mul] at rd
    have := Rat.mul_pos l1 l1
    grind
  show some (((0 + A) + d1 * (0 + l + 0) / (d1 + d2 + (0 + l + 0)), (0 + d2 * (0 + l + 0) / (d1 + d2 + (0 + l + 0))) + (D - (A + l)), d1 * d2 / (d1 + d2 + (0 + l + 0))) : Rat × Rat × Rat) = _
  generalize d1 + d2 + (0 + l + 0) = R at *
  have p1 : d1 * (0 + l + 0) / R = w - A := by grind
  have p2 : d2 * (0 + l + 0) / R = o := by grind
  have p3 : d1 * d2 / R = f := by
    have q1 : d1 * d2 * (L * L) = f * L * (l * l) := by grind
    have q2 : d1 * d2 * (L * L) = f * L * (R * L) := by grind
    have q3 : d1 * d2 = f * R := by grind
    grind
  rw [p1, p2, p3]
  congr 2
  · grind
  · congr 1
    grind
def pairL (ls : List Len) (w f L p : Rat) : List Leak := [(p, (w - dragAt ls p) * wayN w f L (dragAt ls p) / L), (placeWith ls (dragAt ls p + wayN w f L (dragAt ls p)), f * L / (w - dragAt ls p) * wayN w f L (dragAt ls p) / L)]
theorem pair_places {ls : List Len} [h : LsOk ls] {w e f L p : Rat} (hp : 0 ≤ p) (hp2 : p ≤ (allSteps ls : Int)) (H : PairN (allDrag ls) w e f L (dragAt ls p)) :
    dragAt ls (placeWith ls (dragAt ls p + wayN w f L (dragAt ls p))) = dragAt ls p + wayN w f L (dragAt ls p) ∧ p < placeWith ls (dragAt ls p + wayN w f L (dragAt ls p)) ∧ placeWith ls (dragAt ls p + wayN w f L (dragAt ls p)) ≤ (allSteps ls : Int) := by
  obtain ⟨l1, l2⟩ := H.way
  have a0 := H.a0
  obtain ⟨i1, i2, i3⟩ := place_ok h.len (d := dragAt ls p + wayN w f L (dragAt ls p)) (by grind) l2
  refine ⟨i1, ?_, i3⟩
  by_cases q : p < placeWith ls (dragAt ls p + wayN w f L (dragAt ls p))
  · exact q
  · have := dragAt_le h.len i2 (Rat.not_lt.mp q) hp2
    rw [i1] at this
    grind
theorem pair_ks {ls : List Len} [h : LsOk ls] {w e f L p : Rat} (hp : 0 ≤ p) (hp2 : p ≤ (allSteps ls : Int)) (H : PairN (allDrag ls) w e f L (dragAt ls p)) [b1 : Bd w 16800] [b3 : Bd f 16800] [b4 : Bd L 33854] [b5 : Bd p 86500] : KsB ls (pairL ls w f L p) 500000 := by
  obtain ⟨i1, i2, i3⟩ := pair_places hp hp2 H
  obtain ⟨d1, d2⟩ := H.drags
  have bl : Bd (wayN w f L (dragAt ls p)) 292100 := by
    unfold wayN
    exact Bd.mono (m := 33854 + (16800 + (86500 + 480) + 1 + (16800 + 33854 + (16800 + (86500 + 480) + 1)) + 1) + 1) inferInstance (by decide)
  refine ⟨by simp [pairL], .inl (by simp [pairL]), by decide, ?_, ?_, ?_, ?_, ?_, ?_⟩
  · intro x hx
    simp only [pairL, List.mem_cons, List.not_mem_nil, or_false] at hx
    rcases hx with rfl | rfl
    · exact hp
    · show 0 ≤ placeWith ls _; grind
  · intro x hx
    simp only [pairL, List.mem_cons, List.not_mem_nil, or_false] at hx
    rcases hx with rfl | rfl
    · exact hp2
    · exact i3
  · intro x hx
    simp only [pairL, List.mem_cons, List.not_mem_nil, or_false] at hx
    rcases hx with rfl | rfl
    · exact d1
    · exact d2
  · intro x hx
    simp only [pairL, List.mem_cons, List.not_mem_nil, or_false] at hx
    rcases hx with rfl | rfl
    · exact b5.mono (by decide)
    · exact Bd.mono (m := 86500 + 480 + 292100 + 1 + 480) inferInstance (by decide)
  · intro x hx
    simp only [pairL, List.mem_cons, List.not_mem_nil, or_false] at hx
    rcases hx with rfl | rfl
    · exact Bd.mono (m := 16800 + (86500 + 480) + 1 + 292100 + 33854) inferInstance (by decide)
    · exact Bd.mono (m := 16800 + 33854 + (16800 + (86500 + 480) + 1) + 292100 + 33854) inferInstance (by decide)
  · refine List.pairwise_cons.mpr ⟨fun y hy => ?_, List.pairwise_cons.mpr ⟨fun y hy => (by cases hy), List.Pairwise.nil⟩⟩
    simp only [List.mem_cons, List.not_mem_nil, or_false] at hy
    subst hy
    exact i2
theorem pair_stretch {ls : List Len} [h : LsOk ls] {w e f L p : Rat} (hp : 0 ≤ p) (hp2 : p ≤ (allSteps ls : Int)) (H : PairN (allDrag ls) w e f L (dragAt ls p)) [b1 : Bd w 16800] [b3 : Bd f 16800] [b4 : Bd L 33854] [b5 : Bd p 86500] : stretchBy ls (pairL ls w f L p) = (allDrag ls, some (w, e, f)) := by
  have K := pair_ks hp hp2 H
  have e1 := (net (ls := ls) (xs := pairL ls w f L p)).2
  obtain ⟨i1, i2, i3⟩ := pair_places hp hp2 H
  have e2 : (stretchBy ls (pairL ls w f L p)).2 = some (w, e, f) := by
    show finalO ls (pairL ls w f L p) ((0, none), 0) = _
    unfold pairL
    rw [finalO_cons, finalO_cons, finalO_nil]
    simp only [i1]
    have e0 : leakO (dragAt ls p) ((w - dragAt ls p) * wayN w f L (dragAt ls p) / L) (wireO (dragAt ls p - 0) none) = some (0 + dragAt ls p, 0, (w - dragAt ls p) * wayN w f L (dragAt ls p) / L) := rfl
    rw [e0]
    exact H.join
  exact Prod.ext e1 e2
section
variable {P : Nat → Option CF} [Lib P] {n : Nat} {S : Store} {m l k N : Nat} {a b p x y z w e f g L A : Rat} {ls : List Len} {xs : List Leak} {q : Sn}
theorem ev_spans_by [hl : LsOk ls] [Bd w N] [Bd e N] [Bd f N] [Bd L m] (hN : 4 * N + m ≤ 120000000) (hw : 0 < w) (he : 0 < e) : evF P (n + 5) (f_spans_by P) [.tup [.tup (ls.map enL), fr b], .tup [fr w, fr e, fr f, fr L]] S = .ok (.tup [.tup [fr 0, fr (w - f * L / e)], .tup [fr (allDrag ls - e + f * L / w), fr (allDrag ls)]]) S := by
  rw [evF_at (p_spans_by P) rfl rfl]
  have q1 : N + m ≤ 130000000 := by omega
  have q2 : N + m + N ≤ 130000000 := by omega
  have q3 : N + (N + m + N) ≤ 130000000 := by omega
  have q4 : 252 + N ≤ 130000000 := by omega
  have q5 : 252 + N + 1 + (N + m + N) ≤ 130000000 := by omega
  simp [cf_spans_by, ev_mul (a := f) (b := L) q1, ev_div (a := f * L) (b := e) (ne_of_pos he) q2, ev_div (a := f * L) (b := w) (ne_of_pos hw) q2, ev_less (a := w) q3, ev_less (a := allDrag ls) q4, ev_add (a := allDrag ls - e) q5]
theorem ev_partner_by [hl : LsOk ls] [Bd w N] [Bd f N] [Bd L m] [Bd A k] (hN : 10 * N + 10 * m + 10 * k ≤ 120000000) (hw : w - A ≠ 0) (hL : L ≠ 0) : evF P (n + 5) (f_partner_by P) [.tup [.tup (ls.map enL), fr b], .tup [fr w, fr e, fr f, fr L], fr A] S = .ok (.tup [fr A, fr ((w - A) * wayN w f L A / L), fr (A + wayN w f L A), fr (f * L / (w - A) * wayN w f L A / L)]) S := by
  rw [evF_at (p_partner_by P) rfl rfl]
  have q1 : N + k ≤ 130000000 := by omega
  have q2 : N + m ≤ 130000000 := by omega
  have q3 : N + m + (N + k + 1) ≤ 130000000 := by omega
  have q4 : N + k + 1 + (N + m + (N + k + 1)) ≤ 130000000 := by omega
  have q5 : m + (N + k + 1 + (N + m + (N + k + 1)) + 1) ≤ 130000000 := by omega
  have bl : Bd (wayN w f L A) (m + (N + k + 1 + (N + m + (N + k + 1)) + 1) + 1) := by unfold wayN; infer_instance
  have el : L + (w - A + f * L / (w - A)) = wayN w f L A := rfl
  have q6 : N + k + 1 + (m + (N + k + 1 + (N + m + (N + k + 1)) + 1) + 1) ≤ 130000000 := by omega
  have q7 : N + k + 1 + (m + (N + k + 1 + (N + m + (N + k + 1)) + 1) + 1) + m ≤ 130000000 := by omega
  have q8 : k + (m + (N + k + 1 + (N + m + (N + k + 1)) + 1) + 1) ≤ 130000000 := by omega
  have q9 : N + m + (N + k + 1) + (m + (N + k + 1 + (N + m + (N + k + 1)) + 1) + 1) ≤ 130000000 := by omega
  have q10 : N + m + (N + k + 1) + (m + (N + k + 1 + (N + m + (N + k + 1)) + 1) + 1) + m ≤ 130000000 := by omega
  simp [cf_partner_by, ev_less (a := w) (b := A) q1, ev_mul (a := f) (b := L) q2, ev_div (a := f * L) (b := w - A) hw q3, ev_add (a := w - A) q4, ev_add (a := L) q5, el, ev_mul (a := w - A) q6, ev_div (a := (w - A) * wayN w f L A) hL q7, ev_add (a := A) q8, ev_mul (a := f * L / (w - A)) q9, ev_div (a := f * L / (w - A) * wayN w f L A) hL q10]
theorem ev_check_place [h : LsOk ls] [hp : Bd p m] (hm : m ≤ 120000000) (h0 : 0 ≤ p) (h1 : p ≤ (allSteps ls : Int)) : evF P (n + 5) (f_check_place P) [.tup [.tup (ls.map enL), fr b], fr p] S = .ok .non S := by
  rw [evF_at (p_check_place P) rfl rfl]
  simp [cf_check_place, ev_is_place (P := P) (p := p) hm, h0, h1]
theorem ev_drag_within [h : LsOk ls] [hp : Bd p m] [Bd x k] [Bd y l] (hm : m + k + l ≤ 120000000) (h0 : 0 ≤ p) (h1 : p ≤ (allSteps ls : Int)) (h2 : x ≤ dragAt ls p) (h3 : dragAt ls p ≤ y) : evF P (n + 6) (f_drag_within P) [.tup [.tup (ls.map enL), fr b], .tup [fr x, fr y], fr p] S = .ok (fr (dragAt ls p)) S := by
  rw [evF_at (p_drag_within P) rfl rfl]
  have q0 : m ≤ 120000000 := by omega
  have q1 : m + 480 + k ≤ 130000000 := by omega
  have q2 : l + (m + 480) ≤ 130000000 := by omega
  simp [cf_drag_within, ev_check_place (P := P) (p := p) q0 h0 h1, ev_drag_at (P := P) (p := p) q0, ev_is_less (a := dragAt ls p) (b := x) q1, ev_is_less (a := y) (b := dragAt ls p) q2, Rat.not_lt.mpr h2, Rat.not_lt.mpr h3]
theorem ev_places_with [h : LsOk ls] [Bd x k] [Bd y l] (hk : k ≤ 120000000) (hm : l ≤ 120000000) : evF P (n + 5) (f_places_with P) [.tup [.tup (ls.map enL), fr b], .tup [fr x, fr y]] S = .ok (.tup [fr (placeWith ls x), fr (placeWith ls y)]) S := by
  rw [evF_at (p_places_with P) rfl rfl]
  simp [cf_places_with, ev_place_with (P := P) (p := x) hk, ev_place_with (P := P) (p := y) hm]
end
end Z

/-! Y, part B: measures by their words. -/
namespace Z
open PySem
/-- a word of a measure: west, to earth -/
def wd (w e : Bool) : Str := match w, e with
  | true, false => "west free"
  | false, false => "east free"
  | true, true => "west earth"
  | false, true => "east earth"
def endO (e : Bool) : Option Rat := if e then some 0 else none
def ptsX (w : Bool) (ls : List Len) (xs : List Leak) : List Leak := if w then ptsW ls xs else ptsE ls xs
section
variable {P : Nat → Option CF} [Lib P] {n : Nat} {S : Store} {m l B N T : Nat} {a b p t x near far : Rat} {ls : List Len} {xs : List Leak}
theorem sl4 (w e : Bool) : slEv (.str (wd w e)) none (some 4) S = some (.str (if w then "west" else "east")) := by
  cases w <;> cases e <;> rfl
theorem sl5 (w e : Bool) : slEv (.str (wd w e)) (some 5) none S = some (.str (if e then "earth" else "free")) := by
  cases w <;> cases e <;> rfl
@[simp] theorem okD_free (k : Nat) : okD k (.str "free") = true := okD_str k (by decide +kernel)
@[simp] theorem eqD_free_earth : eqD (.str "free") (.str "earth") = false := by decide +kernel
@[simp] theorem eqD_free_free : eqD (.str "free") (.str "free") = true := by decide +kernel
@[simp] theorem eqD_earth_free : eqD (.str "earth") (.str "free") = false := by decide +kernel
theorem eq_earth (e : Bool) : cmpEv .eq (.str (if e then "earth" else "free")) (.str "earth") S = some (.bl e) := by
  cases e <;> (rw [eq_ev (by decide +kernel) (by decide +kernel)]; rfl)
theorem eq_free (e : Bool) : cmpEv .eq (.str (if e then "earth" else "free")) (.str "free") S = some (.bl (!e)) := by
  cases e <;> (rw [eq_ev (by decide +kernel) (by decide +kernel)]; rfl)
theorem eq_west (w : Bool) : cmpEv .eq (.str (if w then "west" else "east")) (.str "west") S = some (.bl w) := by
  cases w <;> (rw [eq_ev (by decide +kernel) (by decide +kernel)]; rfl)
theorem eq_east (w : Bool) : cmpEv .eq (.str (if w then "west" else "east")) (.str "east") S = some (.bl (!w)) := by
  cases w <;> (rw [eq_ev (by decide +kernel) (by decide +kernel)]; rfl)
theorem in_east (w e : Bool) : cmpEv .isin (.str (wd w e)) (.tup [.str "east free", .str "east earth"]) S = some (.bl (!w)) := by
  cases w <;> cases e <;> rfl
theorem in_free (w e : Bool) : cmpEv .isin (.str (wd w e)) (.tup [.str "west free", .str "east free"]) S = some (.bl (!e)) := by
  cases w <;> cases e <;> rfl
theorem notin_words (w e : Bool) : cmpEv .notin (.str (wd w e)) (.tup [.str "west free", .str "east free", .str "west earth", .str "east earth"]) S = some (.bl false) := by
  cases w <;> cases e <;> rfl
theorem endO_ok (e : Bool) : EOk B 0 (endO e) := by
  intro r hr
  cases e
  · cases hr
  · cases hr
    exact ⟨Rat.le_refl, Bd.mono (m := 0) inferInstance (by unfold vB; omega)⟩
theorem enE_endO (e : Bool) : L2.atI [.non, fr 0] (if e then 1 else 0) = some (enE (endO e)) := by
  cases e <;> rfl
theorem ev_law_seen_x [h : LsOk ls] [hK : KsB ls xs B] (w e : Bool) : evF P (n + 5) (f_law_seen P) [.tup [.tup (ls.map enL), fr b], .tup (xs.map enK), .bl w, enE (endO e)] S = .ok (enE (seenFrom (allDrag ls) (endO e) (ptsX w ls xs))) S := by
  cases w
  · exact seen_end (endO_ok e) ptsE_ok fun n S => ev_law_points_e
  · exact seen_end (endO_ok e) ptsW_ok fun n S => ev_law_points_w
/-- a measure as walked -/
theorem ev_law_read [h : LsOk ls] [hK : KsB ls xs B] (w e : Bool) : evF P (n + 6) (f_law_read P) [.tup [.tup (ls.map enL), fr b], .tup (xs.map enK), .str (wd w e)] S = .ok (enE (seenFrom (allDrag ls) (endO e) (ptsX w ls xs))) S := by
  rw [evF_at (p_law_read P) rfl rfl]
  have z0 : D.tup [.int 0, .int 1] = fr 0 := rfl
  have e0 := enE_endO e
  have e1 : (if e = true then (1 : Int) else 0) = if e then 1 else 0 := rfl
  cases e
  · have q := ev_law_seen_x (P := P) (n := n) (S := S) (b := b) (ls := ls) (xs := xs) w false
    rw [show endO false = none from rfl, enE_none] at q
    simp [cf_law_read, sl4, sl5, eq_earth, eq_west, q, endO]
  · have q := ev_law_seen_x (P := P) (n := n) (S := S) (b := b) (ls := ls) (xs := xs) w true
    rw [show endO true = some 0 from rfl, enE_some] at q
    simp [cf_law_read, sl4, sl5, eq_earth, eq_west, q, endO]
/-! one leak -/
theorem seen_one (far : Rat) (e : Bool) (at' d : Rat) : seenFrom far (endO e) [(at', d)] = some (at' + if e then besideOf d (0 + (far - at')) else d) := by
  cases e <;> rfl
def nearX (w : Bool) (ls : List Len) (x : Rat) : Rat := if w then dragAt ls x else allDrag ls - dragAt ls x
theorem pts_one (w : Bool) (x d : Rat) : ptsX w ls [(x, d)] = [(nearX w ls x, d)] := by
  cases w <;> rfl
theorem far_near (w : Bool) (x : Rat) : allDrag ls - nearX w ls x = nearX (!w) ls x := by
  cases w <;> simp only [nearX, Bool.not_true, Bool.not_false, if_true, Bool.false_eq_true, if_false] <;> grind
/-- the drag of the leak that makes a reading -/
def dueOf (e : Bool) (near far t : Rat) : Option Rat := if t - near ≤ 0 then none else if e then (if t - near < far then some ((t - near) * far / (far - (t - near))) else none) else some (t - near)
theorem ev_drag_with (w e : Bool) [Bd near N] [Bd far N] [Bd t T] (h : 4 * N + 4 * T ≤ 120000000) : evF P (n + 4) (f_drag_with P) [fr near, fr far, .str (wd w e), fr t] S = .ok (enE (dueOf e near far t)) S := by
  rw [evF_at (p_drag_with P) rfl rfl]
  have q1 : T + N ≤ 130000000 := by omega
  have q2 : (T + N + 1) + N ≤ 130000000 := by omega
  have q3 : N + (T + N + 1) ≤ 130000000 := by omega
  have q4 : (T + N + 1 + N) + (N + (T + N + 1) + 1) ≤ 130000000 := by omega
  by_cases c : t - near ≤ 0
  · have c' : ¬ 0 < t - near := Rat.not_lt.mpr c
    simp [cf_drag_with, ev_less (a := t) (b := near) q1, dueOf, c, c', enE]
  · have c' : 0 < t - near := Rat.not_le.mp c
    cases e
    · simp [cf_drag_with, ev_less (a := t) (b := near) q1, dueOf, c, c', in_free, enE]
    · by_cases c2 : t - near < far
      · have z : far - (t - near) ≠ 0 := by grind
        simp [cf_drag_with, ev_less (a := t) (b := near) q1, dueOf, c, c', in_free, enE, c2, ev_is_less (a := t - near) (b := far) q2, ev_mul (a := t - near) (b := far) q2, ev_less (a := far) (b := t - near) q3, ev_div (a := (t - near) * far) (b := far - (t - near)) z q4]
      · simp [cf_drag_with, ev_less (a := t) (b := near) q1, dueOf, c, c', in_free, enE, c2, ev_is_less (a := t - near) (b := far) q2]
theorem ev_check_word (w e : Bool) : evF P (n + 1) (f_check_word P) [.str (wd w e)] S = .ok .non S := by
  rw [evF_at (p_check_word P) rfl rfl]
  have q : isiEv (.str (wd w e)) .str S = some true := rfl
  simp [cf_check_word, notin_words, q]
theorem ev_check_reading (h : 0 ≤ t) : evF P (n + 4) (f_check_reading P) [fr t] S = .ok .non S := by
  rw [evF_at (p_check_reading P) rfl rfl]
  simp [cf_check_reading, h]
theorem nearX_bd [h : LsOk ls] [Bd x m] (w : Bool) : Bd (nearX w ls x) (m + 800) := by
  cases w
  · show Bd (allDrag ls - dragAt ls x) _
    exact Bd.mono (m := 252 + (m + 480) + 1) inferInstance (by omega)
  · show Bd (dragAt ls x) _
    exact Bd.mono (m := m + 480) inferInstance (by omega)
theorem ev_drag_by [h : LsOk ls] [hb : BkOk b] (w e : Bool) [Bd t T] [Bd x m] (hm : 4 * m + 4 * T ≤ 110000000) (h0 : 0 ≤ x) (h1 : x ≤ (allSteps ls : Int)) (ht : 0 ≤ t) : evF P (n + 8) (f_drag_by P) [.tup [.tup (ls.map enL), fr b], .str (wd w e), fr t, fr x] S = .ok (enE (dueOf e (nearX w ls x) (nearX (!w) ls x) t)) S := by
  rw [evF_at (p_drag_by P) rfl rfl]
  have q1 : 252 + (m + 480) ≤ 130000000 := by omega
  have b1 := nearX_bd (ls := ls) (x := x) (m := m) w
  have b2 := nearX_bd (ls := ls) (x := x) (m := m) (!w)
  have q2 : 4 * (m + 800) + 4 * T ≤ 120000000 := by omega
  have e1 := fun S => ev_drag_with (P := P) (n := n + 3) (S := S) (near := nearX w ls x) (far := nearX (!w) ls x) (t := t) w e q2
  cases w
  · simp only [nearX, Bool.not_false, if_true, Bool.false_eq_true, if_false] at e1 ⊢
    simp [cf_drag_by, ev_check_word, ev_check_reading ht, ev_check_place (P := P) (p := x) (m := m) (by omega) h0 h1, ev_drag_at (P := P) (p := x) (m := m) (by omega), ev_less (a := allDrag ls) (b := dragAt ls x) q1, in_east, e1]
  · simp only [nearX, Bool.not_true, if_true, Bool.false_eq_true, if_false] at e1 ⊢
    simp [cf_drag_by, ev_check_word, ev_check_reading ht, ev_check_place (P := P) (p := x) (m := m) (by omega) h0 h1, ev_drag_at (P := P) (p := x) (m := m) (by omega), ev_less (a := allDrag ls) (b := dragAt ls x) q1, in_east, e1]
theorem ev_law_place_at [h : LsOk ls] [hp : Bd p m] (hm : m ≤ 120000000) : evF P (n + 3) (f_law_place_at P) [.tup [.tup (ls.map enL), fr b], fr p] S = .ok (fr (placeWith ls p)) S := by
  rw [evF_at (p_law_place_at P) rfl rfl]
  let C : D := .tup [.tup (ls.map enL), fr b]
  let E : Int × Rat × Option D × Option D × Option D → Env := fun s => [some C, some (fr s.2.1), some (.int s.1), s.2.2.1, s.2.2.2.1, s.2.2.2.2]
  let f : Int × Rat × Option D × Option D × Option D → Len → (Int × Rat × Option D × Option D × Option D) ⊕ D := fun s x => if (x.1 : Rat) * x.2 < s.2.1 then .inl (s.1 + x.1, s.2.1 - (x.1 : Rat) * x.2, some (.int x.1), some (fr x.2), some (fr ((x.1 : Rat) * x.2))) else .inr (fr ((s.1 : Rat) + s.2.1 / x.2))
  have e : ∀ (ws : List D), forEv (run (evF P (n + 2)) (cb_law_place_at_1 (Lib.ix P))) (.tp (.cons (.nm 3) (.cons (.nm 4) .nil))) (.fix ws) (ls.map enL) (E (0, p, none, none, none)) S
      = outR E S (foldR f (0, p, none, none, none) ls) := fun ws =>
    for_ret (body := run (evF P (n + 2)) (cb_law_place_at_1 (Lib.ix P))) (tg := (.tp (.cons (.nm 3) (.cons (.nm 4) .nil)))) (S := S) (ws := ws) enL E f
      (fun xs s => (∀ x ∈ xs, LenOk x) ∧ xs.length ≤ 12 ∧ IB s.1 (11 * (12 - xs.length)) ∧ Bd s.2.1 (m + 21 * (12 - xs.length))) (fun x xs s ⟨h1, h2, h3, h4⟩ => by
        have i1 := (h1 x List.mem_cons_self).ib
        have i2 := (h1 x List.mem_cons_self).bd
        have xp := (h1 x List.mem_cons_self).pos
        have xz : x.2 ≠ 0 := fun e => by rw [e] at xp; exact absurd xp Rat.lt_irrefl
        simp at h2
        have b3 : IB s.1 132 := h3.mono (by omega)
        have b4 : Bd s.2.1 (m + 252) := h4.mono (by omega)
        have q1 : (10 + 10) + (m + 252) ≤ 130000000 := by omega
        have q2 : (m + 252) + (10 + 10) ≤ 130000000 := by omega
        have q3 : (m + 252) + 10 ≤ 130000000 := by omega
        have q4 : 132 + (m + 252 + 10) ≤ 130000000 := by omega
        by_cases c : (x.1 : Rat) * x.2 < s.2.1
        · refine ⟨by simp [E, f, enL, cb_law_place_at_1, c, ev_law_below q1, ev_law_minus q2, C], fun s' hs' => ?_⟩
          simp only [f, if_pos c] at hs'
          cases hs'
          refine ⟨fun y hy => h1 y (List.mem_cons_of_mem _ hy), by omega, ?_, ?_⟩
          · show IB (s.1 + x.1) _
            clear b3
            exact IB.mono (m := 11 * (12 - (x :: xs).length) + 10 + 1) inferInstance (by simp; omega)
          · show Bd (s.2.1 - (x.1 : Rat) * x.2) _
            clear b4
            exact Bd.mono (m := m + 21 * (12 - (x :: xs).length) + (10 + 10) + 1) inferInstance (by simp; omega)
        · refine ⟨by simp [E, f, enL, cb_law_place_at_1, c, ev_law_below q1, ev_law_over xz q3, ev_law_plus (b := s.2.1 / x.2) q4, C], fun s' hs' => ?_⟩
          simp only [f, if_neg c] at hs'
          cases hs') ls (0, p, none, none, none)
      ⟨h.len, h.hi, IB.mono (m := 0) (inferInstanceAs (IB 0 0)) (by omega), hp.mono (by omega)⟩
  have e2 : ∀ (xs : List Len) (s : Int × Rat × Option D × Option D × Option D), (match foldR f s xs with
      | .inl s' => fr (s'.1 : Rat)
      | .inr d => d) = fr ((s.1 : Rat) + placeWith xs s.2.1) := fun xs => by
    induction xs with
    | nil => intro s; simp [foldR, placeWith, Rat.add_zero]
    | cons x xs ih =>
      intro s
      unfold foldR placeWith
      by_cases c : (x.1 : Rat) * x.2 < s.2.1
      · simp only [f, if_pos c]
        rw [ih]
        congr 1
        rw [Rat.intCast_add]
        grind
      · simp only [f, if_neg c]
  have e := e (ls.map enL)
  have e2 := e2 ls (0, p, none, none, none)
  simp only [E, C] at e
  simp [cf_law_place_at, e]
  have z0 : ((0 : Int) : Rat) = 0 := rfl
  cases q : foldR f (0, p, none, none, none) ls with
  | inl s' =>
    rw [q] at e2
    simp only [Rat.zero_add, z0] at e2
    simp [e2]
  | inr d =>
    rw [q] at e2
    simp only [Rat.zero_add, z0] at e2
    simp [e2]
/-- one leak that a law draws -/
theorem half_tup : D.tup [.int 1, .int 2] = fr (1 / 2) := by
  have h1 : (1 / 2 : Rat).num = 1 := by decide +kernel
  have h2 : (1 / 2 : Rat).den = 2 := by decide +kernel
  rw [fr_def, h1, h2]
  rfl
theorem ex_leak [h : LsOk ls] (q : Q3) : ∃ (x d : Rat) (q' : Q3), 0 ≤ x ∧ x ≤ (allSteps ls : Int) ∧ 0 < d ∧ Bd x 800 ∧ Bd d 200 ∧ ∀ n S p b, p < S.length → evF P (n + 4) (f_law_leak P) [.ref p, .tup [.tup (ls.map enL), fr b]] (Sq S p q) = .ok (enK (x, d)) (Sq S p q') := by
  obtain ⟨r, q1, r0, r1, e1⟩ := ex_sixths (P := P) q ls
  have hst := steps_pos h.len
  have hhi := h.hi
  have u0 := pkR_nonneg (m := 60) (q := pkQ 5 q1) (by decide)
  have u1 := pkR_lt (m := 60) (q := pkQ 5 q1) (by decide)
  obtain ⟨c, hc, s2⟩ := pk4 (l := [1, 1, 2, 7]) (q := pkQ 60 (pkQ 5 q1)) (m := 4) rfl (by decide)
  have bb : 0 < c ∧ c ≤ 7 := by simp at hc; omega
  simp only [List.map_cons, List.map_nil] at s2
  have c0 : c ≠ 0 := by omega
  have d0 : 0 ≤ allDrag ls * (1 / 2) := Rat.mul_nonneg dr_nn (by decide +kernel)
  have d1 : allDrag ls * (1 / 2) ≤ allDrag ls := by
    have := Rat.mul_le_mul_of_nonneg_left (show (1 / 2 : Rat) ≤ 1 by decide +kernel) (dr_nn (ls := ls))
    rwa [Rat.mul_one] at this
  have bh : Bd (1 / 2 : Rat) 1 := Bd.mono (m := 0 + 1) inferInstance (by decide)
  have bd : Bd (allDrag ls * (1 / 2)) 253 := inferInstanceAs (Bd (allDrag ls * (1 / 2)) (252 + 1))
  have q0 : 252 + 1 ≤ 130000000 := by omega
  obtain ⟨p1, p2, p3⟩ := place_ok h.len d0 d1
  by_cases hz : pkR 5 q1 = 1
  · refine ⟨placeWith ls (allDrag ls * (1 / 2)), ((1 + pkR 60 (pkQ 5 q1) : Int) : Rat) / (c : Rat), pkQ 4 (pkQ 60 (pkQ 5 q1)), p2, p3, div_pos' (a := 1 + pkR 60 (pkQ 5 q1)) (by omega) bb.1, Bd.mono (m := 253 + 480) inferInstance (by decide), sz_200 (a := 1 + pkR 60 (pkQ 5 q1)) (by omega) bb.1 (by omega), fun n S p b hp => ?_⟩
    rw [evF_at (p_law_leak P) rfl rfl]
    have e2 := e1 (n + 1) S p b hp
    have e3 := fun S => ev_law_place_at (P := P) (n := n) (S := S) (b := b) (ls := ls) (p := allDrag ls * (1 / 2)) (m := 253) (by decide)
    have e := ev_law_low (P := P) (n := n + 2) (S := Sq S p (pkQ 4 (pkQ 60 (pkQ 5 q1)))) (a := 1 + pkR 60 (pkQ 5 q1)) (b := c) c0
    simp [cf_law_leak, e2, hp, hz]
    simp [half_tup, ev_law_times (a := allDrag ls) (b := 1 / 2) q0, e3, hp, s2, e, -ev_law_low, enK]
    rw [gc_same (by simp)]
  · refine ⟨(r : Rat) / ((6 : Int) : Rat), ((1 + pkR 60 (pkQ 5 q1) : Int) : Rat) / (c : Rat), pkQ 4 (pkQ 60 (pkQ 5 q1)), div_nonneg' r0 (by decide), ?_, div_pos' (a := 1 + pkR 60 (pkQ 5 q1)) (by omega) bb.1, (sz_200 (by omega) (by decide) (by decide)).mono (by decide), sz_200 (a := 1 + pkR 60 (pkQ 5 q1)) (by omega) bb.1 (by omega), fun n S p b hp => ?_⟩
    · have h6 : ((6 : Int) : Rat) = 6 := rfl
      have : ((r : Int) : Rat) ≤ ((allSteps ls * 6 : Int) : Rat) := Rat.intCast_le_intCast.mpr (by omega)
      rw [Rat.intCast_mul] at this
      rw [h6] at this ⊢
      grind
    · rw [evF_at (p_law_leak P) rfl rfl]
      have e2 := e1 (n + 1) S p b hp
      have e := ev_law_low (P := P) (n := n + 2) (S := Sq S p (pkQ 4 (pkQ 60 (pkQ 5 q1)))) (a := 1 + pkR 60 (pkQ 5 q1)) (b := c) c0
      simp [cf_law_leak, e2, hp, hz]
      simp [hp, s2, e, -ev_law_low, enK]
      rw [gc_same (by simp)]
end
end Z

/-! X, part Y: joins in any turn: stretches as chains (matrices). -/
namespace Z
open PySem
abbrev M4 := Rat × Rat × Rat × Rat
def mul4 (a b : M4) : M4 := (a.1 * b.1 + a.2.1 * b.2.2.1, a.1 * b.2.1 + a.2.1 * b.2.2.2, a.2.2.1 * b.1 + a.2.2.2 * b.2.2.1, a.2.2.1 * b.2.1 + a.2.2.2 * b.2.2.2)
theorem mul4_assoc (a b c : M4) : mul4 (mul4 a b) c = mul4 a (mul4 b c) := by
  obtain ⟨a1, a2, a3, a4⟩ := a
  obtain ⟨b1, b2, b3, b4⟩ := b
  obtain ⟨c1, c2, c3, c4⟩ := c
  simp only [mul4, Prod.mk.injEq]
  exact ⟨by grind, by grind, by grind, by grind⟩
def matS (s : Stretch) : M4 := match s.2 with
  | none => (1, s.1, 0, 1)
  | some q => ((q.1 + q.2.2) / q.2.2, (q.1 * q.2.1 + q.1 * q.2.2 + q.2.1 * q.2.2) / q.2.2, 1 / q.2.2, (q.2.1 + q.2.2) / q.2.2)
/-- a stretch that may be -/
structure SOk (s : Stretch) : Prop where
  d0 : 0 ≤ s.1
  pos : OPos s.2
theorem SOk.join {s t : Stretch} (hs : SOk s) (ht : SOk t) : SOk (join s t) := by
  obtain ⟨d, o⟩ := s
  obtain ⟨d', o'⟩ := t
  have a0 : 0 ≤ d := hs.d0
  have b0 : 0 ≤ d' := ht.d0
  refine ⟨by show 0 ≤ d + d'; grind, ?_⟩
  cases o with
  | none =>
    cases o' with
    | none => exact fun q hq => by cases hq
    | some b =>
      obtain ⟨p1, p2, p3⟩ := ht.pos b rfl
      intro q hq
      cases hq
      exact ⟨by show 0 ≤ b.1 + d; grind, p2, p3⟩
  | some a =>
    obtain ⟨p1, p2, p3⟩ := hs.pos a rfl
    cases o' with
    | none =>
      intro q hq
      cases hq
      exact ⟨p1, by show 0 ≤ a.2.1 + d'; grind, p3⟩
    | some b =>
      obtain ⟨q1, q2, q3⟩ := ht.pos b rfl
      intro q hq
      cases hq
      have R0 : 0 < a.2.2 + b.2.2 + (a.2.1 + b.1) := by grind
      have m0 : 0 ≤ a.2.1 + b.1 := by grind
      have x1 := div_nonneg (Rat.mul_nonneg (Rat.le_of_lt p3) m0) R0
      have x2 := div_nonneg (Rat.mul_nonneg (Rat.le_of_lt q3) m0) R0
      have x3 := div_pos (Rat.mul_pos p3 q3) R0
      exact ⟨by show 0 ≤ a.1 + a.2.2 * (a.2.1 + b.1) / (a.2.2 + b.2.2 + (a.2.1 + b.1)); grind, by show 0 ≤ b.2.1 + b.2.2 * (a.2.1 + b.1) / (a.2.2 + b.2.2 + (a.2.1 + b.1)); grind, x3⟩
theorem mat_join {s t : Stretch} (hs : SOk s) (ht : SOk t) : matS (join s t) = mul4 (matS s) (matS t) := by
  obtain ⟨d, o⟩ := s
  obtain ⟨d', o'⟩ := t
  cases o with
  | none =>
    cases o' with
    | none =>
      show ((1, d + d', 0, 1) : M4) = mul4 (1, d, 0, 1) (1, d', 0, 1)
      simp only [mul4, Prod.mk.injEq]
      exact ⟨by grind, by grind, by grind, by grind⟩
    | some b =>
      obtain ⟨p1, p2, p3⟩ := ht.pos b rfl
      obtain ⟨w, e, f⟩ := b
      have z := ne_of_pos p3
      simp only [] at z
      show (((w + d + f) / f, ((w + d) * e + (w + d) * f + e * f) / f, 1 / f, (e + f) / f) : M4) = mul4 (1, d, 0, 1) ((w + f) / f, (w * e + w * f + e * f) / f, 1 / f, (e + f) / f)
      simp only [mul4, Prod.mk.injEq]
      exact ⟨by grind, by grind, by grind, by grind⟩
  | some a =>
    obtain ⟨p1, p2, p3⟩ := hs.pos a rfl
    obtain ⟨w, e, f⟩ := a
    have z := ne_of_pos p3
    simp only [] at z p1 p2 p3
    cases o' with
    | none =>
      show (((w + f) / f, (w * (e + d') + w * f + (e + d') * f) / f, 1 / f, (e + d' + f) / f) : M4) = mul4 ((w + f) / f, (w * e + w * f + e * f) / f, 1 / f, (e + f) / f) (1, d', 0, 1)
      simp only [mul4, Prod.mk.injEq]
      exact ⟨by grind, by grind, by grind, by grind⟩
    | some b =>
      obtain ⟨q1, q2, q3⟩ := ht.pos b rfl
      obtain ⟨w2, e2, f2⟩ := b
      have z2 := ne_of_pos q3
      simp only [] at z2 q1 q2 q3
      have R0 : 0 < f + f2 + (e + w2) := by grind
      have zR := ne_of_pos R0
      show (((w + f * (e + w2) / (f + f2 + (e + w2)) + f * f2 / (f + f2 + (e + w2))) / (f * f2 / (f + f2 + (e + w2))), ((w + f * (e + w2) / (f + f2 + (e + w2))) * (e2 + f2 * (e + w2) / (f + f2 + (e + w2))) + (w + f * (e + w2) / (f + f2 + (e + w2))) * (f * f2 / (f + f2 + (e + w2))) + (e2 + f2 * (e + w2) / (f + f2 + (e + w2))) * (f * f2 / (f + f2 + (e + w2)))) / (f * f2 / (f + f2 + (e + w2))), 1 / (f * f2 / (f + f2 + (e + w2))), (e2 + f2 * (e + w2) / (f + f2 + (e + w2)) + f * f2 / (f + f2 + (e + w2))) / (f * f2 / (f + f2 + (e + w2)))) : M4) = mul4 ((w + f) / f, (w * e + w * f + e * f) / f, 1 / f, (e + f) / f) ((w2 + f2) / f2, (w2 * e2 + w2 * f2 + e2 * f2) / f2, 1 / f2, (e2 + f2) / f2)
      obtain ⟨R, hR⟩ : ∃ R, f + f2 + (e + w2) = R := ⟨_, rfl⟩
      obtain ⟨m, hm⟩ : ∃ m, e + w2 = m := ⟨_, rfl⟩
      rw [hR] at zR ⊢
      rw [hm] at hR ⊢
      simp only [mul4, Prod.mk.injEq]
      have hw2 : w2 = m - e := by grind
      have hR2 : R = f + f2 + m := by grind
      have key : ∀ X Y : Rat, X * R = Y → X / (f * f2 / R) = Y / (f * f2) := fun X Y h => by
        rw [← h]
        grind
      rw [key _ (w * R + f * m + f * f2) (by grind), key _ ((w * R + f * m) * (e2 * R + f2 * m) / R + (w * R + f * m) * (f * f2) / R + (e2 * R + f2 * m) * (f * f2) / R) (by grind), key 1 R (by grind), key _ (e2 * R + f2 * m + f * f2) (by grind)]
      have two : (w * R + f * m) * (e2 * R + f2 * m) / R + (w * R + f * m) * (f * f2) / R + (e2 * R + f2 * m) * (f * f2) / R = (w * R * e2 + w * f2 * m + e2 * f * m + w * f * f2 + e2 * f * f2) + f * f2 * m := by
        have : (w * R + f * m) * (e2 * R + f2 * m) + (w * R + f * m) * (f * f2) + (e2 * R + f2 * m) * (f * f2) = ((w * R * e2 + w * f2 * m + e2 * f * m + w * f * f2 + e2 * f * f2) + f * f2 * m) * R := by
          subst hR2
          grind
        grind
      rw [two]
      subst hw2 hR2
      have zff : f * f2 ≠ 0 := ne_of_pos (Rat.mul_pos p3 q3)
      have pq : ∀ X Y : Rat, X / f * (Y / f2) = X * Y / (f * f2) := fun X Y => by grind
      have sm : ∀ X Y : Rat, X / (f * f2) + Y / (f * f2) = (X + Y) / (f * f2) := fun X Y => by grind
      have cg : ∀ X Y : Rat, X = Y → X / (f * f2) = Y / (f * f2) := fun X Y h => by rw [h]
      clear two key
      rw [pq, pq, pq, pq, pq, pq, pq, pq, sm, sm, sm, sm]
      exact ⟨cg _ _ (by grind), cg _ _ (by grind), cg _ _ (by grind), cg _ _ (by grind)⟩
theorem mat_inj {s t : Stretch} (hs : SOk s) (ht : SOk t) (hd : s.1 = t.1) (h : matS s = matS t) : s = t := by
  obtain ⟨d, o⟩ := s
  obtain ⟨d', o'⟩ := t
  have hd : d = d' := hd
  subst hd
  cases o with
  | none =>
    cases o' with
    | none => rfl
    | some b =>
      obtain ⟨p1, p2, p3⟩ := ht.pos b rfl
      have z := ne_of_pos p3
      have h3 : (0 : Rat) = 1 / b.2.2 := congrArg (fun x : M4 => x.2.2.1) h
      grind
  | some a =>
    obtain ⟨p1, p2, p3⟩ := hs.pos a rfl
    have z := ne_of_pos p3
    cases o' with
    | none =>
      have h3 : 1 / a.2.2 = (0 : Rat) := congrArg (fun x : M4 => x.2.2.1) h
      grind
    | some b =>
      obtain ⟨q1, q2, q3⟩ := ht.pos b rfl
      have z2 := ne_of_pos q3
      have h1 : (a.1 + a.2.2) / a.2.2 = (b.1 + b.2.2) / b.2.2 := congrArg (fun x : M4 => x.1) h
      have h3 : 1 / a.2.2 = 1 / b.2.2 := congrArg (fun x : M4 => x.2.2.1) h
      have h4 : (a.2.1 + a.2.2) / a.2.2 = (b.2.1 + b.2.2) / b.2.2 := congrArg (fun x : M4 => x.2.2.2) h
      have e3 : a.2.2 = b.2.2 := by grind
      rw [e3] at h1 h4
      have e1 : a.1 = b.1 := by grind
      have e2 : a.2.1 = b.2.1 := by grind
      exact Prod.ext rfl (congrArg some (Prod.ext e1 (Prod.ext e2 e3)))
theorem join_assoc {s t u : Stretch} (hs : SOk s) (ht : SOk t) (hu : SOk u) : join (join s t) u = join s (join t u) :=
  mat_inj ((hs.join ht).join hu) (hs.join (ht.join hu)) (by show s.1 + t.1 + u.1 = s.1 + (t.1 + u.1); grind) (by
    rw [mat_join (hs.join ht) hu, mat_join hs ht, mat_join hs (ht.join hu), mat_join ht hu, mul4_assoc])
/-- what a stretch must be: no lack below 0, none greater than the ends allow -/
structure SFit (s : Stretch) : Prop where
  ok : SOk s
  lack : ∀ q, s.2 = some q → q.1 + q.2.1 ≤ s.1 ∧ q.2.2 * (s.1 - q.1 - q.2.1) ≤ q.1 * q.2.1
theorem SFit.join {s t : Stretch} (hs : SFit s) (ht : SFit t) : SFit (join s t) := by
  refine ⟨hs.ok.join ht.ok, ?_⟩
  obtain ⟨d, o⟩ := s
  obtain ⟨d', o'⟩ := t
  have d0 : 0 ≤ d := hs.ok.d0
  have d0' : 0 ≤ d' := ht.ok.d0
  cases o with
  | none =>
    cases o' with
    | none => exact fun q hq => by cases hq
    | some b =>
      obtain ⟨p1, p2, p3⟩ := ht.ok.pos b rfl
      obtain ⟨l1, l2⟩ := ht.lack b rfl
      obtain ⟨w, e, f⟩ := b
      intro q hq
      cases hq
      show w + d + e ≤ d + d' ∧ f * (d + d' - (w + d) - e) ≤ (w + d) * e
      simp only [] at p1 p2 p3 l1 l2
      have := Rat.mul_nonneg d0 p2
      have e1 : d + d' - (w + d) - e = d' - w - e := by grind
      rw [e1]
      exact ⟨by grind, by grind⟩
  | some a =>
    obtain ⟨p1, p2, p3⟩ := hs.ok.pos a rfl
    obtain ⟨l1, l2⟩ := hs.lack a rfl
    obtain ⟨w, e, f⟩ := a
    simp only [] at p1 p2 p3 l1 l2
    cases o' with
    | none =>
      intro q hq
      cases hq
      show w + (e + d') ≤ d + d' ∧ f * (d + d' - w - (e + d')) ≤ w * (e + d')
      have := Rat.mul_nonneg p1 d0'
      have e1 : d + d' - w - (e + d') = d - w - e := by grind
      rw [e1]
      exact ⟨by grind, by grind⟩
    | some b =>
      obtain ⟨q1, q2, q3⟩ := ht.ok.pos b rfl
      obtain ⟨m1, m2⟩ := ht.lack b rfl
      obtain ⟨w2, e2, f2⟩ := b
      simp only [] at q1 q2 q3 m1 m2
      intro q hq
      cases hq
      show (w + f * (e + w2) / (f + f2 + (e + w2))) + (e2 + f2 * (e + w2) / (f + f2 + (e + w2))) ≤ d + d' ∧ f * f2 / (f + f2 + (e + w2)) * (d + d' - (w + f * (e + w2) / (f + f2 + (e + w2))) - (e2 + f2 * (e + w2) / (f + f2 + (e + w2)))) ≤ (w + f * (e + w2) / (f + f2 + (e + w2))) * (e2 + f2 * (e + w2) / (f + f2 + (e + w2)))
      obtain ⟨m, hm⟩ : ∃ m, e + w2 = m := ⟨_, rfl⟩
      have m0 : 0 ≤ m := by grind
      obtain ⟨R, hR⟩ : ∃ R, f + f2 + m = R := ⟨_, rfl⟩
      rw [hm, hR]
      have R0 : 0 < R := by grind
      have zR := ne_of_pos R0
      obtain ⟨x, hx⟩ : ∃ x, m / R = x := ⟨_, rfl⟩
      have hmx : m = x * R := by grind
      have x0 : 0 ≤ x := by rw [← hx]; exact div_nonneg m0 R0
      have ex : f * m / R = f * x := by grind
      have ex2 : f2 * m / R = f2 * x := by grind
      rw [ex, ex2]
      obtain ⟨y, hy⟩ : ∃ y, f * f2 / R = y := ⟨_, rfl⟩
      have hyR : y * R = f * f2 := by grind
      have y0 : 0 < y := by rw [← hy]; exact div_pos (Rat.mul_pos p3 q3) R0
      rw [hy]
      have x1 : x * (f + f2) ≤ m := by
        have := Rat.mul_nonneg x0 m0
        rw [← hR] at hmx
        grind
      refine ⟨by grind, ?_⟩
      -- all over R
      have l3 : f * (d - w - e) ≤ w * e := l2
      have m3 : f2 * (d' - w2 - e2) ≤ w2 * e2 := m2
      have a1 := Rat.mul_le_mul_of_nonneg_left l3 (Rat.le_of_lt q3)
      have a2 := Rat.mul_le_mul_of_nonneg_left m3 (Rat.le_of_lt p3)
      have a3 := Rat.mul_nonneg p1 q2
      have a4 := Rat.mul_nonneg p1 q1
      have a5 := Rat.mul_nonneg p2 q2
      have a6 := Rat.mul_nonneg a3 (Rat.le_of_lt p3)
      have a7 := Rat.mul_nonneg a3 (Rat.le_of_lt q3)
      have a8 := Rat.mul_nonneg a4 (Rat.le_of_lt q3)
      have a9 := Rat.mul_nonneg a5 (Rat.le_of_lt p3)
      have a10 := Rat.mul_nonneg a3 m0
      have key : y * (d + d' - (w + f * x) - (e2 + f2 * x)) * R ≤ (w + f * x) * (e2 + f2 * x) * R := by
        have k1 : y * (d + d' - (w + f * x) - (e2 + f2 * x)) * R = f * f2 * (d + d' - w - e2 - (f + f2) * x) := by grind
        have k2 : (w + f * x) * (e2 + f2 * x) * R = w * e2 * R + w * f2 * m + e2 * f * m + f * f2 * x * m := by grind
        rw [k1, k2]
        have k3 : (f + f2) * x = m - x * m := by
          rw [← hR] at hmx
          grind
        rw [k3]
        have k4 : f * f2 * (d + d' - w - e2 - (m - x * m)) = f2 * (f * (d - w - e)) + f * (f2 * (d' - w2 - e2)) + f * f2 * x * m := by
          rw [← hm]
          grind
        rw [k4, ← hR]
        have k5 : w * f2 * m + e2 * f * m = f2 * (w * e) + w * w2 * f2 + e * e2 * f + f * (w2 * e2) := by
          rw [← hm]
          grind
        grind
      have := Rat.le_of_mul_le_mul_right key R0
      exact this
end Z

/-! X, part Z: sizes of joins in any brackets: they add up. -/
namespace Z
open PySem
theorem int_nn {x : Int} {c : Int} {q : Rat} (h : q = (x : Rat) / (c : Rat)) (hc : 0 < c) (hq : 0 ≤ q) : 0 ≤ x := by
  have dz := cast_ne hc
  have dr : (0 : Rat) < (c : Rat) := by
    have := Rat.intCast_lt_intCast.mpr hc
    simpa using this
  have : (0 : Rat) ≤ (x : Rat) := by
    have e : (x : Rat) = q * c := by rw [h]; grind
    rw [e]
    exact Rat.mul_nonneg hq (Rat.le_of_lt dr)
  exact Rat.intCast_le_intCast.mp (show ((0 : Int) : Rat) ≤ (x : Rat) by simpa using this)
theorem int_pp {x : Int} {c : Int} {q : Rat} (h : q = (x : Rat) / (c : Rat)) (hc : 0 < c) (hq : 0 < q) : 0 < x := by
  have h0 := int_nn h hc (Rat.le_of_lt hq)
  by_cases z : x = 0
  · subst z
    have : q = 0 := by rw [h]; show (0 : Rat) / (c : Rat) = 0; rw [Rat.div_def, Rat.zero_mul]
    grind
  · omega
theorem gsum {a b f d k a' b' f' d' k' : Int} (h : a * b + a * f + b * f = d * k) (h' : a' * b' + a' * f' + b' * f' = d' * k') :
    (k * d' + a * f' + a * a' + f * a') * (k' * d + b' * f + b' * b + f' * b) + (k * d' + a * f' + a * a' + f * a') * (f * f') + (k' * d + b' * f + b' * b + f' * b) * (f * f') = (d' * (f + b) + d * (f' + a')) * (a * k' + f * k' + k * b' + k * f') := by
  have e1 : k * d' * (k' * d) = (a * b + a * f + b * f) * (a' * b' + a' * f' + b' * f') := by rw [h, h']; grind
  have e2 : ∀ X : Int, d * k * X = (a * b + a * f + b * f) * X := fun X => by rw [h]
  have e3 : ∀ X : Int, d' * k' * X = (a' * b' + a' * f' + b' * f') * X := fun X => by rw [h']
  have l : (k * d' + a * f' + a * a' + f * a') * (k' * d + b' * f + b' * b + f' * b) + (k * d' + a * f' + a * a' + f * a') * (f * f') + (k' * d + b' * f + b' * b + f' * b) * (f * f')
    = k * d' * (k' * d) + k * d' * (b' * f + b' * b + f' * b + f * f') + k' * d * (a * f' + a * a' + f * a' + f * f') + ((a * f' + a * a' + f * a') * (b' * f + b' * b + f' * b) + (a * f' + a * a' + f * a') * (f * f') + (b' * f + b' * b + f' * b) * (f * f')) := by grind
  have r : (d' * (f + b) + d * (f' + a')) * (a * k' + f * k' + k * b' + k * f') = d' * k' * ((f + b) * (a + f)) + k * d' * (b' * f + b' * b + f' * b + f * f') + k' * d * (a * f' + a * a' + f * a' + f * f') + d * k * ((f' + a') * (b' + f')) := by grind
  rw [l, r, e1, e2, e3]
  grind
theorem zsum {F C F' C' B A' : Rat} (hC : C ≠ 0) (hC' : C' ≠ 0) : F / C + F' / C' + (B / C + A' / C') = (C' * (F + B) + C * (F' + A')) / (C * C') := by
  have zc : C * C' ≠ 0 := fun e => by rcases Rat.mul_eq_zero.mp e with h | h <;> contradiction
  have t1 : ∀ X : Rat, X / C = X * C' / (C * C') := fun X => by grind
  have t2 : ∀ X : Rat, X / C' = X * C / (C * C') := fun X => by grind
  rw [t1 F, t2 F', t1 B, t2 A']
  generalize C * C' = Z at *
  grind
theorem zend {A F C C' B A' R K : Rat} (hC : C ≠ 0) (hC' : C' ≠ 0) (hR : R ≠ 0) (h : A * R + F * (B * C' + A' * C) = C * K) : A / C + F / C * (B / C + A' / C') * (C * C') / R = K / R := by
  have m : (B / C + A' / C') * (C * C') = B * C' + A' * C := by grind
  have e : A / C + F / C * (B / C + A' / C') * (C * C') / R = (A * R + F * (B * C' + A' * C)) / (C * R) := by
    have : F / C * (B / C + A' / C') * (C * C') = F / C * (B * C' + A' * C) := by rw [← m]; grind
    rw [this]
    generalize B * C' + A' * C = Y
    have t1 : A / C = A * R / (C * R) := by grind
    have t2 : F / C * Y / R = F * Y / (C * R) := by grind
    rw [t1, t2]
    generalize C * R = W
    grind
  rw [e, h]
  grind
theorem zfoot {F F' C C' R : Rat} (hC : C ≠ 0) (hC' : C' ≠ 0) : F / C * (F' / C') * (C * C') / R = F * F' / R := by
  have : F / C * (F' / C') * (C * C') = F * F' := by grind
  rw [this]
theorem IForm.both {q t : Sn} {N M : Nat} (h : IForm q N) (h' : IForm t M) (hp : 0 ≤ q.1 ∧ 0 ≤ q.2.1 ∧ 0 < q.2.2) (hp' : 0 ≤ t.1 ∧ 0 ≤ t.2.1 ∧ 0 < t.2.2) : IForm (bothSeen q t) (N + M + 2) := by
  obtain ⟨a, b, f, d, k, h0, h1, h2, h3, h4, b1, b2, b3, b4, b5⟩ := h.ex
  obtain ⟨a', b', f', d', k', h0', h1', h2', h3', h4', b1', b2', b3', b4', b5'⟩ := h'.ex
  have i1 := ib_of b1
  have i2 := ib_of b2
  have i3 := ib_of b3
  have i4 := ib_of b4
  have i5 := ib_of b5
  have j1 := ib_of b1'
  have j2 := ib_of b2'
  have j3 := ib_of b3'
  have j4 := ib_of b4'
  have j5 := ib_of b5'
  have dz := cast_ne h0
  have dz' := cast_ne h0'
  have bn := int_nn h2 h0 hp.2.1
  have fn := int_pp h3 h0 hp.2.2
  have an := int_nn h1' h0' hp'.1
  have fn' := int_pp h3' h0' hp'.2.2
  have Rp : 0 < d' * (f + b) + d * (f' + a') := by
    have := Int.mul_pos h0' (show 0 < f + b by omega)
    have := Int.mul_pos h0 (show 0 < f' + a' by omega)
    omega
  have Rz := cast_ne Rp
  rw [Rat.intCast_add, Rat.intCast_mul, Rat.intCast_mul, Rat.intCast_add, Rat.intCast_add] at Rz
  have e4 : (a : Rat) * b + a * f + b * f = d * k := by
    have := congrArg (fun z : Int => (z : Rat)) h4
    simpa [Rat.intCast_add, Rat.intCast_mul] using this
  have e4' : (a' : Rat) * b' + a' * f' + b' * f' = d' * k' := by
    have := congrArg (fun z : Int => (z : Rat)) h4'
    simpa [Rat.intCast_add, Rat.intCast_mul] using this
  have four : ∀ x y z w : Int, x.natAbs ≤ 2 ^ (N + M) → y.natAbs ≤ 2 ^ (N + M) → z.natAbs ≤ 2 ^ (N + M) → w.natAbs ≤ 2 ^ (N + M) → (x + y + z + w).natAbs ≤ 2 ^ (N + M + 2) := fun x y z w hx hy hz hw => by
    rw [Nat.pow_succ, Nat.pow_succ]; omega
  have m1 : ∀ {x y : Int} [IB x N] [IB y M], (x * y).natAbs ≤ 2 ^ (N + M) := fun {x y} _ _ => (inferInstance : IB (x * y) (N + M)).n
  have m2 : ∀ {x y : Int} [IB x M] [IB y N], (x * y).natAbs ≤ 2 ^ (N + M) := fun {x y} _ _ => by rw [Int.mul_comm]; exact m1
  refine ⟨k * d' + a * f' + a * a' + f * a', k' * d + b' * f + b' * b + f' * b, f * f', d' * (f + b) + d * (f' + a'), a * k' + f * k' + k * b' + k * f', Rp, ?_, ?_, ?_, ?_, ?_, ?_, ?_, ?_, ?_⟩
  · show q.1 + q.2.2 * (q.2.1 + t.1) / (q.2.2 + t.2.2 + (q.2.1 + t.1)) = _
    rw [h1, h2, h3, h1', h3']
    simp only [Rat.intCast_add, Rat.intCast_mul]
    generalize (a : Rat) = A at *
    generalize (b : Rat) = B at *
    generalize (f : Rat) = F at *
    generalize (d : Rat) = C at *
    generalize (k : Rat) = G at *
    generalize (a' : Rat) = A' at *
    generalize (f' : Rat) = F' at *
    generalize (d' : Rat) = C' at *
    have z : F / C + F' / C' + (B / C + A' / C') = (C' * (F + B) + C * (F' + A')) / (C * C') := zsum dz dz'
    have z3 : A * (C' * (F + B) + C * (F' + A')) + F * (B * C' + A' * C) = C * (G * C' + A * F' + A * A' + F * A') := by grind
    have zc : C * C' ≠ 0 := fun e => by rcases Rat.mul_eq_zero.mp e with h | h <;> contradiction
    rw [z, ddiv _ Rz zc]
    exact zend dz dz' Rz z3
  · show t.2.1 + t.2.2 * (q.2.1 + t.1) / (q.2.2 + t.2.2 + (q.2.1 + t.1)) = _
    rw [h2, h3, h1', h2', h3']
    simp only [Rat.intCast_add, Rat.intCast_mul]
    generalize (b : Rat) = B at *
    generalize (f : Rat) = F at *
    generalize (d : Rat) = C at *
    generalize (a' : Rat) = A' at *
    generalize (b' : Rat) = B' at *
    generalize (f' : Rat) = F' at *
    generalize (d' : Rat) = C' at *
    generalize (k' : Rat) = G' at *
    have z : F / C + F' / C' + (B / C + A' / C') = (C' * (F + B) + C * (F' + A')) / (C * C') := zsum dz dz'
    have z3 : B' * (C' * (F + B) + C * (F' + A')) + F' * (B * C' + A' * C) = C' * (G' * C + B' * F + B' * B + F' * B) := by grind
    have zc : C * C' ≠ 0 := fun e => by rcases Rat.mul_eq_zero.mp e with h | h <;> contradiction
    rw [z, ddiv _ Rz zc]
    have cm : B / C + A' / C' = A' / C' + B / C := by rw [Rat.add_comm]
    have cm2 : C * C' = C' * C := by rw [Rat.mul_comm]
    rw [cm, cm2]
    exact zend dz' dz Rz (by rw [← z3]; grind)
  · show q.2.2 * t.2.2 / (q.2.2 + t.2.2 + (q.2.1 + t.1)) = _
    rw [h2, h3, h1', h3']
    simp only [Rat.intCast_add, Rat.intCast_mul]
    generalize (b : Rat) = B at *
    generalize (f : Rat) = F at *
    generalize (d : Rat) = C at *
    generalize (a' : Rat) = A' at *
    generalize (f' : Rat) = F' at *
    generalize (d' : Rat) = C' at *
    have z : F / C + F' / C' + (B / C + A' / C') = (C' * (F + B) + C * (F' + A')) / (C * C') := zsum dz dz'
    have zc : C * C' ≠ 0 := fun e => by rcases Rat.mul_eq_zero.mp e with h | h <;> contradiction
    rw [z, ddiv _ Rz zc]
    exact zfoot dz dz'
  · exact gsum h4 h4'
  · exact four _ _ _ _ m1 m1 m1 m1
  · exact four _ _ _ _ m2 m2 m2 m2
  · exact Nat.le_trans m1 (Nat.pow_le_pow_right (by decide) (by omega))
  · have e : d' * (f + b) + d * (f' + a') = d' * f + d' * b + d * f' + d * a' := by grind
    rw [e]
    exact four _ _ _ _ m2 m2 m1 m1
  · exact four _ _ _ _ m1 m1 m1 m1
end Z

/-! Y, part A: joined. -/
namespace Z
open PySem
theorem IForm.swap {q : Sn} {N : Nat} (h : IForm q N) : IForm (q.2.1, q.1, q.2.2) N := by
  obtain ⟨a, b, f, d, k, h0, h1, h2, h3, h4, b1, b2, b3, b4, b5⟩ := h.ex
  exact ⟨b, a, f, d, k, h0, h2, h1, h3, by grind, b2, b1, b3, b4, b5⟩
theorem IForm.pre {q : Sn} {N c : Nat} {e : Rat} (h : IForm q N) [hb : Bd e c] : IForm (q.1 + e, q.2.1, q.2.2) (N + c + 2) := by
  have := h.swap.wire (e := e) (c := c)
  exact this.swap
/-- a stretch that is one, and its size -/
structure SI (s : Stretch) (N : Nat) : Prop where
  fit : SFit s
  d : Bd s.1 N
  fm : ∀ q, s.2 = some q → IForm q N
theorem SI.mono {s : Stretch} {N M : Nat} (h : SI s N) (hl : N ≤ M) : SI s M := ⟨h.fit, h.d.mono hl, fun q hq => (h.fm q hq).mono hl⟩
theorem SI.join {s t : Stretch} {N M : Nat} (hs : SI s N) (ht : SI t M) : SI (join s t) (N + M + 2) := by
  have F := hs.fit.join ht.fit
  have i1 := hs.d
  have i2 := ht.d
  obtain ⟨d, o⟩ := s
  obtain ⟨d', o'⟩ := t
  have i1 : Bd d N := i1
  have i2 : Bd d' M := i2
  refine ⟨F, ?_, ?_⟩
  · show Bd (d + d') _
    exact Bd.mono (m := N + M + 1) inferInstance (by omega)
  · cases o with
    | none =>
      cases o' with
      | none => exact fun q hq => by cases hq
      | some b =>
        intro q hq
        cases hq
        exact ((ht.fm b rfl).pre (e := d) (c := N)).mono (by omega)
    | some a =>
      cases o' with
      | none =>
        intro q hq
        cases hq
        exact ((hs.fm a rfl).wire (e := d') (c := M)).mono (by omega)
      | some b =>
        intro q hq
        cases hq
        exact (hs.fm a rfl).both (ht.fm b rfl) (hs.fit.ok.pos a rfl) (ht.fit.ok.pos b rfl)
section
variable {P : Nat → Option CF} [Lib P] {n : Nat} {S : Store} {m l k N M B : Nat} {s t : Stretch}
theorem ev_is_stretch (h : SI s N) (hN : N ≤ 10000000) : evF P (n + 6) (f_is_stretch P) [enS s] S = .ok (.bl true) S := by
  rw [evF_at (p_is_stretch P) rfl rfl]
  have d0 := h.fit.ok.d0
  have i1 := h.d
  obtain ⟨d, o⟩ := s
  have i1 : Bd d N := i1
  have d0 : 0 ≤ d := d0
  cases o with
  | none => simp [cf_is_stretch, enS, enO, d0]
  | some q =>
    obtain ⟨p1, p2, p3⟩ := h.fit.ok.pos q rfl
    obtain ⟨l1, l2⟩ := h.fit.lack q rfl
    obtain ⟨j1, j2, j3⟩ := (h.fm q rfl).bd
    have l1 : q.1 + q.2.1 ≤ d := l1
    have l2 : q.2.2 * (d - q.1 - q.2.1) ≤ q.1 * q.2.1 := l2
    have l3 : 0 ≤ d - q.1 - q.2.1 := by grind
    have q1 : N + N ≤ 130000000 := by omega
    have q2 : N + N + 1 + N ≤ 130000000 := by omega
    have lk : ∀ S, evF P (n + 4) (f_lack_of P) [.tup [fr d, .tup [fr q.1, fr q.2.1, fr q.2.2]]] S = .ok (fr (d - q.1 - q.2.1)) S := fun S => by
      rw [evF_at (p_lack_of P) rfl rfl]
      simp [cf_lack_of, ev_less (a := d) (b := q.1) q1, ev_less (a := d - q.1) (b := q.2.1) q2]
    have se : ∀ S, evF P (n + 5) (f_is_seen P) [fr d, .tup [fr q.1, fr q.2.1, fr q.2.2]] S = .ok (.bl true) S := fun S => by
      rw [evF_at (p_is_seen P) rfl rfl]
      have q3 : N + (N + N + 1 + N + 1) ≤ 130000000 := by omega
      have q4 : N + N + (N + (N + N + 1 + N + 1)) ≤ 130000000 := by omega
      have q5 : ¬ (q.1 * q.2.1 < q.2.2 * (d - q.1 - q.2.1)) := Rat.not_lt.mpr l2
      simp [cf_is_seen, lk, p1, p2, p3, l3, ev_mul (a := q.1) (b := q.2.1) q1, ev_mul (a := q.2.2) (b := d - q.1 - q.2.1) q3, ev_is_less (a := q.1 * q.2.1) (b := q.2.2 * (d - q.1 - q.2.1)) q4, q5]
    simp [cf_is_stretch, enS, enO, enSn, d0, se]
theorem ev_join_any (hs : SI s N) (ht : SI t M) (hN : N + M ≤ 4000000) : evF P (n + 5) (f_join P) [enS s, enS t] S = .ok (enS (join s t)) S := by
  have i1 := hs.d
  have i2 := ht.d
  obtain ⟨d, o⟩ := s
  obtain ⟨d', o'⟩ := t
  have i1 : Bd d N := i1
  have i2 : Bd d' M := i2
  cases o with
  | none =>
    cases o' with
    | none => exact ev_join_nn (by omega)
    | some b =>
      obtain ⟨j1, j2, j3⟩ := (ht.fm b rfl).bd
      exact ev_join_ns (q := b.1) (by omega) (by omega)
  | some a =>
    obtain ⟨k1, k2, k3⟩ := (hs.fm a rfl).bd
    cases o' with
    | none => exact ev_join_sn (q := a.2.1) (by omega) (by omega)
    | some b =>
      obtain ⟨j1, j2, j3⟩ := (ht.fm b rfl).bd
      obtain ⟨p1, p2, p3⟩ := hs.fit.ok.pos a rfl
      obtain ⟨q1, q2, q3⟩ := ht.fit.ok.pos b rfl
      exact ev_join_ss (s := a) (t := b) (by omega) (by omega) (ne_of_pos (by grind))
theorem ev_joined (hs : SI s N) (ht : SI t M) (hN : N + M ≤ 4000000) : evF P (n + 7) (f_joined P) [enS s, enS t] S = .ok (enS (join s t)) S := by
  rw [evF_at (p_joined P) rfl rfl]
  have e1 := fun S => ev_is_stretch (P := P) (n := n) (S := S) hs (by omega)
  have e2 := fun S => ev_is_stretch (P := P) (n := n) (S := S) ht (by omega)
  have e3 := fun S => ev_join_any (P := P) (n := n + 1) (S := S) hs ht hN
  simp [cf_joined, e1, e2, e3]
end
end Z

/-! Y, part C: a stretch from its points; added, turned; what the ends read. -/
namespace Z
open PySem
/-- the stretch from d on, with leaks at drags from the west end -/
def G (far : Rat) : Rat → List Leak → Stretch
  | d, [] => (far - d, none)
  | d, p :: ps => join (p.1 - d, none) (join (0, some (0, 0, p.2)) (G far p.1 ps))
def Chain (far : Rat) : Rat → List Leak → Prop
  | d, [] => d ≤ far
  | d, p :: ps => d ≤ p.1 ∧ 0 < p.2 ∧ Chain far p.1 ps
theorem sok_wire {l : Rat} (h : 0 ≤ l) : SOk (l, none) := ⟨h, fun q hq => by cases hq⟩
theorem sok_leak {g : Rat} (h : 0 < g) : SOk (0, some (0, 0, g)) := ⟨Rat.le_refl, fun q hq => by cases hq; exact ⟨Rat.le_refl, Rat.le_refl, h⟩⟩
theorem sub_nn {a b : Rat} (h : a ≤ b) : 0 ≤ b - a := by grind
theorem Chain.ok {far : Rat} : ∀ {ps : List Leak} {d : Rat}, Chain far d ps → SOk (G far d ps)
  | [], d, h => sok_wire (sub_nn h)
  | p :: ps, d, ⟨h1, h2, h3⟩ => (sok_wire (sub_nn h1)).join ((sok_leak h2).join (Chain.ok h3))
theorem Chain.le {far : Rat} : ∀ {ps : List Leak} {d : Rat}, Chain far d ps → d ≤ far
  | [], d, h => h
  | p :: ps, d, ⟨h1, h2, h3⟩ => Rat.le_trans h1 (Chain.le h3)
theorem chainP {far : Rat} : ∀ {ps : List Leak} {d : Rat}, d ≤ far → (∀ p ∈ ps, d ≤ p.1 ∧ p.1 ≤ far ∧ 0 < p.2) → (ps.Pairwise fun x y => x.1 ≤ y.1) → Chain far d ps
  | [], d, hd, _, _ => hd
  | p :: ps, d, hd, h, up => by
    obtain ⟨h1, h2, h3⟩ := h p List.mem_cons_self
    obtain ⟨u1, u2⟩ := List.pairwise_cons.mp up
    exact ⟨h1, h3, chainP h2 (fun x hx => ⟨u1 x hx, (h x (List.mem_cons_of_mem _ hx)).2.1, (h x (List.mem_cons_of_mem _ hx)).2.2⟩) u2⟩
theorem PtOk.chain {far : Rat} {B : Nat} {ps : List Leak} (h : PtOk far B ps) (h0 : 0 ≤ far) : Chain far 0 ps :=
  chainP h0 (fun p hp => ⟨h.lo p hp, h.hi p hp, h.pos p hp⟩) h.up
theorem G_fold {ls : List Len} : ∀ {xs : List Leak} {t : Stretch × Rat}, Chain (allDrag ls) t.2 (ptsW ls xs) → SOk t.1 →
    join (xs.foldl (stStep ls) t).1 (allDrag ls - (xs.foldl (stStep ls) t).2, none) = join t.1 (G (allDrag ls) t.2 (ptsW ls xs))
  | [], t, _, _ => rfl
  | x :: xs, t, h, ok => by
    have h1 : t.2 ≤ dragAt ls x.1 := h.1
    have h2 : 0 < x.2 := h.2.1
    have h3 : Chain (allDrag ls) (dragAt ls x.1) (ptsW ls xs) := h.2.2
    have w1 := sok_wire (sub_nn h1)
    have w2 := sok_leak h2
    rw [List.foldl_cons, G_fold (t := stStep ls t x) h3 ((ok.join w1).join w2)]
    show join (join (join t.1 (dragAt ls x.1 - t.2, none)) (0, some (0, 0, x.2))) (G (allDrag ls) (dragAt ls x.1) (ptsW ls xs)) = join t.1 (join (dragAt ls x.1 - t.2, none) (join (0, some (0, 0, x.2)) (G (allDrag ls) (dragAt ls x.1) (ptsW ls xs))))
    rw [join_assoc (ok.join w1) w2 h3.ok, join_assoc ok w1 (w2.join h3.ok)]
theorem nil_join' (s : Stretch) : join (0, none) s = s := by
  obtain ⟨d, o⟩ := s
  cases o with
  | none => show (0 + d, none) = _; rw [Rat.zero_add]
  | some q => show (0 + d, some (q.1 + 0, q.2.1, q.2.2)) = _; rw [Rat.zero_add, Rat.add_zero]
theorem chain_ks {ls : List Len} {xs : List Leak} {B : Nat} [h : LsOk ls] [hK : KsB ls xs B] : Chain (allDrag ls) 0 (ptsW ls xs) := (ptsW_ok (ls := ls) (xs := xs)).chain dr_nn
theorem stretch_G {ls : List Len} {xs : List Leak} (hc : Chain (allDrag ls) 0 (ptsW ls xs)) : stretchBy ls xs = G (allDrag ls) 0 (ptsW ls xs) := by
  have := G_fold (ls := ls) (xs := xs) (t := ((0, none), 0)) hc (sok_wire Rat.le_refl)
  unfold stretchBy
  rw [this, nil_join']
/-! two cables added -/
def shift (a : Rat) (ps : List Leak) : List Leak := ps.map fun p => (p.1 + a, p.2)
theorem G_shift {D1 D2 : Rat} : ∀ {ps : List Leak} {d : Rat}, G (D1 + D2) (d + D1) (shift D1 ps) = G D2 d ps
  | [], d => by
    show (D1 + D2 - (d + D1), none) = (D2 - d, none)
    congr 1
    grind
  | p :: ps, d => by
    show join (p.1 + D1 - (d + D1), none) (join (0, some (0, 0, p.2)) (G (D1 + D2) (p.1 + D1) (shift D1 ps))) = join (p.1 - d, none) (join (0, some (0, 0, p.2)) (G D2 p.1 ps))
    rw [G_shift, show p.1 + D1 - (d + D1) = p.1 - d by grind]
theorem join_wires (l k : Rat) : join (l, none) (k, none) = (l + k, none) := rfl
theorem G_app {D1 D2 : Rat} (h2 : 0 ≤ D2) : ∀ {ps qs : List Leak} {d : Rat}, Chain D1 d ps → Chain D2 0 qs → G (D1 + D2) d (ps ++ shift D1 qs) = join (G D1 d ps) (G D2 0 qs)
  | [], [], d, c1, c2 => by
    show (D1 + D2 - d, none) = join (D1 - d, none) (D2 - 0, none)
    rw [join_wires, show D1 + D2 - d = D1 - d + (D2 - 0) by grind]
  | [], q :: qs, d, c1, ⟨g1, g2, g3⟩ => by
    show join (q.1 + D1 - d, none) (join (0, some (0, 0, q.2)) (G (D1 + D2) (q.1 + D1) (shift D1 qs))) = join (D1 - d, none) (join (q.1 - 0, none) (join (0, some (0, 0, q.2)) (G D2 q.1 qs)))
    rw [G_shift, ← join_assoc (sok_wire (sub_nn c1)) (sok_wire (sub_nn g1)) ((sok_leak g2).join g3.ok), join_wires, show q.1 + D1 - d = D1 - d + (q.1 - 0) by grind]
  | p :: ps, qs, d, ⟨c1, c2, c3⟩, c4 => by
    show join (p.1 - d, none) (join (0, some (0, 0, p.2)) (G (D1 + D2) p.1 (ps ++ shift D1 qs))) = join (join (p.1 - d, none) (join (0, some (0, 0, p.2)) (G D1 p.1 ps))) (G D2 0 qs)
    rw [G_app h2 c3 c4, join_assoc (sok_wire (sub_nn c1)) ((sok_leak c2).join c3.ok) c4.ok, join_assoc (sok_leak c2) c3.ok c4.ok]
theorem Chain.shift {D1 D2 : Rat} : ∀ {qs : List Leak} {d : Rat}, Chain D2 d qs → Chain (D1 + D2) (d + D1) (Z.shift D1 qs)
  | [], d, h => by show d + D1 ≤ D1 + D2; have : d ≤ D2 := h; grind
  | q :: qs, d, ⟨h1, h2, h3⟩ => ⟨by show d + D1 ≤ q.1 + D1; grind, h2, Chain.shift h3⟩
theorem Chain.app {D1 D2 : Rat} : ∀ {ps qs : List Leak} {d : Rat}, Chain D1 d ps → Chain D2 0 qs → Chain (D1 + D2) d (ps ++ Z.shift D1 qs)
  | [], [], d, h1, h2 => by show d ≤ D1 + D2; have a : d ≤ D1 := h1; have b : 0 ≤ D2 := h2; grind
  | [], q :: qs, d, h1, ⟨g1, g2, g3⟩ => ⟨by show d ≤ q.1 + D1; have a : d ≤ D1 := h1; grind, g2, Chain.shift g3⟩
  | p :: ps, qs, d, ⟨h1, h2, h3⟩, h4 => ⟨h1, h2, Chain.app h3 h4⟩
theorem allDrag_app (ls ms : List Len) : allDrag (ls ++ ms) = allDrag ls + allDrag ms := by
  unfold allDrag
  rw [List.map_append, List.sum_append]
theorem allSteps_app (ls ms : List Len) : allSteps (ls ++ ms) = allSteps ls + allSteps ms := by
  unfold allSteps
  rw [List.map_append, List.sum_append]
theorem steps_nn' : ∀ {ls : List Len}, (∀ x ∈ ls, LenOk x) → (0 : Rat) ≤ ((allSteps ls : Int) : Rat) := fun {ls} h => by
  have := (steps_pos h).1
  exact_mod_cast (Rat.intCast_le_intCast.mpr this)
theorem dragAt_app_l {ms : List Len} (hm : ∀ x ∈ ms, LenOk x) : ∀ {ls : List Len} {p : Rat}, (∀ x ∈ ls, LenOk x) → ls ≠ [] ∨ p = 0 → p ≤ (allSteps ls : Int) → dragAt (ls ++ ms) p = dragAt ls p
  | [], p, _, h0, h1 => by
    rcases h0 with h0 | h0
    · exact absurd rfl h0
    · subst h0
      rw [List.nil_append, dragAt_zero hm]
      rfl
  | x :: ls, p, h, h0, h1 => by
    rw [List.cons_append]
    unfold dragAt
    by_cases c : (x.1 : Rat) < p
    · rw [if_pos c, if_pos c]
      congr 1
      have e : ((allSteps (x :: ls) : Int) : Rat) = (x.1 : Rat) + ((allSteps ls : Int) : Rat) := by
        unfold allSteps
        rw [List.map_cons, List.sum_cons, Rat.intCast_add]
      rw [e] at h1
      refine dragAt_app_l hm (fun y hy => h y (List.mem_cons_of_mem _ hy)) ?_ (by grind)
      by_cases hl : ls = []
      · subst hl
        exfalso
        have e0 : ((allSteps [] : Int) : Rat) = 0 := rfl
        rw [e0] at h1
        grind
      · exact .inl hl
    · rw [if_neg c, if_neg c]
theorem dragAt_app_r {ms : List Len} (hm : ∀ x ∈ ms, LenOk x) : ∀ {ls : List Len} {p : Rat}, (∀ x ∈ ls, LenOk x) → 0 ≤ p → dragAt (ls ++ ms) (((allSteps ls : Int) : Rat) + p) = allDrag ls + dragAt ms p
  | [], p, _, h0 => by
    have e0 : ((allSteps [] : Int) : Rat) = 0 := rfl
    have e1 : allDrag [] = 0 := rfl
    rw [e0, e1, List.nil_append, Rat.zero_add, Rat.zero_add]
  | x :: ls, p, h, h0 => by
    have hx := h x List.mem_cons_self
    have hl : ∀ y ∈ ls, LenOk y := fun y hy => h y (List.mem_cons_of_mem _ hy)
    have e : ((allSteps (x :: ls) : Int) : Rat) = (x.1 : Rat) + ((allSteps ls : Int) : Rat) := by
      unfold allSteps
      rw [List.map_cons, List.sum_cons, Rat.intCast_add]
    have s0 := steps_nn' hl
    rw [List.cons_append, allDrag_cons, e]
    have key : ∀ q, dragAt (x :: (ls ++ ms)) q = if (x.1 : Rat) < q then (x.1 : Rat) * x.2 + dragAt (ls ++ ms) (q - x.1) else q * x.2 := fun q => rfl
    rw [key]
    by_cases c : (x.1 : Rat) < (x.1 : Rat) + ((allSteps ls : Int) : Rat) + p
    · rw [if_pos c, show (x.1 : Rat) + ((allSteps ls : Int) : Rat) + p - (x.1 : Rat) = ((allSteps ls : Int) : Rat) + p by grind, dragAt_app_r hm hl h0]
      grind
    · have z1 : ((allSteps ls : Int) : Rat) = 0 := by grind
      have z2 : p = 0 := by grind
      rw [if_neg c]
      have ih := dragAt_app_r hm hl h0
      rw [z1, z2, Rat.add_zero] at ih
      have hlm : ∀ y ∈ ls ++ ms, LenOk y := fun y hy => (List.mem_append.mp hy).elim (hl y) (hm y)
      rw [dragAt_zero hlm] at ih
      rw [z1, z2]
      rw [dragAt_zero hm] at ih ⊢
      grind
def movedL (a : Rat) (ys : List Leak) : List Leak := ys.map fun y => (a + y.1, y.2)
theorem pts_app {ls ms : List Len} (hl : ∀ x ∈ ls, LenOk x) (hm : ∀ x ∈ ms, LenOk x) {xs ys : List Leak} (hx : ∀ x ∈ xs, x.1 ≤ (allSteps ls : Int) ∧ (ls ≠ [] ∨ x.1 = 0)) (hy : ∀ y ∈ ys, 0 ≤ y.1) :
    ptsW (ls ++ ms) (xs ++ movedL (allSteps ls : Int) ys) = ptsW ls xs ++ shift (allDrag ls) (ptsW ms ys) := by
  unfold ptsW shift movedL
  rw [List.map_append, List.map_map, List.map_map]
  congr 1
  · exact List.map_congr_left fun x hx' => by rw [dragAt_app_l hm hl (hx x hx').2 (hx x hx').1]
  · refine List.map_congr_left fun y hy' => ?_
    show (dragAt (ls ++ ms) (((allSteps ls : Int) : Rat) + y.1), y.2) = (dragAt ms y.1 + allDrag ls, y.2)
    rw [dragAt_app_r hm hl (hy y hy'), Rat.add_comm]
theorem allDrag_nn {ls : List Len} (h : ∀ x ∈ ls, LenOk x) : 0 ≤ allDrag ls := by
  have h1 := dragAt_nonneg h (steps_nn' h)
  rwa [dragAt_end h] at h1
/-- the stretch of added cables is both joined -/
theorem stretch_add {ls ms : List Len} (hl : ∀ x ∈ ls, LenOk x) (hm : ∀ x ∈ ms, LenOk x) {xs ys : List Leak} (hx : ∀ x ∈ xs, x.1 ≤ (allSteps ls : Int) ∧ (ls ≠ [] ∨ x.1 = 0)) (hy : ∀ y ∈ ys, 0 ≤ y.1) (c1 : Chain (allDrag ls) 0 (ptsW ls xs)) (c2 : Chain (allDrag ms) 0 (ptsW ms ys)) :
    stretchBy (ls ++ ms) (xs ++ movedL (allSteps ls : Int) ys) = join (stretchBy ls xs) (stretchBy ms ys) := by
  have e := pts_app hl hm hx hy
  have ea := allDrag_app ls ms
  rw [stretch_G c1, stretch_G c2, stretch_G (by rw [e, ea]; exact Chain.app c1 c2), e, ea, G_app (allDrag_nn hm) c1 c2]
/-! sizes -/
theorem si_wire' {d : Rat} {N : Nat} (h : 0 ≤ d) (hb : Bd d N) : SI (d, none) N :=
  ⟨⟨sok_wire h, fun q hq => by cases hq⟩, hb, fun q hq => by cases hq⟩
theorem si_leak' {g : Rat} (h : 0 < g) [hb : Bd g 1000] : SI (0, some (0, 0, g)) 4000 := by
  refine ⟨⟨⟨Rat.le_refl, fun q hq => ?_⟩, fun q hq => ?_⟩, Bd.mono (m := 0) inferInstance (by decide), fun q hq => ?_⟩
  · cases hq
    exact ⟨Rat.le_refl, Rat.le_refl, h⟩
  · cases hq
    show (0 : Rat) + 0 ≤ 0 ∧ g * (0 - 0 - 0) ≤ 0 * 0
    have e : (0 : Rat) - 0 - 0 = 0 := by grind
    rw [e, Rat.mul_zero, Rat.mul_zero, Rat.add_zero]
    exact ⟨Rat.le_refl, Rat.le_refl⟩
  · cases hq
    have f := IForm.first (d := 0) (g := g) (m := 0) (c := 1000)
    rw [Rat.add_zero] at f
    exact f.mono (by decide)
theorem si_G {far : Rat} (hf : Bd far 252) : ∀ {ps : List Leak} {d : Rat}, Chain far d ps → Bd d 1480 → (∀ p ∈ ps, Bd p.1 1480 ∧ Bd p.2 1000) → SI (G far d ps) (8004 * ps.length + 4000)
  | [], d, h, bd, _ => si_wire' (sub_nn h) (Bd.mono (m := 252 + 1480 + 1) inferInstance (by simp))
  | p :: ps, d, ⟨h1, h2, h3⟩, bd, hb => by
    obtain ⟨b1, b2⟩ := hb p List.mem_cons_self
    have ih := si_G hf h3 b1 fun q hq => hb q (List.mem_cons_of_mem _ hq)
    have w := si_wire' (sub_nn h1) (Bd.mono (m := 1480 + 1480 + 1) (l := 4000) inferInstance (by decide))
    exact (w.join ((si_leak' h2).join ih)).mono (by simp only [List.length_cons]; omega)
theorem stretch_si {ls : List Len} {xs : List Leak} [h : LsOk ls] [hK : KsOk ls xs] : SI (stretchBy ls xs) 60000 := by
  rw [stretch_G chain_ks]
  have hl := hK.len
  have c := chain_ks (ls := ls) (xs := xs)
  refine (si_G inferInstance c (Bd.mono (m := 0) inferInstance (by decide)) fun p hp => ?_).mono (by unfold ptsW; rw [List.length_map]; omega)
  obtain ⟨x, hx, rfl⟩ := List.mem_map.mp hp
  have b1 := hK.s1 x hx
  exact ⟨Bd.mono (m := 1000 + 480) inferInstance (by decide), hK.s2 x hx⟩
section
variable {P : Nat → Option CF} [Lib P] {n : Nat} {S : Store} {b : Rat} {ls : List Len} {xs : List Leak}
theorem ev_stretch_of [h : LsOk ls] [hb : BkOk b] [hK : KsOk ls xs] : evF P (n + 8) (f_stretch_of P) [.tup [.tup (ls.map enL), fr b], .tup (xs.map enK)] S = .ok (enS (stretchBy ls xs)) S := by
  rw [evF_at (p_stretch_of P) rfl rfl]
  simp [cf_stretch_of]
theorem okD_enS (k : Nat) (s : Stretch) : okD (k + 3) (enS s) = true := by
  obtain ⟨d, o⟩ := s
  cases o with
  | none => simp [enS, enO]
  | some q => simp [enS, enO, enSn]
end
end Z

/-! Y, part D: a cable cut at a splice, its leaks. -/
namespace Z
open PySem
/-- the steps to each splice -/
def spS (a : Int) : List Len → List Int
  | [] => []
  | x :: xs => (a + x.1) :: spS (a + x.1) xs
theorem spS_len : ∀ {a : Int} {ls : List Len}, (spS a ls).length = ls.length
  | _, [] => rfl
  | a, x :: xs => by rw [spS, List.length_cons, spS_len, List.length_cons]
theorem spS_at : ∀ {a : Int} {ls : List Len} {j : Nat}, j < ls.length → (spS a ls)[j]? = some (a + allSteps (ls.take (j + 1)))
  | a, [], j, h => by simp at h
  | a, x :: xs, 0, h => by
    simp [spS, allSteps]
  | a, x :: xs, j + 1, h => by
    simp only [List.length_cons] at h
    rw [spS, List.getElem?_cons_succ, spS_at (by omega), List.take_succ_cons]
    congr 1
    simp only [allSteps, List.map_cons, List.sum_cons]
    omega
theorem cut_last {xs : List D} : cutD xs none (some (-1)) = xs.dropLast := by
  unfold cutD
  have e : HT.sIx xs.length xs.length (some (-1)) = xs.length - 1 := by
    simp only [HT.sIx]
    rw [if_pos (by decide)]
    omega
  rw [e]
  show (xs.drop 0).take (xs.length - 1 - 0) = _
  rw [List.drop_zero, Nat.sub_zero, List.dropLast_eq_take]
theorem ne_self {S : Store} {d : D} (h : okD 20 d = true) : cmpEv .ne d d S = some (.bl false) := by rw [ne_ev h h, eqD_refl 20 h]; rfl
theorem eq_self' {S : Store} {d : D} (h : okD 20 d = true) : cmpEv .eq d d S = some (.bl true) := by rw [eq_ev h h, eqD_refl 20 h]
section
variable {P : Nat → Option CF} [Lib P] {n : Nat} {S : Store} {b : Rat} {ls ms : List Len} {xs ys : List Leak} {k : Nat}
theorem spl_loop (x0 : Option D) (w : List D) : ∀ (ls : List Len) (a : Int) (acc : List Int) (x3 x4 : Option D), acc.length + ls.length ≤ 900 → ∃ a' y3 y4,
    forEv (run (evF P n) (cb_splice_steps_1 (Lib.ix P))) (.tp (.cons (.nm 3) (.cons (.nm 4) .nil))) (.fix w) (ls.map enL) [x0, some (.ref S.length), some (.int a), x3, x4] (S ++ [.lst (acc.map D.int)]) =
      .nx [x0, some (.ref S.length), some (.int a'), y3, y4] (S ++ [.lst ((acc ++ spS a ls).map D.int)])
  | [], a, acc, x3, x4, _ => ⟨a, x3, x4, by simp [spS]⟩
  | x :: ls, a, acc, x3, x4, hl => by
    simp only [List.length_cons] at hl
    obtain ⟨a', y3, y4, h2⟩ := spl_loop x0 w ls (a + x.1) (acc ++ [a + x.1]) (some (.int x.1)) (some (fr x.2)) (by simp; omega)
    refine ⟨a', y3, y4, ?_⟩
    rw [List.map_cons, for_cons]
    have e1 := app_last (S := S) (ds := acc.map D.int) (y := .int (a + x.1)) (by simp; omega)
    have e2 := seqL_last (S := S) (ds := acc.map D.int)
    have e3 : acc ++ spS a (x :: ls) = acc ++ [a + x.1] ++ spS (a + x.1) ls := by simp [spS]
    rw [e3]
    simp only [List.map_append, List.map_cons, List.map_nil] at h2 ⊢
    rw [← h2]
    simp [enL, cb_splice_steps_1, e1, e2]
theorem ev_splice_steps [h : LsOk ls] : evF P (n + 1) (f_splice_steps P) [.tup [.tup (ls.map enL), fr b]] S = .ok (.tup ((spS 0 ls.dropLast).map D.int)) S := by
  rw [evF_at (p_splice_steps P) rfl rfl]
  have hl := h.hi
  obtain ⟨a', y3, y4, h1⟩ := spl_loop (P := P) (n := n) (S := S) (some (.tup [.tup (ls.map enL), fr b])) (ls.map enL).dropLast ls.dropLast 0 [] none none (by simp; omega)
  have e0 : (ls.map enL).dropLast = ls.dropLast.map enL := (List.map_dropLast ..).symm
  have e1 : ∀ ds : List D, seqOf (S ++ [Cell.lst ds]) (.ref S.length) = some ds := fun ds => by simp only [seqOf, last_at]
  simp only [List.map_nil, List.nil_append] at h1
  rw [← e0] at h1
  simp [cf_splice_steps, cut_last, h1, e1]
  have nr : noref (.tup ((spS 0 ls.dropLast).map D.int)) = true := by
    have : norefs ((spS 0 ls.dropLast).map D.int) = true := norefs_ok (n := 1) (okDs_map (fun x => okD_int 1 x) _)
    unfold noref
    exact this
  exact gc_last nr
theorem ev_check_splice (h1 : 1 ≤ k) (h2 : k < ls.length) : evF P (n + 2) (f_check_splice P) [.tup [.tup (ls.map enL), fr b], .int k] S = .ok .non S := by
  rw [evF_at (p_check_splice P) rfl rfl]
  have c1 : (1 : Int) ≤ (k : Int) := by omega
  have c2 : (k : Int) < (ls.length : Int) := by omega
  simp [cf_check_splice, c1, c2]
theorem cut_takeN {xs : List D} : cutD xs none (some (k : Int)) = xs.take k := by rw [cut_take (by omega)]; rfl
theorem cut_dropN {xs : List D} : cutD xs (some (k : Int)) none = xs.drop k := by rw [cut_drop (by omega)]; rfl
theorem ev_parts [h : LsOk ls] [hb : BkOk b] (h1 : 1 ≤ k) (h2 : k < ls.length) : evF P (n + 7) (f_parts P) [.tup [.tup (ls.map enL), fr b], .int k] S = .ok (.tup [.tup [.tup ((ls.take k).map enL), fr b], .tup [.tup ((ls.drop k).map enL), fr b]]) S := by
  rw [evF_at (p_parts P) rfl rfl]
  have e1 := fun S => ev_check_splice (P := P) (n := n + 4) (S := S) (b := b) (ls := ls) h1 h2
  have e2 : ∀ S, evF P (n + 6) (f_part_cables P) [.tup [.tup (ls.map enL), fr b], .int k] S = .ok (.tup [.tup [.tup ((ls.take k).map enL), fr b], .tup [.tup ((ls.drop k).map enL), fr b]]) S := fun S => by
    rw [evF_at (p_part_cables P) rfl rfl]
    simp [cf_part_cables, cut_takeN, cut_dropN]
  simp only [List.map_take, List.map_drop] at e2
  simp [cf_parts, e1, e2]
/-! the leaks -/
def westL (at' : Rat) (xs : List Leak) : List Leak := xs.filter fun x => !decide (at' < x.1)
def eastL (at' : Rat) (xs : List Leak) : List Leak := (xs.filter fun x => decide (at' < x.1)).map fun x => (x.1 - at', x.2)
theorem west_east {at' : Rat} : ∀ {xs : List Leak}, (xs.Pairwise fun x y => x.1 < y.1) → westL at' xs ++ movedL at' (eastL at' xs) = xs
  | [], _ => rfl
  | x :: xs, up => by
    obtain ⟨u1, u2⟩ := List.pairwise_cons.mp up
    have ih := west_east (at' := at') u2
    unfold westL eastL movedL at ih ⊢
    rw [List.filter_cons, List.filter_cons]
    by_cases c : at' < x.1
    · have hw : xs.filter (fun x => !decide (at' < x.1)) = [] := List.filter_eq_nil_iff.mpr fun y hy => by
        have : at' < y.1 := Std.lt_trans c (u1 y hy)
        simp [this]
      simp only [c, decide_true, Bool.not_true, Bool.false_eq_true, if_false, if_true, List.map_cons]
      rw [hw] at ih ⊢
      rw [List.nil_append] at ih ⊢
      rw [ih]
      congr 1
      show (at' + (x.1 - at'), x.2) = x
      rw [show at' + (x.1 - at') = x.1 by grind]
    · simp only [c, decide_false, Bool.not_false, Bool.false_eq_true, if_false, if_true]
      rw [List.cons_append, ih]
theorem steps_split (ls : List Len) (k : Nat) : ((allSteps ls : Int) : Rat) = ((allSteps (ls.take k) : Int) : Rat) + ((allSteps (ls.drop k) : Int) : Rat) := by
  rw [← Rat.intCast_add, ← allSteps_app, List.take_append_drop]
theorem ls_take [h : LsOk ls] (h1 : 1 ≤ k) (h2 : k < ls.length) : LsOk (ls.take k) := by
  have := h.hi
  exact ⟨by simp; omega, by simp; omega, fun x hx => h.len x (List.mem_of_mem_take hx)⟩
theorem ls_drop [h : LsOk ls] (h2 : k < ls.length) : LsOk (ls.drop k) := by
  have := h.hi
  exact ⟨by simp; omega, by simp; omega, fun x hx => h.len x (List.mem_of_mem_drop hx)⟩
theorem ks_west [hK : KsOk ls xs] : KsOk (ls.take k) (westL (allSteps (ls.take k) : Int) xs) := by
  have mem : ∀ x ∈ westL (allSteps (ls.take k) : Int) xs, x ∈ xs ∧ x.1 ≤ ((allSteps (ls.take k) : Int) : Rat) := fun x hx => by
    obtain ⟨h1, h2⟩ := List.mem_filter.mp hx
    exact ⟨h1, Rat.not_lt.mp (by simpa using h2)⟩
  have hl := hK.len
  have h2 : (westL (allSteps (ls.take k) : Int) xs).length ≤ xs.length := List.length_filter_le ..
  exact ⟨by omega, .inr (by decide), by decide, fun x hx => hK.lo x (mem x hx).1, fun x hx => (mem x hx).2, fun x hx => hK.pos x (mem x hx).1, fun x hx => hK.s1 x (mem x hx).1, fun x hx => hK.s2 x (mem x hx).1, hK.up.filter _⟩
theorem ks_east [h : LsOk ls] [hK : KsOk ls xs] (h2 : k < ls.length) (hs : ∀ x ∈ xs, Bd x.1 200) : KsOk (ls.drop k) (eastL (allSteps (ls.take k) : Int) xs) := by
  have mem : ∀ y ∈ eastL (allSteps (ls.take k) : Int) xs, ∃ x ∈ xs, y = (x.1 - ((allSteps (ls.take k) : Int) : Rat), x.2) ∧ ((allSteps (ls.take k) : Int) : Rat) < x.1 := fun y hy => by
    obtain ⟨x, hx, rfl⟩ := List.mem_map.mp hy
    obtain ⟨h1, h2⟩ := List.mem_filter.mp hx
    exact ⟨x, h1, rfl, of_decide_eq_true h2⟩
  have hl := hK.len
  have h3 : (eastL (allSteps (ls.take k) : Int) xs).length ≤ xs.length := by
    unfold eastL
    rw [List.length_map]
    exact List.length_filter_le ..
  have ht : ∀ x ∈ ls.take k, LenOk x := fun x hx => h.len x (List.mem_of_mem_take hx)
  have ib := ib_steps ht (by have := h.hi; simp; omega)
  refine ⟨by omega, .inr (by decide), by decide, fun y hy => ?_, fun y hy => ?_, fun y hy => ?_, fun y hy => ?_, fun y hy => ?_, ?_⟩
  · obtain ⟨x, hx, rfl, hlt⟩ := mem y hy
    exact sub_nn (Rat.le_of_lt hlt)
  · obtain ⟨x, hx, rfl, hlt⟩ := mem y hy
    have := hK.hi x hx
    rw [steps_split ls k] at this
    show x.1 - _ ≤ _
    grind
  · obtain ⟨x, hx, rfl, hlt⟩ := mem y hy
    exact hK.pos x hx
  · obtain ⟨x, hx, rfl, hlt⟩ := mem y hy
    have := hs x hx
    exact Bd.mono (m := 200 + 14 + 1) inferInstance (by decide)
  · obtain ⟨x, hx, rfl, hlt⟩ := mem y hy
    exact hK.s2 x hx
  · unfold eastL
    rw [List.pairwise_map]
    exact (hK.up.filter _).imp fun {x y} hxy => by show x.1 - _ < y.1 - _; grind
/-- the parts' stretches joined -/
theorem stretch_parts [h : LsOk ls] [hK : KsOk ls xs] (h1 : 1 ≤ k) (h2 : k < ls.length) (hs : ∀ x ∈ xs, Bd x.1 200) :
    join (stretchBy (ls.take k) (westL (allSteps (ls.take k) : Int) xs)) (stretchBy (ls.drop k) (eastL (allSteps (ls.take k) : Int) xs)) = stretchBy ls xs := by
  have l1 := ls_take (ls := ls) h1 h2
  have l2 := ls_drop (ls := ls) h2
  have k1 := ks_west (ls := ls) (xs := xs) (k := k)
  have k2 := ks_east (ls := ls) (xs := xs) h2 hs
  rw [← stretch_add l1.len l2.len (fun x hx => ⟨k1.hi x hx, .inl fun e => by have := l1.lo; rw [e] at this; simp at this⟩) k2.lo chain_ks chain_ks, List.take_append_drop, west_east hK.up]
theorem ev_leaks_parted [h : LsOk ls] [hb : BkOk b] [hK : KsOk ls xs] (h1 : 1 ≤ k) (h2 : k < ls.length) : evF P (n + 8) (f_leaks_parted P) [.tup [.tup (ls.map enL), fr b], .tup (xs.map enK), .int k] S = .ok (.tup [.tup ((westL (allSteps (ls.take k) : Int) xs).map enK), .tup ((eastL (allSteps (ls.take k) : Int) xs).map enK)]) S := by
  rw [evF_at (p_leaks_parted P) rfl rfl]
  have hl := hK.len
  have hll := h.hi
  have e1 := fun S => ev_check_splice (P := P) (n := n + 5) (S := S) (b := b) (ls := ls) h1 h2
  have e2 := fun S => ev_splice_steps (P := P) (n := n + 6) (S := S) (b := b) (ls := ls)
  have e3 : L2.atI ((spS 0 ls.dropLast).map D.int) ((k : Int) - 1) = some (.int (allSteps (ls.take k))) := by
    rw [atI_of (by omega), List.getElem?_map, show ((k : Int) - 1).toNat = k - 1 by omega, spS_at (by simp; omega), show k - 1 + 1 = k by omega, List.dropLast_eq_take, List.take_take, show min k (ls.length - 1) = k by omega]
    simp
  have ht : ∀ x ∈ ls.take k, LenOk x := fun x hx => h.len x (List.mem_of_mem_take hx)
  have ib := ib_steps ht (by simp; omega)
  have c1 := fun (δ5 : Option D) => comp_filter (F := evF P (n + 7)) (elt := .var 6) (cond := .not (.call (Lib.ix P 9) (.cons (.var 3) (.cons (.idx (.var 6) (.con (.int 0))) .nil)))) (tg := .nm 6) (w := xs.map enK) (δ := [some (.tup [.tup (ls.map enL), fr b]), some (.tup (xs.map enK)), some (.int k), some (fr (allSteps (ls.take k) : Int)), none, δ5, none, none, none]) (own := [6]) (S := S) enK enK (fun x => !decide (((allSteps (ls.take k) : Int) : Rat) < x.1)) xs [] (by simp; omega) (fun x hx => by
    have := hK.s1 x hx
    simp [wipeD, enK]) (fun x hx _ => by simp [wipeD])
  have c2 := comp_filter (F := evF P (n + 7)) (elt := .tup (.cons (.call (Lib.ix P 6) (.cons (.var 7) (.cons (.var 3) .nil))) (.cons (.var 8) .nil))) (cond := .call (Lib.ix P 9) (.cons (.var 3) (.cons (.var 7) .nil))) (tg := .tp (.cons (.nm 7) (.cons (.nm 8) .nil))) (w := xs.map enK) (δ := [some (.tup [.tup (ls.map enL), fr b]), some (.tup (xs.map enK)), some (.int k), some (fr (allSteps (ls.take k) : Int)), some (.tup ((westL (allSteps (ls.take k) : Int) xs).map enK)), none, none, none, none]) (own := [7, 8]) (S := S) enK (fun x => enK (x.1 - ((allSteps (ls.take k) : Int) : Rat), x.2)) (fun x => decide (((allSteps (ls.take k) : Int) : Rat) < x.1)) xs [] (by simp; omega) (fun x hx => by
    have := hK.s1 x hx
    simp [wipeD, enK]) (fun x hx _ => by
    have := hK.s1 x hx
    simp [wipeD, enK])
  have e4 : (xs.filter fun x => decide (((allSteps (ls.take k) : Int) : Rat) < x.1)).map (fun x => enK (x.1 - ((allSteps (ls.take k) : Int) : Rat), x.2)) = (eastL (allSteps (ls.take k) : Int) xs).map enK := by
    unfold eastL
    rw [List.map_map]
    rfl
  have e5 : (xs.filter fun x => !decide (((allSteps (ls.take k) : Int) : Rat) < x.1)) = westL (allSteps (ls.take k) : Int) xs := rfl
  rw [List.nil_append, e4] at c2
  simp only [List.nil_append, e5] at c1
  simp [cf_leaks_parted, e1, e2, e3, c1, c2]
end
end Z

namespace ZL
open PySem PySem.Spec PyProof.Rows L2 Z
def top (i : Nat) : Stmt := PySem.Challenge.pw_earthends_k26_parts_and_their_leaks.main.body.getD i (.Pass ⟨0, 0, 0, 0⟩)
def defs_0 : List (DefI) := [⟨"is_whole", top 8, ["x"], ["x"], [], false⟩, ⟨"share_of", top 9, ["one", "other"], ["one", "other"], [], false⟩, ⟨"low", top 10, ["top", "bottom"], ["top", "bottom", "share"], [], false⟩, ⟨"is_fraction", top 11, ["x"], ["x"], [], false⟩, ⟨"is_from_zero", top 12, ["x"], ["x"], [], false⟩, ⟨"is_above_zero", top 13, ["x"], ["x"], [], false⟩, ⟨"add", top 14, ["a", "b"], ["a", "b"], [], false⟩, ⟨"less", top 15, ["a", "b"], ["a", "b"], [], false⟩, ⟨"mul", top 16, ["a", "b"], ["a", "b"], [], false⟩, ⟨"div", top 17, ["a", "b"], ["a", "b"], [], false⟩]
def defs_1 : List (DefI) := [⟨"is_less", top 18, ["a", "b"], ["a", "b"], [], false⟩, ⟨"is_small", top 22, ["x"], ["x"], [], false⟩, ⟨"is_length", top 23, ["x"], ["x"], [], false⟩, ⟨"is_cable", top 24, ["x"], ["x", "one"], [], false⟩, ⟨"check_cable", top 25, ["cable"], ["cable"], [], false⟩, ⟨"all_steps", top 26, ["cable"], ["cable", "steps", "drag"], [], false⟩, ⟨"all_drag", top 27, ["cable"], ["cable", "found", "steps", "drag"], [], false⟩, ⟨"splice_steps", top 28, ["cable"], ["cable", "found", "here", "steps", "drag"], [1], false⟩, ⟨"is_place", top 29, ["cable", "x"], ["cable", "x"], [], false⟩, ⟨"drag_at", top 30, ["cable", "place"], ["cable", "place", "found", "left", "steps", "drag"], [], false⟩]
def defs_2 : List (DefI) := [⟨"is_leak", top 33, ["cable", "x"], ["cable", "x"], [], false⟩, ⟨"are_leaks", top 34, ["cable", "x"], ["cable", "x", "leak", "k"], [], false⟩, ⟨"check_leaks", top 35, ["cable", "leaks"], ["cable", "leaks"], [], false⟩, ⟨"lack_of", top 37, ["stretch"], ["stretch", "drag", "seen"], [], false⟩, ⟨"is_seen", top 38, ["drag", "x"], ["drag", "x", "lack"], [], false⟩, ⟨"is_stretch", top 39, ["x"], ["x"], [], false⟩, ⟨"both_seen", top 40, ["one", "other"], ["one", "other", "between", "round_all", "west", "east"], [], false⟩, ⟨"join", top 41, ["one", "other"], ["one", "other", "drag", "west", "east"], [], false⟩, ⟨"joined", top 42, ["one", "other"], ["one", "other"], [], false⟩, ⟨"stretch_by", top 43, ["cable", "leaks"], ["cable", "leaks", "found", "here", "place", "drag", "there"], [], false⟩]
def defs_3 : List (DefI) := [⟨"stretch_of", top 44, ["cable", "leaks"], ["cable", "leaks"], [], false⟩, ⟨"check_splice", top 46, ["cable", "splice"], ["cable", "splice"], [], false⟩, ⟨"part_cables", top 47, ["cable", "splice"], ["cable", "splice", "lengths", "back"], [], false⟩, ⟨"parts", top 48, ["cable", "splice"], ["cable", "splice"], [], false⟩, ⟨"leaks_parted", top 49, ["cable", "leaks", "splice"], ["cable", "leaks", "splice", "at", "west", "east", "leak", "place", "drag"], [], false⟩, ⟨"_law_cell", top 51, ["_law_script", "_law_k"], ["_law_script", "_law_k", "_law_state", "_law_cell_here"], [], false⟩, ⟨"_law_purse", top 52, ["_law_cell_here"], ["_law_cell_here"], [], true⟩, ⟨"_law_pick", top 53, ["_law_purse_here", "_law_many"], ["_law_purse_here", "_law_many", "_law_state", "_law_taken"], [], false⟩, ⟨"_law_low", top 54, ["_law_top", "_law_bottom"], ["_law_top", "_law_bottom", "_law_one", "_law_other"], [], false⟩, ⟨"_law_minus", top 55, ["_law_a", "_law_b"], ["_law_a", "_law_b"], [], false⟩]
def defs_4 : List (DefI) := [⟨"_law_below", top 56, ["_law_a", "_law_b"], ["_law_a", "_law_b"], [], false⟩, ⟨"_law_cable", top 57, ["_law_purse_here", "_law_most"], ["_law_purse_here", "_law_most", "_law_lengths", "_law_k", "_law_steps"], [2], false⟩, ⟨"_law_sixths", top 58, ["_law_purse_here", "_law_cable_here"], ["_law_purse_here", "_law_cable_here", "_law_steps", "_law_way", "_law_part"], [], false⟩, ⟨"_law_leaks", top 59, ["_law_purse_here", "_law_cable_here", "_law_many"], ["_law_purse_here", "_law_cable_here", "_law_many", "_law_found", "_law_k", "_law_at"], [3], false⟩, ⟨"_law_right", top 60, ["_law_cable_here", "_law_leaks_here", "_law_splice"], ["_law_cable_here", "_law_leaks_here", "_law_splice", "_law_at", "_law_west", "_law_east", "_law_both", "_law_turn", "_law_told", "_law_part", "_law_leak", "_law_place", "_law_drag"], [], false⟩, ⟨"law", top 61, ["_law_script"], ["_law_script", "_law_k", "_law_purse_here", "_law_cable_here", "_law_length", "_law_some", "_law_many", "_law_splices", "_law_turn", "_law_splice"], [], false⟩]
def defs : List (DefI) := defs_0 ++ defs_1 ++ defs_2 ++ defs_3 ++ defs_4
def L : Lw := ⟨defs, ["ValueError", "isinstance", "int", "bool", "abs", "tuple", "len", "all", "sum", "range", "sorted", "max", "min", "list"], [("ZERO", .tup [.int (0), .int (1)]), ("MOST_LENGTHS", .int (12)), ("MOST_NUMBER", .int (999)), ("MOST_LEAKS", .int (6))], 40⟩
def loose_0 : List (PySem.Str) := ["EarthError", "NoCable", "NoLeaks", "NoStretch", "NoSplice", "ZERO", "is_whole", "share_of", "low", "is_fraction", "is_from_zero", "is_above_zero", "add", "less", "mul", "div", "is_less", "MOST_LENGTHS", "MOST_NUMBER", "is_small"]
def loose_1 : List (PySem.Str) := ["is_length", "is_cable", "check_cable", "all_steps", "all_drag", "splice_steps", "is_place", "drag_at", "MOST_LEAKS", "is_leak", "are_leaks", "check_leaks", "lack_of", "is_seen", "is_stretch", "both_seen", "join", "joined", "stretch_by", "stretch_of"]
def loose_2 : List (PySem.Str) := ["check_splice", "part_cables", "parts", "leaks_parted", "_law_cell", "_law_purse", "_law_pick", "_law_low", "_law_minus", "_law_below", "_law_cable", "_law_sixths", "_law_leaks", "_law_right"]
def loose : List (PySem.Str) := loose_0 ++ loose_1 ++ loose_2

def ixL : List Nat := [0, 1, 2, 3, 46, 6, 7, 8, 9, 10, 47, 48, 49, 50, 51, 52, 53, 35, 36, 37, 54, 38, 55, 56, 57, 58, 59, 4, 5, 11, 12, 13, 14, 15, 16, 17, 60, 61, 62, 63, 64, 18, 65, 19, 66, 67, 68, 39, 69, 40, 70, 41, 71, 72, 73, 74, 75, 76, 77, 78, 79, 20, 21, 80, 42, 22, 26, 27, 29, 81, 82, 83, 84, 85, 86, 87, 88, 43, 89, 23, 24, 25, 28, 90, 30, 91, 92, 93, 94, 95, 96, 97, 98, 99, 100, 101, 102, 103, 104, 105, 106, 107, 108, 109, 110, 111, 112, 113, 114, 115, 116, 117, 118, 119, 120, 121, 122, 123, 124, 125, 126, 127, 128, 129, 130, 131, 132, 31, 32, 33, 34, 133, 134, 135, 136, 137, 138, 139, 140, 141, 142, 143, 144, 145, 146, 147, 148, 149, 150, 151, 152, 153, 154, 155, 156, 157, 158, 159, 160, 161, 162, 163, 164, 165, 166, 167, 168, 169, 170, 171, 172, 173, 174, 175, 176, 177, 178, 179, 180, 181, 182, 183, 184, 185, 186, 187, 188, 189, 190, 191, 192, 193, 194, 195, 196, 197, 198, 199, 200, 201, 202, 203, 204, 205, 206, 207, 208, 209, 210, 211, 212, 213, 214, 215, 216, 217, 218, 219, 220, 221, 222, 223, 224, 225, 226, 227, 228, 229, 230, 231, 232, 233, 234, 235, 236, 237, 238, 239, 240, 241, 242, 243, 244, 245, 246, 247, 248, 249, 250, 251, 252, 253, 254, 255, 256, 257, 258, 259, 260, 261, 262, 263, 264, 265, 266, 267, 268, 269, 270, 271, 272, 273, 274, 275, 276, 277, 278, 279, 280, 281, 282, 283, 284, 285, 286, 287, 288, 289, 290, 291, 292, 293, 294, 295, 296, 297, 298, 299, 300, 301, 302, 303, 304, 305, 306, 307, 308, 309, 310, 311, 312, 313, 314, 315, 316, 317, 318]
def ixF (c : Nat) : Nat := ixL.getD c 0
def ext_0 : List CF := [Z.cf_check_fraction ixF, Z.cf_fraction ixF, Z.cf_check_both ixF, Z.cf_plus ixF, Z.cf_minus ixF, Z.cf_times ixF, Z.cf_over ixF, Z.cf_below ixF, Z.cf_law_whole ixF, Z.cf_law_is_fraction ixF, Z.cf_law_sort ixF, Z.cf_law_told ixF, Z.cf_whole_root ixF, Z.cf_root ixF, Z.cf_steps_of ixF, Z.cf_drag_of ixF, Z.cf_splices_of ixF, Z.cf_law_plus ixF, Z.cf_law_times ixF, Z.cf_check_place ixF]
def ext_1 : List CF := [Z.cf_place_with ixF, Z.cf_drag_to ixF, Z.cf_place_at ixF, Z.cf_law_over ixF, Z.cf_law_all ixF, Z.cf_show_fraction ixF, Z.cf_show_cable ixF, Z.cf_number_in ixF, Z.cf_fraction_in ixF, Z.cf_back_in ixF, Z.cf_length_in ixF, Z.cf_read_cable ixF, Z.cf_law_fraction_text ixF, Z.cf_law_text ixF, Z.cf_is_leaks ixF, Z.cf_beside ixF, Z.cf_reading ixF, Z.cf_measure ixF, Z.cf_law_drag_to ixF, Z.cf_law_points ixF]
def ext_2 : List CF := [Z.cf_law_steps_seen ixF, Z.cf_law_seen ixF, Z.cf_law_day ixF, Z.cf_law_sort_2 ixF, Z.cf_law_stretch ixF, Z.cf_check_word ixF, Z.cf_check_reading ixF, Z.cf_drag_with ixF, Z.cf_drag_by ixF, Z.cf_law_place_at ixF, Z.cf_law_read ixF, Z.cf_law_leak ixF, Z.cf_half ixF, Z.cf_by_free_and_earth ixF, Z.cf_by_free_and_far_earth ixF, Z.cf_by_earths ixF, Z.cf_possible_drags ixF, Z.cf_leak_with ixF, Z.cf_one_leak ixF, Z.cf_is_day ixF]
def ext_3 : List CF := [Z.cf_check_day ixF, Z.cf_day_by ixF, Z.cf_day_of ixF, Z.cf_four_of ixF, Z.cf_fault_in ixF, Z.cf_kind_by ixF, Z.cf_seen_of ixF, Z.cf_seen_by ixF, Z.cf_law_star ixF, Z.cf_kind_of ixF, Z.cf_check_two ixF, Z.cf_spans_by ixF, Z.cf_partner_by ixF, Z.cf_partner_west ixF, Z.cf_drag_within ixF, Z.cf_places_with ixF, Z.cf_west_span ixF, Z.cf_east_span ixF, Z.cf_pair_at ixF, Z.cf_east_of ixF]
def ext_4 : List CF := [Z.cf_west_of ixF, Z.cf_law_partner ixF, Z.cf_law_pair ixF, Z.cf_law_listed ixF, Z.cf_law_two_more ixF, Z.cf_law_spans ixF, Z.cf_law_spots ixF, Z.cf_east_drag ixF, Z.cf_west_drag ixF, Z.cf_next_cut ixF, Z.cf_cover_by ixF, Z.cf_cover_of ixF, Z.cf_law_east ixF, Z.cf_law_west ixF, Z.cf_law_splices ixF, Z.cf_law_most_west ixF, Z.cf_law_two ixF, Z.cf_needed_for ixF, Z.cf_cuts_needed ixF, Z.cf_stretch_told ixF]
def ext_5 : List CF := [Z.cf_edge_drags ixF, Z.cf_leak_moved ixF, Z.cf_law_small_3 ixF, Z.cf_law_pair_2 ixF, Z.cf_law_drags ixF, Z.cf_law_least ixF, Z.cf_law_part ixF, Z.cf_law_days_cut ixF, Z.cf_check_days ixF, Z.cf_two_drags ixF, Z.cf_fits_by ixF, Z.cf_east_drag_2 ixF, Z.cf_west_drag_2 ixF, Z.cf_roots_of ixF, Z.cf_pairs_of_two ixF, Z.cf_pairs_with ixF, Z.cf_pairs_of ixF, Z.cf_fit_all ixF, Z.cf_is_before ixF, Z.cf_pairs_told ixF]
def ext_6 : List CF := [Z.cf_are_apart ixF, Z.cf_telling_by ixF, Z.cf_telling ixF, Z.cf_law_kind_2 ixF, Z.cf_law_fits ixF, Z.cf_law_some_drag ixF, Z.cf_law_hidden_2 ixF, Z.cf_law_hidden_day ixF, Z.cf_law_days ixF, Z.cf_check_places ixF, Z.cf_drags_by ixF, Z.cf_clash_by ixF, Z.cf_clash_of ixF, Z.cf_check_length ixF, Z.cf_check_number ixF, Z.cf_exchange ixF, Z.cf_exchanged ixF, Z.cf_check_room ixF, Z.cf_add_cables ixF, Z.cf_added ixF]
def ext_7 : List CF := [Z.cf_turned ixF, Z.cf_leaks_turned ixF, Z.cf_leaks_added ixF, Z.cf_wall ixF, Z.cf_check_date ixF, Z.cf_law_length ixF, Z.cf_law_any_readings ixF, Z.cf_is_day_of ixF, Z.cf_read_by ixF, Z.cf_four_of_2 ixF, Z.cf_is_quiet ixF, Z.cf_wrong_word ixF, Z.cf_kind_seen ixF, Z.cf_one_taken ixF, Z.cf_pair_taken ixF, Z.cf_wrong_taken ixF, Z.cf_least_parted ixF, Z.cf_does_part ixF, Z.cf_most_west ixF, Z.cf_is_covered ixF]
def ext_8 : List CF := [Z.cf_are_cuts ixF, Z.cf_are_spots ixF, Z.cf_are_apart_2 ixF, Z.cf_are_days ixF, Z.cf_are_places ixF, Z.cf_made_so ixF, Z.cf_do_fit ixF, Z.cf_arms_fit ixF, Z.cf_does_fit ixF, Z.cf_fit_all_2 ixF, Z.cf_are_unlike ixF, Z.cf_beside_2 ixF, Z.cf_arms_of_both ixF, Z.cf_possible_pairs ixF, Z.cf_is_number ixF, Z.cf_are_numbers ixF, Z.cf_east_with ixF, Z.cf_ways_seen ixF, Z.cf_left_by ixF, Z.cf_are_stretches ixF]
def ext_9 : List CF := [Z.cf_holds_one ixF, Z.cf_does_need ixF, Z.cf_is_plan ixF, Z.cf_lamp_taken ixF, Z.cf_short_taken ixF, Z.cf_kind_by_2 ixF, Z.cf_check_two_2 ixF, Z.cf_pair_at_2 ixF, Z.cf_law_day_2 ixF, Z.cf_law_is_day ixF, Z.cf_law_kind_3 ixF, Z.cf_law_any_day ixF, Z.cf_law_some_days_2 ixF, Z.cf_cuts_taken_3 ixF, Z.cf_pairs_that_fit_3 ixF, Z.cf_are_all_3 ixF, Z.cf_clash_together_3 ixF, Z.cf_do_clash_3 ixF, Z.cf_day_taken_3 ixF, Z.cf_days_taken_3 ixF]
def ext_10 : List CF := [Z.cf_holds_3 ixF, Z.cf_west_span_2 ixF, Z.cf_two_drags_2 ixF, Z.cf_fits_by_2 ixF, Z.cf_fit_all_4 ixF, Z.cf_are_apart_3 ixF, Z.cf_drags_by_2 ixF, Z.cf_pair_of ixF, Z.cf_unlike_days ixF, Z.cf_kind_of_2 ixF, Z.cf_next_cut_2 ixF, Z.cf_cover_by_2 ixF, Z.cf_cover_of_3 ixF, Z.cf_marks_of ixF, Z.cf_ways_by ixF, Z.cf_answer_of ixF, Z.cf_stretches_left ixF, Z.cf_needed_by ixF, Z.cf_table_by ixF, Z.cf_all_ways ixF]
def ext_11 : List CF := [Z.cf_ways_of ixF, Z.cf_lamp_needed ixF, Z.cf_plan_by ixF, Z.cf_lamp_plan ixF, Z.cf_pairs_of_two_2 ixF, Z.cf_pairs_with_2 ixF, Z.cf_pairs_of_3 ixF, Z.cf_pairs_told_3 ixF, Z.cf_telling_by_3 ixF, Z.cf_telling_3 ixF, Z.cf_clash_by_3 ixF, Z.cf_paper_day ixF, Z.cf_paper_cuts ixF, Z.cf_paper_lamp ixF, Z.cf_places_that_fit_2 ixF, Z.cf_clash_paper_2 ixF, Z.cf_paper_days_2 ixF, Z.cf_cover_of_4 ixF, Z.cf_pairs_of_4 ixF, Z.cf_pairs_told_4 ixF]
def ext_12 : List CF := [Z.cf_telling_by_4 ixF, Z.cf_telling_4 ixF, Z.cf_clash_by_4 ixF, Z.cf_pair_of_2 ixF, Z.cf_paper_day_2 ixF, Z.cf_paper_cuts_2 ixF, Z.cf_places_that_fit_3 ixF, Z.cf_unlike_days_2 ixF, Z.cf_clash_paper_3 ixF, Z.cf_paper_days_3 ixF, Z.cf_cuts_needed_2 ixF, Z.cf_thing_in ixF, Z.cf_row_in ixF, Z.cf_cable_text ixF, Z.cf_leak_text ixF, Z.cf_kind_text ixF, Z.cf_span_text ixF, Z.cf_numbers_text ixF, Z.cf_telling_text ixF, Z.cf_east_span_2 ixF]
def ext_13 : List CF := [Z.cf_day_text ixF, Z.cf_law_said ixF, Z.cf_clash_of_2 ixF, Z.cf_cuts_needed_3 ixF, Z.cf_clash_of_3 ixF, Z.cf_marks_of_2 ixF, Z.cf_ways_by_2 ixF, Z.cf_all_ways_3 ixF, Z.cf_ways_of_3 ixF, Z.cf_lamp_needed_3 ixF, Z.cf_lamp_plan_3 ixF, Z.cf_law_way ixF, Z.cf_law_ways ixF]
def ext : List CF := ext_0 ++ ext_1 ++ ext_2 ++ ext_3 ++ ext_4 ++ ext_5 ++ ext_6 ++ ext_7 ++ ext_8 ++ ext_9 ++ ext_10 ++ ext_11 ++ ext_12 ++ ext_13
def PX : Nat → Option CF := progW L ext
instance libPX : Lib PX where
  ix := ixF
  q0 := tab_of (by kernel_rfl)
  q1 := tab_of (by kernel_rfl)
  q2 := tab_of (by kernel_rfl)
  q3 := tab_of (by kernel_rfl)
  q4 := tab_of (by kernel_rfl)
  q5 := tab_of (by kernel_rfl)
  q6 := tab_of (by kernel_rfl)
  q7 := tab_of (by kernel_rfl)
  q8 := tab_of (by kernel_rfl)
  q9 := tab_of (by kernel_rfl)
  q10 := tab_of (by kernel_rfl)
  q11 := tab_of (by kernel_rfl)
  q12 := tab_of (by kernel_rfl)
  q13 := tab_of (by kernel_rfl)
  q14 := tab_of (by kernel_rfl)
  q15 := tab_of (by kernel_rfl)
theorem closed : closedB L = true := by kernel_rfl
theorem chk : L.chk = true := by kernel_rfl
def cb_law_right_1 : CS := (.ife (.or (.cmp .ne (.call (Lib.ix PX 129) (.cons (.var 0) (.cons (.var 2) .nil))) (.var 6)) (.cmp .ne (.call (Lib.ix PX 130) (.cons (.var 0) (.cons (.var 1) (.cons (.var 2) .nil)))) (.tup (.cons (.var 4) (.cons (.var 5) .nil))))) (.ret (.con (.bl false))) .skip)
def cf_law_right : CF := ⟨3, 13, (.seq (.asg (.nm 3) (.tup (.cons (.blt .sum (.cons (.comp (.idx (.var 9) (.con (.int 0))) (.nm 9) (.one (.sl (.idx (.var 0) (.con (.int 0))) .nil (.one (.var 2)))) (.con (.bl true)) [9] false) .nil)) (.cons (.con (.int 1)) .nil)))) (.seq (.asg (.nm 4) (.blt .tuple (.cons (.comp (.var 10) (.nm 10) (.one (.var 1)) (.not (.call (Lib.ix PX 49) (.cons (.var 3) (.cons (.idx (.var 10) (.con (.int 0))) .nil)))) [10] false) .nil))) (.seq (.asg (.nm 5) (.blt .tuple (.cons (.comp (.tup (.cons (.call (Lib.ix PX 47) (.cons (.var 11) (.cons (.var 3) .nil))) (.cons (.var 12) .nil))) (.tp (.cons (.nm 11) (.cons (.nm 12) .nil))) (.one (.var 1)) (.call (Lib.ix PX 49) (.cons (.var 3) (.cons (.var 11) .nil))) [11, 12] false) .nil))) (.seq (.asg (.nm 6) (.tup (.cons (.tup (.cons (.sl (.idx (.var 0) (.con (.int 0))) .nil (.one (.var 2))) (.cons (.idx (.var 0) (.con (.int 1))) .nil))) (.cons (.tup (.cons (.sl (.idx (.var 0) (.con (.int 0))) (.one (.var 2)) .nil) (.cons (.idx (.var 0) (.con (.int 1))) .nil))) .nil)))) (.seq (.fr (.nm 7) (.rng (.con (.int 0)) (.con (.int 2))) (cb_law_right_1)) (.seq (.asg (.nm 8) (.call (Lib.ix PX 82) (.cons (.call (Lib.ix PX 84) (.cons (.idx (.var 6) (.con (.int 0))) (.cons (.var 4) .nil))) (.cons (.call (Lib.ix PX 84) (.cons (.idx (.var 6) (.con (.int 1))) (.cons (.var 5) .nil))) .nil)))) (.ret (.cmp .eq (.var 8) (.call (Lib.ix PX 84) (.cons (.var 0) (.cons (.var 1) .nil)))))))))))⟩
theorem p_law_right : PX 44 = some cf_law_right := by kernel_rfl
def cb_law_1 : CS := (.seq (.asg (.nm 2) (.call (Lib.ix PX 18) (.cons (.call (Lib.ix PX 17) (.cons (.var 0) (.cons (.var 1) .nil))) .nil))) (.seq (.asg (.nm 3) (.call (Lib.ix PX 51) (.cons (.var 2) (.cons (.idx (.lst (.cons (.con (.int 3)) (.cons (.con (.int 11)) .nil))) (.blt .int (.cons (.cmp .eq (.call (Lib.ix PX 19) (.cons (.var 2) (.cons (.con (.int 8)) .nil))) (.con (.int 3))) .nil))) .nil)))) (.seq (.asg (.nm 4) (.tup (.cons (.bin .add (.con (.int 1)) (.call (Lib.ix PX 19) (.cons (.var 2) (.cons (.con (.int 20)) .nil)))) (.cons (.call (Lib.ix PX 21) (.cons (.bin .add (.con (.int 1)) (.call (Lib.ix PX 19) (.cons (.var 2) (.cons (.con (.int 9)) .nil)))) (.cons (.bin .add (.con (.int 1)) (.call (Lib.ix PX 19) (.cons (.var 2) (.cons (.con (.int 2)) .nil)))) .nil))) .nil)))) (.seq (.asg (.nm 3) (.tup (.cons (.bin .add (.idx (.var 3) (.con (.int 0))) (.tup (.cons (.var 4) .nil))) (.cons (.idx (.var 3) (.con (.int 1))) .nil)))) (.seq (.asg (.nm 5) (.call (Lib.ix PX 77) (.cons (.var 2) (.cons (.var 3) (.cons (.con (.int 3)) .nil))))) (.seq (.asg (.nm 6) (.bin .sub (.blt .len (.cons (.idx (.var 3) (.con (.int 0))) .nil)) (.con (.int 1)))) (.seq (.asg (.nm 7) (.comp (.bin .add (.con (.int 1)) (.bin .mod (.bin .add (.call (Lib.ix PX 19) (.cons (.var 2) (.cons (.var 6) .nil))) (.var 8)) (.var 6))) (.nm 8) (.rng (.con (.int 0)) (.con (.int 3))) (.con (.bl true)) [8] false)) (.seq (.ife (.cmp .lt (.var 6) (.con (.int 4))) (.asg (.nm 7) (.rgl (.con (.int 1)) (.bin .add (.var 6) (.con (.int 1))))) .skip) (.ife (.not (.blt .all (.cons (.comp (.call 44 (.cons (.var 3) (.cons (.var 5) (.cons (.var 9) .nil)))) (.nm 9) (.one (.var 7)) (.con (.bl true)) [9] false) .nil))) (.ret (.con (.bl false))) .skip)))))))))
def cf_law : CF := ⟨1, 10, (.seq (.fr (.nm 1) (.rng (.con (.int 0)) (.blt .max (.cons (.con (.int 2)) (.cons (.blt .min (.cons (.con (.int 5)) (.cons (.blt .len (.cons (.var 0) .nil)) .nil))) .nil)))) (cb_law_1)) (.ret (.con (.bl true))))⟩
theorem p_law : PX 45 = some cf_law := by kernel_rfl
theorem law_ev {k : Nat} {ds : List D} {S : Store} : evF L.prog k 45 ds S = evF PX k 45 ds S := by
  have h : evF L.prog k 45 = evF PX k 45 := evF_progW closed (by decide +kernel)
  rw [h]
end ZL

namespace ZL
open PySem Z
section
variable {n m l k : Nat} {S : Store} {ls : List Len} {b x d : Rat} {xs ys : List Leak} {p : Nat} {q : Q3}
theorem right [h : LsOk ls] [hb : BkOk b] [hK : KsOk ls xs] (hs : ∀ x ∈ xs, Bd x.1 200) (h1 : 1 ≤ k) (h2 : k < ls.length) : evF PX (n + 9) 44 [.tup [.tup (ls.map enL), fr b], .tup (xs.map enK), .int k] S = .ok (.bl true) S := by
  rw [evF_at p_law_right rfl rfl]
  have hl := hK.len
  have hll := h.hi
  have l1 := ls_take (ls := ls) h1 h2
  have l2 := ls_drop (ls := ls) h2
  have k1 := ks_west (ls := ls) (xs := xs) (k := k)
  have k2 := ks_east (ls := ls) (xs := xs) h2 hs
  have ib := ib_steps l1.len (by simp; omega)
  have e1 := fun S => ev_parts (P := PX) (n := n + 1) (S := S) (b := b) (ls := ls) h1 h2
  have e2 := fun S => ev_leaks_parted (P := PX) (n := n) (S := S) (b := b) (ls := ls) (xs := xs) h1 h2
  have e3 := fun S => ev_stretch_of (P := PX) (n := n) (S := S) (b := b) (ls := ls.take k) (xs := westL (allSteps (ls.take k) : Int) xs)
  have e4 := fun S => ev_stretch_of (P := PX) (n := n) (S := S) (b := b) (ls := ls.drop k) (xs := eastL (allSteps (ls.take k) : Int) xs)
  have e5 := fun S => ev_stretch_of (P := PX) (n := n) (S := S) (b := b) (ls := ls) (xs := xs)
  have e6 := fun S => ev_joined (P := PX) (n := n + 1) (S := S) (stretch_si (ls := ls.take k) (xs := westL (allSteps (ls.take k) : Int) xs)) (stretch_si (ls := ls.drop k) (xs := eastL (allSteps (ls.take k) : Int) xs)) (by decide)
  rw [stretch_parts (ls := ls) (xs := xs) h1 h2 hs] at e6
  have c0 := comp_map (F := evF PX (n + 8)) (elt := .idx (.var 9) (.con (.int 0))) (tg := .nm 9) (w := (ls.take k).map enL) (δ := [some (.tup [.tup (ls.map enL), fr b]), some (.tup (xs.map enK)), some (.int k), none, none, none, none, none, none, none, none, none, none]) (own := [9]) (S := S) enL (fun x => .int x.1) (ls.take k) [] (by simp; omega) (fun x hx => by simp [wipeD, enL])
  have c1 := comp_filter (F := evF PX (n + 8)) (elt := .var 10) (cond := .not (.call (Lib.ix PX 49) (.cons (.var 3) (.cons (.idx (.var 10) (.con (.int 0))) .nil)))) (tg := .nm 10) (w := xs.map enK) (δ := [some (.tup [.tup (ls.map enL), fr b]), some (.tup (xs.map enK)), some (.int k), some (fr (allSteps (ls.take k) : Int)), none, none, none, none, none, none, none, none, none]) (own := [10]) (S := S) enK enK (fun x => !decide (((allSteps (ls.take k) : Int) : Rat) < x.1)) xs [] (by simp; omega) (fun x hx => by
    have := hK.s1 x hx
    simp [wipeD, enK]) (fun x hx _ => by simp [wipeD])
  have c2 := comp_filter (F := evF PX (n + 8)) (elt := .tup (.cons (.call (Lib.ix PX 47) (.cons (.var 11) (.cons (.var 3) .nil))) (.cons (.var 12) .nil))) (cond := .call (Lib.ix PX 49) (.cons (.var 3) (.cons (.var 11) .nil))) (tg := .tp (.cons (.nm 11) (.cons (.nm 12) .nil))) (w := xs.map enK) (δ := [some (.tup [.tup (ls.map enL), fr b]), some (.tup (xs.map enK)), some (.int k), some (fr (allSteps (ls.take k) : Int)), some (.tup ((westL (allSteps (ls.take k) : Int) xs).map enK)), none, none, none, none, none, none, none, none]) (own := [11, 12]) (S := S) enK (fun x => enK (x.1 - ((allSteps (ls.take k) : Int) : Rat), x.2)) (fun x => decide (((allSteps (ls.take k) : Int) : Rat) < x.1)) xs [] (by simp; omega) (fun x hx => by
    have := hK.s1 x hx
    simp [wipeD, enK]) (fun x hx _ => by
    have := hK.s1 x hx
    simp [wipeD, enK])
  have f4 : (xs.filter fun x => decide (((allSteps (ls.take k) : Int) : Rat) < x.1)).map (fun x => enK (x.1 - ((allSteps (ls.take k) : Int) : Rat), x.2)) = (eastL (allSteps (ls.take k) : Int) xs).map enK := by
    unfold eastL
    rw [List.map_map]
    rfl
  have f5 : (xs.filter fun x => !decide (((allSteps (ls.take k) : Int) : Rat) < x.1)) = westL (allSteps (ls.take k) : Int) xs := rfl
  rw [List.nil_append, f4] at c2
  simp only [List.nil_append, f5] at c1
  rw [List.nil_append] at c0
  have sm := sum_steps (S := S) (ls := ls.take k)
  have sm0 : small62 0 := ⟨by decide, by decide⟩
  have sm2 : small62 2 := ⟨by decide, by decide⟩
  have rg : rngD 0 2 = [.int 0, .int 1] := rfl
  have t1 : ∀ S, cmpEv .ne (.tup [.tup [.tup ((ls.take k).map enL), fr b], .tup [.tup ((ls.drop k).map enL), fr b]]) (.tup [.tup [.tup ((ls.take k).map enL), fr b], .tup [.tup ((ls.drop k).map enL), fr b]]) S = some (.bl false) := fun S => ne_self (by
    have ls1 : okDs 17 ((ls.take k).map enL) = true := okDs_enL 15 _
    have ls2 : okDs 17 ((ls.drop k).map enL) = true := okDs_enL 15 _
    simp [-List.map_take, -List.map_drop, ls1, ls2])
  have t2 : ∀ S, cmpEv .ne (.tup [.tup ((westL (allSteps (ls.take k) : Int) xs).map enK), .tup ((eastL (allSteps (ls.take k) : Int) xs).map enK)]) (.tup [.tup ((westL (allSteps (ls.take k) : Int) xs).map enK), .tup ((eastL (allSteps (ls.take k) : Int) xs).map enK)]) S = some (.bl false) := fun S => ne_self (by
    have ks1 : okDs 18 ((westL (allSteps (ls.take k) : Int) xs).map enK) = true := okDs_enK 16 _
    have ks2 : okDs 18 ((eastL (allSteps (ls.take k) : Int) xs).map enK) = true := okDs_enK 16 _
    simp [ks1, ks2])
  have t3 : ∀ S, cmpEv .eq (enS (stretchBy ls xs)) (enS (stretchBy ls xs)) S = some (.bl true) := fun S => eq_self' (okD_enS 17 _)
  generalize westL (allSteps (ls.take k) : Int) xs = ws at *
  generalize eastL (allSteps (ls.take k) : Int) xs = es at *
  simp only [List.map_take, List.map_drop] at *
  simp only [enS] at *
  simp [cf_law_right, cb_law_right_1, cut_takeN, cut_dropN, c0, sm, -blt_sum, c1, c2, e1, e2, e3, e4, e5, e6, rg, sm0, sm2, t1, t2, t3, -eq_ev, -ne_ev, -eqD_tup]
theorem ex_length (q : Q3) : ∃ (x : Len) (q' : Q3), LenOk x ∧ q' = pkQ 2 (pkQ 9 (pkQ 20 q)) ∧ x = (1 + pkR 20 q, ((1 + pkR 9 (pkQ 20 q) : Int) : Rat) / ((1 + pkR 2 (pkQ 9 (pkQ 20 q)) : Int) : Rat)) := by
  have r1 := pkR_nonneg (m := 20) (q := q) (by decide)
  have u1 := pkR_lt (m := 20) (q := q) (by decide)
  have r2 := pkR_nonneg (m := 9) (q := pkQ 20 q) (by decide)
  have u2 := pkR_lt (m := 9) (q := pkQ 20 q) (by decide)
  have r3 := pkR_nonneg (m := 2) (q := pkQ 9 (pkQ 20 q)) (by decide)
  have u3 := pkR_lt (m := 2) (q := pkQ 9 (pkQ 20 q)) (by decide)
  have hs := small_div (a := 1 + pkR 9 (pkQ 20 q)) (b := 1 + pkR 2 (pkQ 9 (pkQ 20 q))) (by omega) (by omega) (by omega) (by omega)
  exact ⟨_, _, ⟨by show 1 ≤ 1 + pkR 20 q; omega, by show 1 + pkR 20 q ≤ 999; omega, div_pos' (by omega) (by omega), hs.1, hs.2⟩, rfl, rfl⟩
theorem all_right [h : LsOk ls] [hb : BkOk b] [hK : KsOk ls xs] (hs : ∀ x ∈ xs, Bd x.1 200) {ts : List Int} (ht : ∀ t ∈ ts, 1 ≤ t ∧ t < ls.length) (hl : ts.length ≤ 900) {y0 y1 y2 y4 y6 y7 y8 y9 : Option D} : compEv (ev (evF PX (n + 9)) (.call 44 (.cons (.var 3) (.cons (.var 5) (.cons (.var 9) .nil))))) (ev (evF PX (n + 9)) (.con (.bl true))) (.nm 9) (.fix (ts.map D.int)) [y0, y1, y2, some (.tup [.tup (ls.map enL), fr b]), y4, some (.tup (xs.map enK)), y6, y7, y8, y9] [9] (ts.map D.int) [] S = .ok (ts.map fun _ => .bl true) S := by
  have := comp_map (F := evF PX (n + 9)) (elt := .call 44 (.cons (.var 3) (.cons (.var 5) (.cons (.var 9) .nil)))) (tg := .nm 9) (w := ts.map D.int) (δ := [y0, y1, y2, some (.tup [.tup (ls.map enL), fr b]), y4, some (.tup (xs.map enK)), y6, y7, y8, y9]) (own := [9]) (S := S) D.int (fun _ => .bl true) ts [] (by simp; omega) (fun t hm => by
    obtain ⟨t1, t2⟩ := ht t hm
    have e := right (n := n) (S := S) (ls := ls) (b := b) (xs := xs) (k := t.toNat) hs (by omega) (by omega)
    rw [show ((t.toNat : Nat) : Int) = t by omega] at e
    simp [wipeD, e])
  simpa using this
theorem step (ns : List Int) (i : Int) (S : Store) (x2 x3 x4 x5 x6 x7 x8 x9 : Option D) (i0 : 0 ≤ i) (i1 : i < 64) : ∃ (t : List (Option D)) (S' : Store), t.length = 9 ∧ run (evF PX (n + 9)) cb_law_1 [some (.scr (ns.map D.int)), some (.int i), x2, x3, x4, x5, x6, x7, x8, x9] S = .nx (some (.scr (ns.map D.int)) :: t) S' := by
  obtain ⟨c, e1⟩ := ex_cell (P := PX) (ns := ns) i0 (by omega)
  obtain ⟨q, e2⟩ := ex_purse (P := PX) c
  have hp : S.length < S.length + 1 := by omega
  have hp' : S.length < (S ++ [Cell.gone]).length := by simp
  have go : ∀ m : Int, (if pkR 8 q = 3 then 11 else 3) = m → 1 ≤ m → m ≤ 11 → ∃ (t : List (Option D)) (S' : Store), t.length = 9 ∧ run (evF PX (n + 9)) cb_law_1 [some (.scr (ns.map D.int)), some (.int i), x2, x3, x4, x5, x6, x7, x8, x9] S = .nx (some (.scr (ns.map D.int)) :: t) S' := fun m hm m1 m2 => by
    obtain ⟨ls0, b, q1, hls0, hb, hll, e3⟩ := ex_cable (P := PX) (pkQ 8 q) (m := m) m1 (by omega)
    have e3' := fun n => e3 n (S ++ [.gone]) S.length hp'
    obtain ⟨x, q2, ox, hq2, hx⟩ := ex_length q1
    have lo := hls0.lo
    have hi := hls0.hi
    have hls : LsOk (ls0 ++ [x]) := ⟨by simp, by simp; omega, fun y hy => by
      rcases List.mem_append.mp hy with hy | hy
      · exact hls0.len y hy
      · rw [List.mem_singleton.mp hy]; exact ox⟩
    have hlen : (ls0 ++ [x]).length = ls0.length + 1 := by simp
    have emap : ls0.map enL ++ [enL x] = (ls0 ++ [x]).map enL := by simp
    obtain ⟨xs, q3, hxs, hxl, hs2, e4⟩ := ex_leaks (P := PX) q2 (ls0 ++ [x]) (c := 3) (by decide) (by decide)
    have e4' := fun n => e4 n (S ++ [.gone]) S.length b hp'
    have M1 : (1 : Int) ≤ (ls0.length : Int) := by omega
    have M11 : (ls0.length : Int) ≤ 11 := by omega
    have el := ev_law_low (P := PX) (n := n + 8) (S := Sq (S ++ [.gone]) S.length (pkQ 2 (pkQ 9 (pkQ 20 q1)))) (a := 1 + pkR 9 (pkQ 20 q1)) (b := 1 + pkR 2 (pkQ 9 (pkQ 20 q1))) (by have := pkR_nonneg (m := 2) (q := pkQ 9 (pkQ 20 q1)) (by decide); omega)
    have M0 : (0 : Int) < (ls0.length : Int) := by omega
    have mo : ∀ (q : Q3) (t : Int), 1 ≤ 1 + (pkR ls0.length q + t) % (ls0.length : Int) ∧ 1 + (pkR ls0.length q + t) % (ls0.length : Int) < (ls0.length : Int) + 1 := fun q t => by
      have := Int.emod_nonneg (pkR ls0.length q + t) (show (ls0.length : Int) ≠ 0 by omega)
      have := Int.emod_lt_of_pos (pkR ls0.length q + t) M0
      omega
    have MN : 0 < ls0.length := by omega
    have sm0 : small62 0 := ⟨by decide, by decide⟩
    have sm3 : small62 3 := ⟨by decide, by decide⟩
    have sm1 : small62 1 := ⟨by decide, by decide⟩
    have smM : small62 ((ls0.length : Int) + 1) := ⟨by omega, by omega⟩
    have rg : rngD 0 3 = [.int 0, .int 1, .int 2] := rfl
    have hx1 : enL x = .tup [.int (1 + pkR 20 q1), fr (((1 + pkR 9 (pkQ 20 q1) : Int) : Rat) / ((1 + pkR 2 (pkQ 9 (pkQ 20 q1)) : Int) : Rat))] := by rw [hx]; rfl
    rw [← emap, hx1] at e4'
    rw [hq2] at e4'
    have ba : binEv .add (.tup (ls0.map enL)) (.tup [.tup [.int (1 + pkR 20 q1), fr (((1 + pkR 9 (pkQ 20 q1) : Int) : Rat) / ((1 + pkR 2 (pkQ 9 (pkQ 20 q1)) : Int) : Rat))]]) (Sq (S ++ [.gone]) S.length (pkQ 2 (pkQ 9 (pkQ 20 q1)))) = some (.tup (ls0.map enL ++ [.tup [.int (1 + pkR 20 q1), fr (((1 + pkR 9 (pkQ 20 q1) : Int) : Rat) / ((1 + pkR 2 (pkQ 9 (pkQ 20 q1)) : Int) : Rat))]])) := bin_add_tup (by simp; omega)
    have b20 := pkR_nonneg (m := 20) (q := q1) (by decide)
    have ar := fun (S : Store) (y0 y1 y2 y4 y6 y7 y8 y9 : Option D) (ts : List Int) (ht : ∀ t ∈ ts, 1 ≤ t ∧ t < ((ls0 ++ [x]).length : Int)) (hl : ts.length ≤ 900) => all_right (n := n) (S := S) (ls := ls0 ++ [x]) (b := b) (xs := xs) (fun x hx => (hs2 x hx).1) ht hl (y0 := y0) (y1 := y1) (y2 := y2) (y4 := y4) (y6 := y6) (y7 := y7) (y8 := y8) (y9 := y9)
    rw [← emap, hx1] at ar
    generalize (((1 + pkR 9 (pkQ 20 q1) : Int) : Rat) / ((1 + pkR 2 (pkQ 9 (pkQ 20 q1)) : Int) : Rat)) = g at *
    by_cases h4 : (ls0.length : Int) < 4
    · have hr : rngD 1 ((ls0.length : Int) + 1) = ((List.range ls0.length).map fun k : Nat => 1 + (k : Int)).map D.int := by
        unfold rngD
        rw [List.map_map, show ((ls0.length : Int) + 1 - 1).toNat = ls0.length by omega]
        rfl
      have a1 := fun y0 y1 y2 y4 y6 y7 y8 y9 S => ar S y0 y1 y2 y4 y6 y7 y8 y9 ((List.range ls0.length).map fun k : Nat => 1 + (k : Int)) (fun t ht => by
        obtain ⟨k, hk, rfl⟩ := List.mem_map.mp ht
        have := List.mem_range.mp hk
        rw [hlen]
        omega) (by simp; omega)
      rw [← hr] at a1
      have b9 : bls? (List.map ((fun x => D.bl true) ∘ fun k : Nat => 1 + (k : Int)) (List.range ls0.length)) = some ((List.range ls0.length).map fun _ => true) := bls_true (List.range ls0.length)
      have n24 : ls0.length ≤ 16777216 := by omega
      refine ⟨[some (.int i), some (.ref S.length), some (.tup [.tup (ls0.map enL ++ [.tup [.int (1 + pkR 20 q1), fr g]]), fr b]), some (.tup [.int (1 + pkR 20 q1), fr g]), some (.tup (xs.map enK)), some (.int ls0.length), some (.lst (rngD 1 ((ls0.length : Int) + 1))), x8, x9], Sq (S ++ [.gone]) S.length (pkQ ls0.length (pkQ ls0.length (pkQ ls0.length q3))), rfl, ?_⟩
      by_cases hz : pkR 8 q = 3 <;> simp [hz] at hm <;> subst hm <;> simp [cb_law_1, e1, e2, hp, hz, e3', el, -ev_law_low, ba, -bin_add_tup, e4', MN, sm0, sm3, sm1, smM, rg, h4, n24, a1, b9]
    · have a1 := fun y0 y1 y2 y4 y6 y7 y8 y9 S => ar S y0 y1 y2 y4 y6 y7 y8 y9 [1 + pkR ls0.length q3 % (ls0.length : Int), 1 + (pkR ls0.length (pkQ ls0.length q3) + 1) % (ls0.length : Int), 1 + (pkR ls0.length (pkQ ls0.length (pkQ ls0.length q3)) + 2) % (ls0.length : Int)] (fun t ht => by
        have o1 := mo q3 0
        rw [Int.add_zero] at o1
        have o2 := mo (pkQ ls0.length q3) 1
        have o3 := mo (pkQ ls0.length (pkQ ls0.length q3)) 2
        rw [hlen]
        simp only [List.mem_cons, List.not_mem_nil, or_false] at ht
        rcases ht with rfl | rfl | rfl <;> omega) (by simp)
      simp only [List.map_cons, List.map_nil] at a1
      refine ⟨[some (.int i), some (.ref S.length), some (.tup [.tup (ls0.map enL ++ [.tup [.int (1 + pkR 20 q1), fr g]]), fr b]), some (.tup [.int (1 + pkR 20 q1), fr g]), some (.tup (xs.map enK)), some (.int ls0.length), some (.lst [.int (1 + pkR ls0.length q3 % (ls0.length : Int)), .int (1 + (pkR ls0.length (pkQ ls0.length q3) + 1) % (ls0.length : Int)), .int (1 + (pkR ls0.length (pkQ ls0.length (pkQ ls0.length q3)) + 2) % (ls0.length : Int))]), x8, x9], Sq (S ++ [.gone]) S.length (pkQ ls0.length (pkQ ls0.length (pkQ ls0.length q3))), rfl, ?_⟩
      by_cases hz : pkR 8 q = 3 <;> simp [hz] at hm <;> subst hm <;> simp [cb_law_1, e1, e2, hp, hz, e3', el, -ev_law_low, ba, -bin_add_tup, e4', MN, sm0, sm3, sm1, smM, rg, h4, a1]
  exact go _ rfl (by split <;> decide) (by split <;> decide)
theorem good (ns : List Int) (hl : ns.length ≤ 63) : ∃ S, evF L.prog 13 45 [.scr (ns.map D.int)] [] = .ok (.bl true) S := by
  simp only [law_ev]
  refine law_good (n := 12) (N := 8) (E := _) (body := cb_law_1) p_law (if 2 < (if (ns.length : Int) < 5 then (ns.length : Int) else 5) then (if (ns.length : Int) < 5 then (ns.length : Int) else 5) else 2) (by split <;> split <;> omega) (by split <;> split <;> omega) (by simp) (fun i t S i0 i1 ht => ?_)
  match t, ht with
  | [x2, x3, x4, x5, x6, x7, x8, x9], _ =>
    obtain ⟨t, S', h1, h2⟩ := step (n := 3) ns i S x2 x3 x4 x5 x6 x7 x8 x9 i0 i1
    exact ⟨t, S', h2, h1⟩
end
end ZL

namespace ZL
open PySem PySem.Spec PyProof.Rows L2 Z
abbrev R : PySem.W.OpenRow := PySem.W.OpenLaw.row PySem.Challenge.rw_earthends_k26_parts_and_their_leaks
abbrev hk : PySem.W.Hook := hookZ 4 L
def ob (s : PySem.W.SharedT) : ObZ := obsZG 4 L (HandSHeadRun.getT s)
theorem ob_eq (s : PySem.W.SharedT) : ob s = hk.obs s.abs := obsZG_eq (HandSHeadRun.getT_eq s)
theorem run (w : World) : HandSHeadRun.RunEq R (PySem.W.view R.prog [61]) hk ob 6000 loose w := by
  intro os
  kernel_rfl

def CXn : CXT := fun _ _ _ _ _ _ => False
theorem fn_cx {P : Program} {w : World} {K : PySem.W.Frag} {mg : Str → Option Value} {base : Heap} {k : Nat} {f : Addr} {fd : FuncData} {ps : List Str} {sp : Sp} (F : FnOk P w K mg base (L2N.CX P w) k f fd ps sp) : FnOk P w K mg base CXn k f fd ps (fun vs H Q _ => sp vs H Q fun _ _ _ => False) :=
  ⟨fun vs H Q E h => F.len vs H Q _ h, fun A outer s H args us vs Q E hr e0 hb rv h => codeAny_mono (F.run A outer s H args us vs Q _ hr e0 hb rv h) fun r s' hc => by
    cases r with
    | ok fl => cases fl <;> exact hc
    | error e =>
      obtain ⟨_, _, _, _, _, _, _, _, _, _, _, _, z⟩ := hc
      exact z.elim⟩
theorem facts {P : Program} (tree : P.given.tree = none) {w : World} {K : PySem.W.Frag} {h : Heap} {mg : Str → Option Value} {f : Addr} (X : K.In h) (G : h.Ns mainGlobals mg) (hfa : mg ("law" : Str) = some (.ref f)) (c : SaysZ L K) :
    ∃ (fd : FuncData) (sp : Sp), (∀ (s : Shared) (u : Value), BindsTo s fd ⟨[u], []⟩ [("_law_script", u)]) ∧
        (∀ (H : L2.Hp) (a : Addr) (ns : List Int), ns.length ≤ 63 → L2.Only H → L2.SqL K H a (ns.map L2.V.int) → sp [.ref a] H (fun v _ => v = .bl true) fun _ _ _ => False) ∧
        ∀ base : Heap, K.In base → base.Ns mainGlobals mg → FnOk P w K mg base CXn 53 f fd ["_law_script"] sp := by
  obtain ⟨fd, sp, h1, h2, h3⟩ := law_facts (P := P) (w := w) (n := 63) (i := 45) (d := (L.defs)[45]'(by decide +kernel)) X G c chk (by rfl) tree (by rfl) hfa (fun ns h => good ns h)
  exact ⟨fd, fun vs H Q _ => sp vs H Q fun _ _ _ => False, h1, fun H a ns hl hO hS => h2 H a ns hl hO hS, fun base b1 b2 => fn_cx (h3 base b1 b2)⟩
end ZL
open PySem PySem.W PySem.Calls PyProof.Rows
theorem PySem.Challenge.cw_earthends_k26_parts_and_their_leaks_holds : PySem.Challenge.rw_earthends_k26_parts_and_their_leaks.Holds := by
  w_on; o_law
  refine HandSHeadRun.head_any (r := OpenLaw.row PySem.Challenge.rw_earthends_k26_parts_and_their_leaks) (q := view (OpenLaw.row PySem.Challenge.rw_earthends_k26_parts_and_their_leaks).prog [61]) (H := ZL.hk) (ob := ZL.ob) (M := 6000) (loose := ZL.loose) (d := HandSHeadRun.topDef (OpenLaw.row PySem.Challenge.rw_earthends_k26_parts_and_their_leaks).prog 61) (kwd := []) ZL.ob_eq
    (by kernel_rfl) (fun s => by kernel_rfl) ZL.run (by kernel_rfl) (by kernel_rfl) (by kernel_rfl) (by rfl) (by first | assumption | decide +kernel) (by decide +kernel) ⟨rfl, rfl, rfl, rfl, rfl, by decide +kernel⟩ ?hw ?hc
  case hw => w_witness2
  case hc =>
    refine L2.walk_ofE (l := PySem.Challenge.rw_earthends_k26_parts_and_their_leaks) (n := 63) (k := 53) (x := "_law_script") (CX := ZL.CXn) rfl (by decide) (by kernel_rfl) ⟨rfl, by decide, by decide⟩ ?F ?X
    case X => exact fun _ _ _ _ z => z
    intro w mg fa h Y G hmg0
    obtain ⟨K, KX, c⟩ := Y
    have hmg : mg ("law" : PySem.Str) = some (.ref fa) := by
      have e : (HandSHeadRun.topDef (OpenLaw.row PySem.Challenge.rw_earthends_k26_parts_and_their_leaks).prog 61).name = ("law" : PySem.Str) := by kernel_rfl
      rw [← e]
      exact hmg0
    obtain ⟨fd, sp, hb, hS, hF⟩ := ZL.facts (P := (PySem.Challenge.rw_earthends_k26_parts_and_their_leaks).prog) (w := w) (by rfl) KX G hmg c
    exact ⟨K, fd, sp, KX, hb, hS, hF⟩
