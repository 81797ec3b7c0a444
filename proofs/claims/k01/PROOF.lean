import PyProof.Rows.All
import Wide.All
import OpenK.AllK
import Wide.FinOn
import HandS.ForMost
import HandS.ForExc
import HandS.IsInst
import HandS.Wide
import HandS.TupAny
import HandS.TupMul
import HandS.Deep
import HandS.CallSlots
import HandS.SortInts
import HandS.Rev
import HandS.RevRange
import HandS.TryOnly
import HandS.Style
import HandS.Head2
import HandS.HeadEnd
import HandS.HeadHook2
import HandS.HotCalls
import HandS.DictTup
import HandS.More
import HandS.NoneIn
import HandS.Conv
import HandS.SetKeys
import PyProof.NoPylong
import HandS.ExcIs
import HandS.ExcValue
import HandS.Head0
import HandS.Head1
import HandS.HeadHook1
import PySem.Challenge.RW_earthends_k01_fractions_reckoned
import KE.KStateDown
import Lean
import HandS.Ends
set_option Elab.async false
set_option linter.all false
set_option maxRecDepth 100000
set_option maxHeartbeats 0
/-! Z, part A: a small language of data, and how it is run. -/
namespace Z
open PySem
/-- the classes of what is refused, by their numbers -/
def excNames : List Str := ["EarthError", "NoNumber", "NoCable", "NoDrag", "NoLeaks", "NoStretch", "NoWord", "NoReading", "NoPlace", "NoDay", "NoPair", "NoSplice", "NoDays", "NoPlaces", "NoLength", "NoDeed", "NoBack", "NoRow", "NoText"]
/-- data -/
inductive D where
  | non | bl (b : Bool) | int (i : Int) | str (x : Str)
  | tup (ds : List D) | lst (ds : List D) | scr (ds : List D) | edic
  | ref (i : Nat)
  | exc (c : Nat) (a : D)
/-- what stands in the store -/
inductive Cell where
  | lst (ds : List D)
  | dk (kvs : List (L2.Key × D))
  | dt (kvs : List (List L2.Key × D))
  | gone
abbrev Store := List Cell
abbrev Env := List (Option D)
/-- a value and the store behind it; an exception; no promise -/
inductive R (α : Type) where
  | ok (a : α) (S : Store)
  | exc (c : Nat) (a : D) (S : Store)
  | stuck
@[inline] def R.bind {α β : Type} (r : R α) (k : α → Store → R β) : R β := match r with
  | .ok a S => k a S
  | .exc c a S => .exc c a S
  | .stuck => .stuck
@[simp] theorem R.bind_ok {α β : Type} (a : α) (S : Store) (k : α → Store → R β) : (R.ok a S).bind k = k a S := rfl
@[simp] theorem R.bind_exc {α β : Type} (c : Nat) (a : D) (S : Store) (k : α → Store → R β) : (R.exc c a S : R α).bind k = .exc c a S := rfl
@[simp] theorem R.bind_stuck {α β : Type} (k : α → Store → R β) : (R.stuck : R α).bind k = .stuck := rfl

inductive Bop where | add | sub | mul | fdiv | mod | pow
inductive Cop where | eq | ne | lt | le | gt | ge | is | isnot | isin | notin
/-- kinds that isinstance asks for -/
inductive Ty where | int | bool | str | tup | lst | dict | own (c : Nat)
inductive Blt where | len | abs | int | str | tuple | list | all | any | sum | min | max | sorted | repr
inductive Mth where | append | reverse | pop | count | index | insert | extend | cat
/-- targets: a name, a tuple of these (cons-lists) -/
inductive CT where
  | nm (i : Nat) | nil | cons (t ts : CT) | tp (ts : CT)
inductive CE where
  | var (i : Nat) | con (d : D) | edic
  | nil | cons (e es : CE) | one (e : CE)
  | tup (es : CE) | lst (es : CE) | mlst (es : CE) | mdk | mdt
  | bin (op : Bop) (a b : CE) | neg (a : CE)
  | cmp (op : Cop) (a b : CE) | chain (o1 o2 : Cop) (a b c : CE)
  | not (a : CE) | and (a b : CE) | or (a b : CE) | ife (c a b : CE)
  | idx (a i : CE) | sl (a lo hi : CE) | rev (a : CE)
  | call (f : Nat) (es : CE) | blt (b : Blt) (es : CE) | isi (a : CE) (t : Ty)
  | mth (m : Mth) (o es : CE)
  | rng (a b : CE) | rgl (a b : CE) | setd (o e f : CE)
  | comp (elt : CE) (tg : CT) (it cond : CE) (own : List Nat) (isM : Bool)
inductive CS where
  | skip | never | seq (a b : CS) | expr (e : CE) | ret (e : CE) | retF (i : Nat)
  | asg (t : CT) (e : CE) | set (o i e : CE)
  | ife (c : CE) (a b : CS) | whl (c : CE) (b : CS) | fr (t : CT) (it : CE) (b : CS) | brk
  | rais (c : Nat) (a : CE)
  | tr (b : CS) (c : Nat) (i : Nat) (h : CS)
structure CF where
  np : Nat
  ns : Nat
  body : CS

/-! ### how it is run -/
/-- a sequence that is read -/
def seqOf (S : Store) : D → Option (List D)
  | .tup ds => some ds
  | .lst ds => some ds
  | .scr ds => some ds
  | .ref i => match S[i]? with
    | some (.lst ds) => some ds
    | _ => none
  | _ => none
/-- a list that is read, not the script -/
def seqL (S : Store) : D → Option (List D)
  | .lst ds => some ds
  | .ref i => match S[i]? with
    | some (.lst ds) => some ds
    | _ => none
  | _ => none
def isTup : D → Bool
  | .tup _ => true
  | _ => false
mutual
/-- as data of the library: no cell within -/
def py : D → Option PyData
  | .non => some .none
  | .bl b => some (.bool b)
  | .int i => some (.int i)
  | .str x => some (.str x)
  | .tup ds => match pys ds with
    | some xs => some (.tuple xs)
    | none => none
  | .lst ds => match pys ds with
    | some xs => some (.list xs)
    | none => none
  | .scr _ => none
  | .edic => none
  | .ref _ => none
  | .exc _ _ => none
def pys : List D → Option (List PyData)
  | [] => some []
  | d :: ds => match py d, pys ds with
    | some x, some xs => some (x :: xs)
    | _, _ => none
end
/-- a cell's list as data -/
def pyS (S : Store) : D → Option PyData
  | .ref i => match S[i]? with
    | some (.lst ds) => match pys ds with
      | some xs => some (.list xs)
      | none => none
    | _ => none
  | d => py d
mutual
/-- no cell within -/
def noref : D → Bool
  | .tup ds => norefs ds
  | .lst ds => norefs ds
  | .scr ds => norefs ds
  | .ref _ => false
  | .exc _ a => noref a
  | _ => true
def norefs : List D → Bool
  | [] => true
  | d :: ds => noref d && norefs ds
end
def Cell.noref : Cell → Bool
  | .lst ds => norefs ds
  | .dk kvs => norefs (kvs.map (·.2))
  | .dt kvs => norefs (kvs.map (·.2))
  | .gone => true
def MulOk (i j : Int) : Prop := IntMulOk i j
def DivOk (_i j : Int) : Prop := 0 < j
def seqMk : D → List D → D
  | .tup _, ds => .tup ds
  | _, ds => .lst ds

def R.opt (o : Option D) (S : Store) : R D := match o with
  | some d => .ok d S
  | none => .stuck
@[simp] theorem R.opt_some (d : D) (S : Store) : R.opt (some d) S = .ok d S := rfl
@[simp] theorem R.opt_none (S : Store) : R.opt none S = .stuck := rfl
def R.opt2 (o : Option (D × Store)) : R D := match o with
  | some (d, S) => .ok d S
  | none => .stuck
@[simp] theorem R.opt2_some (d : D) (S : Store) : R.opt2 (some (d, S)) = .ok d S := rfl
@[simp] theorem R.opt2_none : R.opt2 none = .stuck := rfl
open Classical in
noncomputable def catEv (S : Store) (x y : D) : Option D := match seqL S x, seqL S y with
  | some xs, some ys => if xs.length + ys.length ≤ sizeLine then some (.lst (xs ++ ys)) else none
  | _, _ => none
open Classical in
noncomputable def addEv (S : Store) : D → D → Option D
  | .int i, .int j => some (.int (i + j))
  | .str i, .str j => if i.length + j.length ≤ sizeLine then some (.str (i ++ j)) else none
  | .tup xs, .tup ys => if xs.length + ys.length ≤ sizeLine then some (.tup (xs ++ ys)) else none
  | .lst xs, y => catEv S (.lst xs) y
  | .ref i, y => catEv S (.ref i) y
  | _, _ => none
open Classical in
noncomputable def repEv (S : Store) (x : D) (k : Int) : Option D := match seqL S x with
  | some xs => if -(2 ^ 63) ≤ k ∧ k < 2 ^ 63 ∧ xs.length * k.toNat ≤ sizeLine then some (.lst (List.replicate k.toNat xs).flatten) else none
  | none => none
open Classical in
noncomputable def mulEv (S : Store) : D → D → Option D
  | .int i, .int j => if MulOk i j then some (.int (i * j)) else none
  | .tup xs, .int k => if xs ≠ [] ∧ 2 ≤ k ∧ k ≤ 1000 ∧ xs.length ≤ 1000 then some (.tup (List.replicate k.toNat xs).flatten) else none
  | .lst xs, .int k => repEv S (.lst xs) k
  | .ref i, .int k => repEv S (.ref i) k
  | _, _ => none
open Classical in
noncomputable def binEv (op : Bop) (x y : D) (S : Store) : Option D := match op with
  | .add => addEv S x y
  | .sub => match x, y with
    | .int i, .int j => some (.int (i - j))
    | _, _ => none
  | .mul => mulEv S x y
  | .fdiv => match x, y with
    | .int i, .int j => if DivOk i j then some (.int (i / j)) else none
    | _, _ => none
  | .mod => match x, y with
    | .int i, .int j => if 0 < j then some (.int (i % j)) else none
    | _, _ => none
  | .pow => match x, y with
    | .int i, .int j => if 0 ≤ j ∧ j ≤ 1000000 ∧ i.natAbs < 2 ^ 64 then some (.int (i ^ j.toNat)) else none
    | _, _ => none
def cmpI (op : Cop) (i j : Int) : Option Bool := match op with
  | .lt => some (decide (i < j))
  | .le => some (decide (i ≤ j))
  | .gt => some (decide (j < i))
  | .ge => some (decide (j ≤ i))
  | _ => none
def shapedO : Option PyData → Option PyData
  | some d => if SeqAt.shaped d = true then some d else none
  | none => none
/-- the constant behind is, is not -/
def isEv (x y : D) : Option Bool := match y, x with
  | .non, .non => some true
  | .non, _ => some false
  | .bl b, .bl a => some (decide (a = b))
  | _, _ => none
def flatD : D → Bool
  | .non => true
  | .bl _ => true
  | .int _ => true
  | .str _ => true
  | _ => false
def keyOf : D → Option L2.Key
  | .int i => some (.inl i)
  | .str x => some (.inr x)
  | _ => none
/-- a dict that is read -/
def dkOf (S : Store) : D → Option (List (L2.Key × D))
  | .ref i => match S[i]? with
    | some (.dk kvs) => some kvs
    | _ => none
  | _ => none
def valD (kvs : List (L2.Key × D)) (k : L2.Key) : Option D := (kvs.find? fun kv => decide (kv.1 = k)).map (·.2)
def putD (kvs : List (L2.Key × D)) (k : L2.Key) (v : D) : List (L2.Key × D) :=
  if (kvs.any fun kv => decide (kv.1 = k)) = true then kvs.map (fun kv => if kv.1 = k then (kv.1, v) else kv) else kvs ++ [(k, v)]
def keysI : List (L2.Key × D) → Option (List Int)
  | [] => some []
  | (.inl i, _) :: r => (keysI r).map (i :: ·)
  | (.inr _, _) :: _ => none
def sortI (ks : List Int) : List Int := ks.mergeSort fun a b => decide (a ≤ b)
def inEv (S : Store) (x y : D) : Option Bool := match y with
  | .tup ds => if flatD x = true ∧ ds.all flatD = true then (match py x, pys ds with
      | some d, some es => some (es.any fun z => PyData.eqv z d)
      | _, _ => none) else none
  | y => match shapedO (pyS S x), shapedO (pyS S y) with
    | some d, some (.list es) => some (es.any fun z => PyData.eqv z d)
    | _, _ => none
def inEvD (S : Store) (x y : D) : Option Bool := match dkOf S y with
  | some kvs => (keyOf x).map fun k => (valD kvs k).isSome
  | none => inEv S x y
def eqEv (S : Store) (x y : D) : Option Bool := match shapedO (pyS S x), shapedO (pyS S y) with
  | some d, some e => some (PyData.eqv d e)
  | _, _ => none
def ordEv (op : Cop) (x y : D) : Option Bool := match x, y with
  | .int i, .int j => cmpI op i j
  | _, _ => none
def cmpB (op : Cop) (x y : D) (S : Store) : Option Bool := match op with
  | .eq => eqEv S x y
  | .ne => (eqEv S x y).map (!·)
  | .is => isEv x y
  | .isnot => (isEv x y).map (!·)
  | .isin => inEvD S x y
  | .notin => (inEvD S x y).map (!·)
  | op => ordEv op x y
def cmpEv (op : Cop) (x y : D) (S : Store) : Option D := (cmpB op x y S).map .bl
def idxEv (x y : D) (S : Store) : Option D := match dkOf S x with
  | some kvs => (keyOf y).bind (valD kvs)
  | none => match y with
    | .int i => match seqOf S x with
      | some ds => L2.atI ds i
      | none => none
    | _ => none
def cutD (ds : List D) (lo hi : Option Int) : List D := (ds.drop (HT.sIx ds.length 0 lo)).take (HT.sIx ds.length ds.length hi - HT.sIx ds.length 0 lo)
def slEv (x : D) (lo hi : Option Int) (S : Store) : Option D := match x with
  | .tup ds => some (.tup (cutD ds lo hi))
  | .scr ds => some (.lst (cutD ds lo hi))
  | .str z => if z.length ≤ sizeLine then some (.str (L2.cutS z lo hi)) else none
  | x => (seqL S x).map fun ds => .lst (cutD ds lo hi)
def revEv (x : D) (S : Store) : Option D := match x with
  | .tup ds => some (.tup ds.reverse)
  | x => (seqL S x).map fun ds => .lst ds.reverse
def ints? : List D → Option (List Int)
  | [] => some []
  | .int i :: ds => (ints? ds).map (i :: ·)
  | _ => none
def bls? : List D → Option (List Bool)
  | [] => some []
  | .bl b :: ds => (bls? ds).map (b :: ·)
  | _ => none
open Classical in
noncomputable def lenEv (S : Store) (x : D) : Option D := match seqOf S x with
  | some ds => some (.int ds.length)
  | none => match x with
    | .str z => if z.length ≤ sizeLine then some (.int z.length) else none
    | _ => none
open Classical in
noncomputable def strEv : D → Option D
  | .int i => if i.natAbs.log2 < 1920 then some (.str (toString i)) else none
  | _ => none
def absEv : D → Option D
  | .int i => some (.int (if i < 0 then -i else i))
  | _ => none
def intEv : D → Option D
  | .int i => some (.int i)
  | .bl b => some (.int (if b then 1 else 0))
  | _ => none
def minEv : D → D → Option D
  | .int i, .int j => some (.int (if j < i then j else i))
  | _, _ => none
def maxEv : D → D → Option D
  | .int i, .int j => some (.int (if j > i then j else i))
  | _, _ => none
noncomputable def bltEv (b : Blt) (xs : List D) (S : Store) : Option D := match b, xs with
  | .len, [x] => lenEv S x
  | .abs, [x] => absEv x
  | .int, [x] => intEv x
  | .str, [x] => strEv x
  | .repr, [x] => strEv x
  | .tuple, [x] => (seqOf S x).map .tup
  | .list, [x] => (seqOf S x).map .lst
  | .all, [x] => ((seqL S x).bind bls?).map fun bs => .bl (bs.all id)
  | .any, [x] => ((seqL S x).bind bls?).map fun bs => .bl (bs.any id)
  | .sum, [x] => ((seqL S x).bind ints?).map fun ns => .int ns.sum
  | .sorted, [x] => match dkOf S x with
    | some kvs => (keysI kvs).bind fun ks => if ks.length < 64 then some (.lst ((sortI ks).map .int)) else none
    | none => ((seqL S x).bind ints?).map fun ns => .lst ((sortI ns).map .int)
  | .min, [x, y] => minEv x y
  | .max, [x, y] => maxEv x y
  | _, _ => none
def isiEv (x : D) (t : Ty) (S : Store) : Option Bool := match t, x with
  | .own k, .exc c _ => some (decide (k = 0 ∨ k = 99 ∨ k = c))
  | .own _, .non => some false
  | .own _, _ => none
  | _, .exc _ _ => none
  | .int, .int _ => some true
  | .int, .bl _ => some true
  | .bool, .bl _ => some true
  | .str, .str _ => some true
  | .tup, .tup _ => some true
  | .lst, .lst _ => some true
  | .lst, .scr _ => some true
  | .dict, .edic => some true
  | t, .ref i => match S[i]?, t with
    | some (.lst _), .lst => some true
    | some (.lst _), _ => some false
    | some (.dk _), .dict => some true
    | some (.dk _), _ => some false
    | some (.dt _), .dict => some true
    | some (.dt _), _ => some false
    | _, _ => none
  | _, _ => some false
def setEv (o i v : D) (S : Store) : Option Store := match o, i with
  | .ref p, i => match S[p]? with
    | some (.lst ds) => match i with
      | .int k => (L2.ixN ds.length k).map fun j => S.set p (.lst (ds.set j v))
      | _ => none
    | some (.dk kvs) => (keyOf i).bind fun k => if kvs.length < sizeLine then some (S.set p (.dk (putD kvs k v))) else none
    | _ => none
  | _, _ => none
open Classical in
noncomputable def mthEv (m : Mth) (o : D) (xs : List D) (S : Store) : Option (D × Store) := match m, o, xs with
  | .append, .ref p, [y] => match S[p]? with
    | some (.lst ds) => if ds.length < sizeLine then some (.non, S.set p (.lst (ds ++ [y]))) else none
    | _ => none
  | .reverse, .ref p, [] => match S[p]? with
    | some (.lst ds) => some (.non, S.set p (.lst ds.reverse))
    | _ => none
  | .pop, .ref p, [] => match S[p]? with
    | some (.lst ds) => (ds[ds.length - 1]?).map fun y => (y, S.set p (.lst ds.dropLast))
    | _ => none
  | .count, x, [.bl b] => match (seqL S x).bind bls? with
    | some bs => some (.int ((bs.filter (· == b)).length : Nat), S)
    | none => none
  | .index, x, [.bl b] => match (seqL S x).bind bls? with
    | some bs => (bs.findIdx? (· == b)).map fun j => (.int (j : Nat), S)
    | none => none
  | .insert, .ref p, [.int i, y] => match S[p]? with
    | some (.lst ds) => if ds.length < sizeLine ∧ 0 ≤ i ∧ i < 2 ^ 63 then some (.non, S.set p (.lst (ds.take i.toNat ++ [y] ++ ds.drop i.toNat))) else none
    | _ => none
  | .cat, x, [y] => match seqL S x, seqL S y with
    | some xs, some ys => if xs.length + ys.length ≤ sizeLine then some (.ref S.length, S ++ [.lst (xs ++ ys)]) else none
    | _, _ => none
  | _, _, _ => none
/-- d.setdefault(k, v) -/
def setdEv (x y z : D) (S : Store) : Option (D × Store) := match x with
  | .ref p => match S[p]? with
    | some (.dk kvs) => match keyOf y with
      | some k => if kvs.length < sizeLine then (match valD kvs k with
        | some v => some (v, S)
        | none => some (z, S.set p (.dk (putD kvs k z)))) else none
      | none => none
    | _ => none
  | _ => none
/-- targets -/
def stepT : CT → D → Env → Option Env
  | .nm i, d, δ => if i < δ.length then some (δ.set i (some d)) else none
  | .tp ts, .tup ds, δ => go ts ds δ
  | .tp ts, .lst ds, δ => go ts ds δ
  | _, _, _ => none
where go : CT → List D → Env → Option Env
  | .nil, [], δ => some δ
  | .cons (.nm i) ts, d :: ds, δ => if i < δ.length then go ts ds (δ.set i (some d)) else none
  | _, _, _ => none
def wipeD (δ : Env) : List Nat → Env
  | [] => δ
  | v :: vs => (wipeD δ vs).set v none
/-- what a loop walks -/
inductive Wk where
  | fix (ds : List D)
  | cel (i : Nat) (ds : List D)
def Wk.items : Wk → List D
  | .fix ds => ds
  | .cel _ ds => ds
/-- it still stands -/
def Wk.At (S : Store) : Wk → Prop
  | .fix _ => True
  | .cel i ds => S[i]? = some (.lst ds)
def rngD (a b : Int) : List D := (List.range (b - a).toNat).map fun k => .int (a + (k : Nat))
def small62 (a : Int) : Prop := -(2 ^ 62) ≤ a ∧ a < 2 ^ 62
def walkSeq (S : Store) : D → Option Wk
  | .tup ds => some (.fix ds)
  | .lst ds => some (.fix ds)
  | .str x => some (.fix (x.cps.toList.map fun c => .str ⟨#[c]⟩))
  | .ref i => match S[i]? with
    | some (.lst ds) => some (.cel i ds)
    | _ => none
  | _ => none
abbrev Fn := Nat → List D → Store → R D
open Classical in
/-- the elements of a comprehension, one behind the other -/
noncomputable def compEv (elt : Env → Store → R D) (cond : Env → Store → R D) (tg : CT) (w : Wk) (δ : Env) (own : List Nat) : List D → List D → Store → R (List D)
  | [], acc, S => if w.At S then .ok acc S else .stuck
  | d :: ds, acc, S => if w.At S then
      match stepT tg d (wipeD δ own) with
      | some δ1 => if acc.length < sizeLine then
          match cond δ1 S with
          | .ok (.bl true) S1 => match elt δ1 S1 with
            | .ok y S2 => compEv elt cond tg w δ own ds (acc ++ [y]) S2
            | _ => .stuck
          | .ok (.bl false) S1 => compEv elt cond tg w δ own ds acc S1
          | _ => .stuck
        else .stuck
      | none => .stuck
    else .stuck
mutual
noncomputable def ev (F : Fn) : CE → Env → Store → R D
  | .var i, δ, S => match δ[i]? with
    | some (some d) => .ok d S
    | _ => .stuck
  | .con d, _, S => .ok d S
  | .edic, _, S => .ok .edic S
  | .tup es, δ, S => (evs F es δ S).bind fun ds S1 => .ok (.tup ds) S1
  | .lst es, δ, S => (evs F es δ S).bind fun ds S1 => .ok (.lst ds) S1
  | .mlst es, δ, S => (evs F es δ S).bind fun ds S1 => .ok (.ref S1.length) (S1 ++ [.lst ds])
  | .mdk, _, S => .ok (.ref S.length) (S ++ [.dk []])
  | .mdt, _, S => .ok (.ref S.length) (S ++ [.dt []])
  | .bin op a b, δ, S => (ev F a δ S).bind fun x S1 => (ev F b δ S1).bind fun y S2 => .opt (binEv op x y S2) S2
  | .neg a, δ, S => (ev F a δ S).bind fun x S1 => match x with
    | .int i => .ok (.int (-i)) S1
    | _ => .stuck
  | .cmp op a b, δ, S => (ev F a δ S).bind fun x S1 => (ev F b δ S1).bind fun y S2 => .opt (cmpEv op x y S2) S2
  | .chain o1 o2 a b c, δ, S => (ev F a δ S).bind fun x S1 => (ev F b δ S1).bind fun y S2 => match cmpB o1 x y S2 with
    | some true => (ev F c δ S2).bind fun z S4 => .opt (cmpEv o2 y z S4) S4
    | some false => .ok (.bl false) S2
    | none => .stuck
  | .not a, δ, S => (ev F a δ S).bind fun x S1 => match x with
    | .bl b => .ok (.bl (!b)) S1
    | _ => .stuck
  | .and a b, δ, S => (ev F a δ S).bind fun x S1 => match x with
    | .bl true => ev F b δ S1
    | .bl false => .ok (.bl false) S1
    | _ => .stuck
  | .or a b, δ, S => (ev F a δ S).bind fun x S1 => match x with
    | .bl true => .ok (.bl true) S1
    | .bl false => ev F b δ S1
    | _ => .stuck
  | .ife c a b, δ, S => (ev F c δ S).bind fun x S1 => match x with
    | .bl true => ev F a δ S1
    | .bl false => ev F b δ S1
    | _ => .stuck
  | .idx a i, δ, S => (ev F a δ S).bind fun x S1 => (ev F i δ S1).bind fun y S2 => .opt (idxEv x y S2) S2
  | .sl a lo hi, δ, S => (ev F a δ S).bind fun x S1 => (evo F lo δ S1).bind fun l S2 => (evo F hi δ S2).bind fun h S3 => .opt (slEv x l h S3) S3
  | .rev a, δ, S => (ev F a δ S).bind fun x S1 => .opt (revEv x S1) S1
  | .call f es, δ, S => (evs F es δ S).bind fun ds S1 => F f ds S1
  | .blt b es, δ, S => (evs F es δ S).bind fun ds S1 => .opt (bltEv b ds S1) S1
  | .isi a t, δ, S => (ev F a δ S).bind fun x S1 => .opt ((isiEv x t S1).map .bl) S1
  | .mth m o es, δ, S => (ev F o δ S).bind fun x S1 => match seqL S1 x with
    | some _ => (evs F es δ S1).bind fun ds S2 => .opt2 (mthEv m x ds S2)
    | none => .stuck
  | .rgl a b, δ, S => (ev F a δ S).bind fun x S1 => (ev F b δ S1).bind fun y S2 => match x, y with
    | .int i, .int j => open Classical in if small62 i ∧ small62 j ∧ (j - i).toNat ≤ 2 ^ 24 then .ok (.lst (rngD i j)) S2 else .stuck
    | _, _ => .stuck
  | .setd o e f, δ, S => (ev F o δ S).bind fun x S1 => match dkOf S1 x with
    | some _ => (ev F e δ S1).bind fun y S2 => (ev F f δ S2).bind fun z S3 => .opt2 (setdEv x y z S3)
    | none => .stuck
  | .comp elt tg it cond own isM, δ, S => (evI F it δ S).bind fun w S1 =>
      (compEv (ev F elt) (ev F cond) tg w δ own w.items [] S1).bind fun ds S2 =>
        if isM then .ok (.ref S2.length) (S2 ++ [.lst ds]) else .ok (.lst ds) S2
  | _, _, _ => .stuck
noncomputable def evs (F : Fn) : CE → Env → Store → R (List D)
  | .nil, _, S => .ok [] S
  | .cons e es, δ, S => (ev F e δ S).bind fun d S1 => (evs F es δ S1).bind fun ds S2 => .ok (d :: ds) S2
  | _, _, _ => .stuck
noncomputable def evI (F : Fn) : CE → Env → Store → R Wk
  | .rng a b, δ, S => (ev F a δ S).bind fun x S1 => (ev F b δ S1).bind fun y S2 => match x, y with
    | .int i, .int j => open Classical in if small62 i ∧ small62 j then .ok (.fix (rngD i j)) S2 else .stuck
    | _, _ => .stuck
  | .one e, δ, S => (ev F e δ S).bind fun x S1 => match walkSeq S1 x with
    | some w => .ok w S1
    | none => .stuck
  | _, _, _ => .stuck
/-- a slice's bound -/
noncomputable def evo (F : Fn) : CE → Env → Store → R (Option Int)
  | .nil, _, S => .ok none S
  | .one e, δ, S => (ev F e δ S).bind fun x S1 => match x with
    | .int i => .ok (some i) S1
    | _ => .stuck
  | _, _, _ => .stuck
end
/-! ### statements -/
inductive SR where
  | nx (δ : Env) (S : Store) | rt (d : D) (S : Store) | bk (δ : Env) (S : Store) | xc (c : Nat) (a : D) (δ : Env) (S : Store) | stuck
@[inline] def SR.bind (r : SR) (k : Env → Store → SR) : SR := match r with
  | .nx δ S => k δ S
  | r => r
@[simp] theorem SR.bind_nx (δ : Env) (S : Store) (k : Env → Store → SR) : (SR.nx δ S).bind k = k δ S := rfl
@[simp] theorem SR.bind_rt (d : D) (S : Store) (k : Env → Store → SR) : (SR.rt d S).bind k = .rt d S := rfl
@[simp] theorem SR.bind_bk (δ : Env) (S : Store) (k : Env → Store → SR) : (SR.bk δ S).bind k = .bk δ S := rfl
@[simp] theorem SR.bind_xc (c : Nat) (a : D) (δ : Env) (S : Store) (k : Env → Store → SR) : (SR.xc c a δ S).bind k = .xc c a δ S := rfl
@[simp] theorem SR.bind_stuck (k : Env → Store → SR) : (SR.stuck).bind k = .stuck := rfl
/-- an expression within a statement -/
@[inline] def R.st {α : Type} (r : R α) (δ : Env) (k : α → Store → SR) : SR := match r with
  | .ok a S => k a S
  | .exc c a S => .xc c a δ S
  | .stuck => .stuck
@[simp] theorem R.st_ok {α : Type} (a : α) (S : Store) (δ : Env) (k : α → Store → SR) : (R.ok a S).st δ k = k a S := rfl
@[simp] theorem R.st_exc {α : Type} (c : Nat) (a : D) (S : Store) (δ : Env) (k : α → Store → SR) : (R.exc c a S : R α).st δ k = .xc c a δ S := rfl
@[simp] theorem R.st_stuck {α : Type} (δ : Env) (k : α → Store → SR) : (R.stuck : R α).st δ k = .stuck := rfl
def iterW {α β : Type} (f : α → α ⊕ β) : Nat → α → Option β
  | 0, _ => none
  | n + 1, s => match f s with
    | .inl s' => iterW f n s'
    | .inr r => some r
theorem iterW_more {α β : Type} {f : α → α ⊕ β} : ∀ {n : Nat} {s : α} {r : β}, iterW f n s = some r → ∀ k, iterW f (n + k) s = some r
  | 0, _, _, h, _ => by cases h
  | n + 1, s, r, h, k => by
    rw [Nat.succ_add]
    unfold iterW at h ⊢
    cases e : f s with
    | inl s' => rw [e] at h; exact iterW_more h k
    | inr r' => rw [e] at h; exact h
theorem iterW_one {α β : Type} {f : α → α ⊕ β} {n m : Nat} {s : α} {r r' : β} (h : iterW f n s = some r) (h' : iterW f m s = some r') : r = r' := by
  have a := iterW_more h m
  have b := iterW_more h' n
  rw [Nat.add_comm] at b
  rw [a] at b
  exact Option.some.inj b
open Classical in
noncomputable def loopW (f : Env × Store → (Env × Store) ⊕ SR) (s : Env × Store) : SR := if h : ∃ r n, iterW f n s = some r then h.choose else .stuck
theorem loopW_of {f : Env × Store → (Env × Store) ⊕ SR} {s : Env × Store} {n : Nat} {r : SR} (h : iterW f n s = some r) : loopW f s = r := by
  have e : ∃ r n, iterW f n s = some r := ⟨r, n, h⟩
  unfold loopW
  rw [dif_pos e]
  obtain ⟨m, hm⟩ := e.choose_spec
  exact iterW_one hm h
theorem loopW_step (f : Env × Store → (Env × Store) ⊕ SR) (s : Env × Store) : loopW f s = match f s with
    | .inl s' => loopW f s'
    | .inr r => r := by
  cases e : f s with
  | inr r => exact loopW_of (n := 1) (by unfold iterW; rw [e])
  | inl s' =>
    show loopW f s = loopW f s'
    by_cases h : ∃ r n, iterW f n s' = some r
    · obtain ⟨r, n, hr⟩ := h
      rw [loopW_of hr]
      exact loopW_of (n := n + 1) (by unfold iterW; rw [e]; exact hr)
    · have h2 : ¬ ∃ r n, iterW f n s = some r := fun ⟨r, n, hr⟩ => by
        cases n with
        | zero => cases hr
        | succ n => unfold iterW at hr; rw [e] at hr; exact h ⟨r, n, hr⟩
      unfold loopW
      rw [dif_neg h, dif_neg h2]
/-- a loop that is not stuck has ended -/
theorem loopW_ended {f : Env × Store → (Env × Store) ⊕ SR} {s : Env × Store} (h : loopW f s ≠ .stuck) : ∃ n, iterW f n s = some (loopW f s) := by
  by_cases e : ∃ r n, iterW f n s = some r
  · obtain ⟨r, n, hr⟩ := e
    exact ⟨n, by rw [loopW_of hr]; exact hr⟩
  · exact absurd (by unfold loopW; rw [dif_neg e]) h
def wstep (c : Env → Store → R D) (b : Env → Store → SR) (s : Env × Store) : (Env × Store) ⊕ SR := match c s.1 s.2 with
  | .ok (.bl true) S1 => match b s.1 S1 with
    | .nx δ' S' => .inl (δ', S')
    | .bk δ' S' => .inr (.nx δ' S')
    | r => .inr r
  | .ok (.bl false) S1 => .inr (.nx s.1 S1)
  | .exc c a S1 => .inr (.xc c a s.1 S1)
  | _ => .inr .stuck
open Classical in
noncomputable def forEv (body : Env → Store → SR) (tg : CT) (w : Wk) : List D → Env → Store → SR
  | [], δ, S => if w.At S then .nx δ S else .stuck
  | d :: ds, δ, S => if w.At S then
      match stepT tg d δ with
      | some δ1 => match body δ1 S with
        | .nx δ2 S2 => forEv body tg w ds δ2 S2
        | .bk δ2 S2 => .nx δ2 S2
        | r => r
      | none => .stuck
    else .stuck
noncomputable def run (F : Fn) : CS → Env → Store → SR
  | .skip, δ, S => .nx δ S
  | .never, _, _ => .stuck
  | .seq a b, δ, S => (run F a δ S).bind fun δ1 S1 => run F b δ1 S1
  | .expr e, δ, S => (ev F e δ S).st δ fun _ S1 => .nx δ S1
  | .ret e, δ, S => (ev F e δ S).st δ fun d S1 => .rt d S1
  | .retF i, δ, S => match δ[i]? with
    | some (some (.ref p)) => match S[p]? with
      | some (.lst ds) => .rt (.lst ds) (S.set p .gone)
      | _ => .stuck
    | _ => .stuck
  | .asg t e, δ, S => (ev F e δ S).st δ fun d S1 => match stepT t d δ with
    | some δ1 => .nx δ1 S1
    | none => .stuck
  | .set o i e, δ, S => (ev F e δ S).st δ fun v S1 => (ev F o δ S1).st δ fun x S2 => (ev F i δ S2).st δ fun y S3 => match setEv x y v S3 with
    | some S4 => .nx δ S4
    | none => .stuck
  | .ife c a b, δ, S => (ev F c δ S).st δ fun x S1 => match x with
    | .bl true => run F a δ S1
    | .bl false => run F b δ S1
    | _ => .stuck
  | .whl c b, δ, S => loopW (wstep (ev F c) (run F b)) (δ, S)
  | .fr t it b, δ, S => (evI F it δ S).st δ fun w S1 => forEv (run F b) t w w.items δ S1
  | .brk, δ, S => .bk δ S
  | .rais c a, δ, S => (ev F a δ S).st δ fun d S1 => .xc c d δ S1
  | .tr b c i h, δ, S => match run F b δ S with
    | .xc c' a δ1 S1 => if c' < excNames.length then
        if c < 100 then
          if c = 0 ∨ c = c' then match a with
            | .non => match run F h (δ1.set i (some (.exc c' .non))) S1 with
              | .nx δ2 S2 => .nx (δ2.set i none) S2
              | .rt d S2 => .rt d S2
              | _ => .stuck
            | _ => .stuck
          else .xc c' a δ1 S1
        else if c = 100 ∨ c = 100 + c' then match run F h δ1 S1 with
          | .nx δ2 S2 => .nx δ2 S2
          | .rt d S2 => .rt d S2
          | _ => .stuck
        else .xc c' a δ1 S1
      else .stuck
    | r => r
/-! ### defs -/
def Keep (S0 S' : Store) : Prop := S0.length ≤ S'.length ∧ ∀ i, i < S0.length → S'[i]? = S0[i]? ∨ ∃ c, S'[i]? = some c ∧ c.noref = true
open Classical in
/-- what a call leaves: its own cells go where nothing names them -/
noncomputable def gc (S0 : Store) : R D → R D
  | .ok d S' => if Keep S0 S' ∧ noref d = true then .ok d (S'.take S0.length) else .ok d S'
  | .exc c a S' => if Keep S0 S' ∧ noref a = true then .exc c a (S'.take S0.length) else .exc c a S'
  | .stuck => .stuck
def SR.out : SR → R D
  | .nx _ S' => .ok .non S'
  | .rt d S' => .ok d S'
  | .xc c a _ S' => .exc c a S'
  | _ => .stuck
noncomputable def evF (P : Nat → Option CF) : Nat → Fn
  | 0, _, _, _ => .stuck
  | n + 1, f, ds, S => match P f with
    | some cf => if ds.length = cf.np ∧ cf.np ≤ cf.ns then gc S (run (evF P n) cf.body (ds.map some ++ List.replicate (cf.ns - cf.np) none) S).out else .stuck
    | none => .stuck
end Z

/-! Z, part B: how data lies in the heap. -/
namespace Z
open PySem PySem.Spec PyProof.Rows L2
/-- where the cells stand; lists that are just being made -/
structure Phi where
  c : List (Option Addr)
  h : List Addr
def Free (φ : Phi) (a : Addr) : Prop := (∀ i : Nat, φ.c[i]? ≠ some (some a)) ∧ a ∉ φ.h
/-- a tuple of the written part -/
def KT (K : PySem.W.Frag) (a : Addr) (xs : List V) : Prop :=
  ∃ (o : Obj) (its : Array Value) (n : Nat), K.lookup a = some o ∧ o.cls = .type "tuple" ∧ o.data = .seq its n ∧ its.size ≤ sizeLine ∧ Vals xs its.toList
def TupAt (K : PySem.W.Frag) (φ : Phi) (H : Hp) (a : Addr) (xs : List V) : Prop := (H a = some (.tup xs) ∧ Free φ a) ∨ KT K a xs
theorem TupAt.sq {K : PySem.W.Frag} {φ : Phi} {H : Hp} {a : Addr} {xs : List V} (h : TupAt K φ H a xs) : SqT K H a xs := by
  rcases h with ⟨h, _⟩ | h
  · exact .inl (.inl h)
  · exact .inr h
/-- a list that is only read: the script, a list of the written part -/
def ScrAt (K : PySem.W.Frag) (φ : Phi) (H : Hp) (a : Addr) (xs : List V) : Prop := ((∃ o, H a = some (.frz o (.lst xs))) ∧ Free φ a) ∨
  ∃ (o : Obj) (its : Array Value) (n : Nat), K.lookup a = some o ∧ o.cls = .type "list" ∧ o.dict = none ∧ o.data = .seq its n ∧ its.size ≤ sizeLine ∧ Vals xs its.toList
theorem ScrAt.sq {K : PySem.W.Frag} {φ : Phi} {H : Hp} {a : Addr} {xs : List V} (h : ScrAt K φ H a xs) : SqL K H a xs := by
  rcases h with ⟨⟨o, h⟩, _⟩ | h
  · exact .inl (.inr ⟨o, h⟩)
  · exact .inr h
def clsK (K : PySem.W.Frag) (c : Nat) : Value := match excNames[c]? with
  | some x => match PySem.W.nsIn K mainGlobals x with
    | some (some v) => v
    | _ => .none
  | none => .none
/-- a caught exception at a, of a class, without a dict -/
def XO (cls : Value) (a : Addr) : HO := .ext fun h => ∃ (oe : Obj) (vs : Array Value), h.get? a = some oe ∧ oe.cls = cls ∧ oe.dict = none ∧ oe.data = .fields vs
mutual
inductive Rv (K : PySem.W.Frag) (φ : Phi) (H : Hp) : V → D → Prop
  | non : Rv K φ H .non .non
  | bl (b : Bool) : Rv K φ H (.bl b) (.bl b)
  | int (i : Int) : Rv K φ H (.int i) (.int i)
  | str (x : Str) : Rv K φ H (.str x) (.str x)
  | tup {a : Addr} {xs : List V} {ds : List D} : TupAt K φ H a xs → Rvs K φ H xs ds → Rv K φ H (.ref a) (.tup ds)
  | lst {a : Addr} {xs : List V} {ds : List D} : H a = some (.lst xs) → Free φ a → Rvs K φ H xs ds → Rv K φ H (.ref a) (.lst ds)
  | scr {a : Addr} {xs : List V} {ds : List D} : ScrAt K φ H a xs → Rvs K φ H xs ds → Rv K φ H (.ref a) (.scr ds)
  | edic {a : Addr} : H a = some (.dK []) → Free φ a → Rv K φ H (.ref a) .edic
  | exc {a : Addr} {c : Nat} : c < excNames.length → H a = some (XO (clsK K c) a) → Free φ a → Rv K φ H (.ref a) (.exc c .non)
  | ref {a : Addr} {i : Nat} {o : Option Addr} : φ.c[i]? = some o → (o = none ∨ o = some a) → Rv K φ H (.ref a) (.ref i)
inductive Rvs (K : PySem.W.Frag) (φ : Phi) (H : Hp) : List V → List D → Prop
  | nil : Rvs K φ H [] []
  | cons {v : V} {vs : List V} {d : D} {ds : List D} : Rv K φ H v d → Rvs K φ H vs ds → Rvs K φ H (v :: vs) (d :: ds)
end
/-- what may have come beside -/
structure Ext0 (φ : Phi) (H : Hp) (φ' : Phi) (H' : Hp) : Prop where
  len : φ.c.length ≤ φ'.c.length
  pre : ∀ (i : Nat) (o : Option Addr), φ.c[i]? = some o → φ'.c[i]? = some o ∨ φ'.c[i]? = some none
  keep : ∀ (a : Addr) (o : HO), Free φ a → H a = some o → H' a = some o ∧ Free φ' a
structure Ext (φ : Phi) (H : Hp) (φ' : Phi) (H' : Hp) : Prop extends Ext0 φ H φ' H' where
  hid : ∀ (a : Addr) (o : HO), a ∈ φ.h → H a = some o → H' a = some o ∧ a ∈ φ'.h
theorem Ext.mk' {φ φ' : Phi} {H H' : Hp} (len : φ.c.length ≤ φ'.c.length) (pre : ∀ (i : Nat) (o : Option Addr), φ.c[i]? = some o → φ'.c[i]? = some o ∨ φ'.c[i]? = some none)
    (keep : ∀ (a : Addr) (o : HO), Free φ a → H a = some o → H' a = some o ∧ Free φ' a) (hid : ∀ (a : Addr) (o : HO), a ∈ φ.h → H a = some o → H' a = some o ∧ a ∈ φ'.h) : Ext φ H φ' H' := ⟨⟨len, pre, keep⟩, hid⟩
theorem Ext.refl (φ : Phi) (H : Hp) : Ext φ H φ H := .mk' (Nat.le_refl _) (fun _ _ h => .inl h) (fun _ _ f h => ⟨h, f⟩) (fun _ _ f h => ⟨h, f⟩)
theorem Ext.trans {φ φ1 φ2 : Phi} {H H1 H2 : Hp} (a : Ext φ H φ1 H1) (b : Ext φ1 H1 φ2 H2) : Ext φ H φ2 H2 := by
  refine .mk' (Nat.le_trans a.len b.len) (fun i o h => ?_) (fun x o f h => ?_) fun x o f h => ?_
  · rcases a.pre i o h with h1 | h1
    · exact b.pre i o h1
    · rcases b.pre i none h1 with h2 | h2 <;> exact .inr h2
  · obtain ⟨h1, f1⟩ := a.keep x o f h
    exact b.keep x o f1 h1
  · obtain ⟨h1, f1⟩ := a.hid x o f h
    exact b.hid x o f1 h1
section
variable {K : PySem.W.Frag} {φ φ' : Phi} {H H' : Hp}
mutual
theorem Rv.ext0 (e : Ext0 φ H φ' H') : ∀ {v : V} {d : D}, Rv K φ H v d → Rv K φ' H' v d
  | _, _, .non => .non
  | _, _, .bl b => .bl b
  | _, _, .int i => .int i
  | _, _, .str x => .str x
  | _, _, .tup t r => .tup (by
      rcases t with ⟨h, f⟩ | h
      · exact .inl (e.keep _ _ f h)
      · exact .inr h) (Rvs.ext0 e r)
  | _, _, .lst h f r => .lst (e.keep _ _ f h).1 (e.keep _ _ f h).2 (Rvs.ext0 e r)
  | _, _, .scr t r => .scr (by
      rcases t with ⟨⟨o, h⟩, f⟩ | h
      · exact .inl ⟨⟨o, (e.keep _ _ f h).1⟩, (e.keep _ _ f h).2⟩
      · exact .inr h) (Rvs.ext0 e r)
  | _, _, .edic h f => .edic (e.keep _ _ f h).1 (e.keep _ _ f h).2
  | _, _, .exc l h f => .exc l (e.keep _ _ f h).1 (e.keep _ _ f h).2
  | _, _, .ref h q => by
      rcases e.pre _ _ h with h1 | h1
      · exact .ref h1 q
      · exact .ref h1 (.inl rfl)
theorem Rvs.ext0 (e : Ext0 φ H φ' H') : ∀ {vs : List V} {ds : List D}, Rvs K φ H vs ds → Rvs K φ' H' vs ds
  | _, _, .nil => .nil
  | _, _, .cons r rs => .cons (Rv.ext0 e r) (Rvs.ext0 e rs)
end
theorem Rv.ext (e : Ext φ H φ' H') {v : V} {d : D} (h : Rv K φ H v d) : Rv K φ' H' v d := Rv.ext0 e.toExt0 h
theorem Rvs.ext (e : Ext φ H φ' H') {v : List V} {d : List D} (h : Rvs K φ H v d) : Rvs K φ' H' v d := Rvs.ext0 e.toExt0 h
theorem Rvs.len : ∀ {vs : List V} {ds : List D}, Rvs K φ H vs ds → vs.length = ds.length
  | _, _, .nil => rfl
  | _, _, .cons _ rs => by rw [List.length_cons, List.length_cons, Rvs.len rs]
theorem Rvs.app : ∀ {vs ws : List V} {ds es : List D}, Rvs K φ H vs ds → Rvs K φ H ws es → Rvs K φ H (vs ++ ws) (ds ++ es)
  | _, _, _, _, .nil, r => r
  | _, _, _, _, .cons r rs, q => .cons r (Rvs.app rs q)
theorem Rvs.take : ∀ {vs : List V} {ds : List D} (n : Nat), Rvs K φ H vs ds → Rvs K φ H (vs.take n) (ds.take n)
  | _, _, 0, _ => .nil
  | _, _, _ + 1, .nil => .nil
  | _, _, n + 1, .cons r rs => .cons r (Rvs.take n rs)
theorem Rvs.drop : ∀ {vs : List V} {ds : List D} (n : Nat), Rvs K φ H vs ds → Rvs K φ H (vs.drop n) (ds.drop n)
  | _, _, 0, r => r
  | _, _, _ + 1, .nil => .nil
  | _, _, n + 1, .cons _ rs => Rvs.drop n rs
theorem Rvs.get : ∀ {vs : List V} {ds : List D} {i : Nat} {d : D}, Rvs K φ H vs ds → ds[i]? = some d → ∃ v, vs[i]? = some v ∧ Rv K φ H v d
  | _, _, _, _, .nil, h => by simp at h
  | _, _, 0, _, .cons r _, h => by
    simp at h
    subst h
    exact ⟨_, rfl, r⟩
  | _, _, i + 1, _, .cons _ rs, h => by
    obtain ⟨v, h1, h2⟩ := Rvs.get (i := i) rs (by simpa using h)
    exact ⟨v, by simpa using h1, h2⟩
theorem Rvs.getV : ∀ {vs : List V} {ds : List D} {i : Nat} {v : V}, Rvs K φ H vs ds → vs[i]? = some v → ∃ d, ds[i]? = some d ∧ Rv K φ H v d
  | _, _, _, _, .nil, h => by simp at h
  | _, _, 0, _, .cons r _, h => by
    simp at h
    subst h
    exact ⟨_, rfl, r⟩
  | _, _, i + 1, _, .cons _ rs, h => by
    obtain ⟨v, h1, h2⟩ := Rvs.getV (i := i) rs (by simpa using h)
    exact ⟨v, by simpa using h1, h2⟩
theorem Rvs.set {v : V} {d : D} (q : Rv K φ H v d) : ∀ {vs : List V} {ds : List D} (i : Nat), Rvs K φ H vs ds → Rvs K φ H (vs.set i v) (ds.set i d)
  | _, _, _, .nil => .nil
  | _, _, 0, .cons _ rs => .cons q rs
  | _, _, i + 1, .cons r rs => .cons r (Rvs.set q i rs)
theorem Rvs.rev : ∀ {vs : List V} {ds : List D}, Rvs K φ H vs ds → Rvs K φ H vs.reverse ds.reverse
  | _, _, .nil => .nil
  | _, _, .cons r rs => by
    rw [List.reverse_cons, List.reverse_cons]
    exact Rvs.app (Rvs.rev rs) (.cons r .nil)
theorem Rvs.dropLast {vs : List V} {ds : List D} (r : Rvs K φ H vs ds) : Rvs K φ H vs.dropLast ds.dropLast := by
  rw [List.dropLast_eq_take, List.dropLast_eq_take, r.len]
  exact r.take _
theorem Rvs.rep {vs : List V} {ds : List D} (r : Rvs K φ H vs ds) : ∀ n : Nat, Rvs K φ H (List.replicate n vs).flatten (List.replicate n ds).flatten
  | 0 => .nil
  | n + 1 => by
    rw [List.replicate_succ, List.replicate_succ, List.flatten_cons, List.flatten_cons]
    exact r.app (Rvs.rep r n)
theorem Rvs.ints : ∀ {vs : List V} {ds : List D} {ns : List Int}, Rvs K φ H vs ds → ints? ds = some ns → vs = ns.map V.int
  | _, _, _, .nil, h => by
    unfold ints? at h
    cases h
    rfl
  | _, _, _, .cons (d := d) (ds := ds) r rs, h => by
    cases r with
    | int i =>
      unfold ints? at h
      cases e : ints? ds with
      | none => rw [e] at h; cases h
      | some ms =>
        rw [e] at h
        cases h
        rw [Rvs.ints rs e]
        rfl
    | _ => exact absurd h (by unfold ints?; exact fun z => nomatch z)
theorem Rvs.bls : ∀ {vs : List V} {ds : List D} {ns : List Bool}, Rvs K φ H vs ds → bls? ds = some ns → vs = ns.map V.bl
  | _, _, _, .nil, h => by
    unfold bls? at h
    cases h
    rfl
  | _, _, _, .cons (d := d) (ds := ds) r rs, h => by
    cases r with
    | bl i =>
      unfold bls? at h
      cases e : bls? ds with
      | none => rw [e] at h; cases h
      | some ms =>
        rw [e] at h
        cases h
        rw [Rvs.bls rs e]
        rfl
    | _ => exact absurd h (by unfold bls?; exact fun z => nomatch z)
end
/-- what stands in a cell -/
def RC (K : PySem.W.Frag) (φ : Phi) (H : Hp) (o : Option (Option Addr)) : Cell → Prop
  | .lst ds => ∃ a xs, o = some (some a) ∧ H a = some (.lst xs) ∧ Rvs K φ H xs ds
  | .dk kvs => ∃ a xs, o = some (some a) ∧ H a = some (.dK xs) ∧ xs.map (·.1) = kvs.map (·.1) ∧ Rvs K φ H (xs.map (·.2)) (kvs.map (·.2))
  | .dt kvs => ∃ a xs, o = some (some a) ∧ H a = some (.dT xs) ∧ xs.map (·.1) = kvs.map (·.1) ∧ Rvs K φ H (xs.map (·.2)) (kvs.map (·.2))
  | .gone => o = some none
structure Rs (K : PySem.W.Frag) (φ : Phi) (S : Store) (H : Hp) : Prop where
  len : φ.c.length = S.length
  nd : ∀ (i j : Nat) (a : Addr), φ.c[i]? = some (some a) → φ.c[j]? = some (some a) → i = j
  tr : ∀ (i : Nat) (a : Addr), φ.c[i]? = some (some a) → (∃ o, H a = some o) ∧ a ∉ φ.h
  ht : ∀ (a : Addr), a ∈ φ.h → ∃ o, H a = some o
  cell : ∀ (i : Nat) (c : Cell), S[i]? = some c → RC K φ H φ.c[i]? c
section
variable {K : PySem.W.Frag} {φ φ' : Phi} {H H' : Hp} {S : Store}
theorem RC.ext {o : Option (Option Addr)} (e : Ext φ H φ' H') (k : ∀ a u, o = some (some a) → H a = some u → H' a = some u) : ∀ {c : Cell}, RC K φ H o c → RC K φ' H' o c
  | .lst ds, ⟨a, xs, h1, h2, h3⟩ => ⟨a, xs, h1, k _ _ h1 h2, h3.ext e⟩
  | .dk kvs, ⟨a, xs, h1, h2, h3, h4⟩ => ⟨a, xs, h1, k _ _ h1 h2, h3, h4.ext e⟩
  | .dt kvs, ⟨a, xs, h1, h2, h3, h4⟩ => ⟨a, xs, h1, k _ _ h1 h2, h3, h4.ext e⟩
  | .gone, h => h
/-- a new object that nobody changes -/
theorem Ext.fresh {p : Addr} {o : HO} (hp : H p = none) : Ext φ H φ (upd H p o) :=
  .mk' (Nat.le_refl _) (fun _ _ h => .inl h) (fun a u f h => ⟨by rw [upd_ne (ne_of_none h hp)]; exact h, f⟩) (fun a u f h => ⟨by rw [upd_ne (ne_of_none h hp)]; exact h, f⟩)
theorem Rs.fresh {p : Addr} {o : HO} (r : Rs K φ S H) (hp : H p = none) : Rs K φ S (upd H p o) :=
  ⟨r.len, r.nd, fun i a h => by
    obtain ⟨⟨u, hu⟩, n⟩ := r.tr i a h
    exact ⟨⟨u, by rw [upd_ne (ne_of_none hu hp)]; exact hu⟩, n⟩, fun a h => by
    obtain ⟨u, hu⟩ := r.ht a h
    exact ⟨u, by rw [upd_ne (ne_of_none hu hp)]; exact hu⟩, fun i c h => (r.cell i c h).ext (Ext.fresh hp) fun a u _ h2 => by rw [upd_ne (ne_of_none h2 hp)]; exact h2⟩
theorem Rs.free {p : Addr} (r : Rs K φ S H) (hp : H p = none) : Free φ p := by
  refine ⟨fun i h => ?_, fun h => ?_⟩
  · obtain ⟨⟨u, hu⟩, _⟩ := r.tr i p h
    rw [hp] at hu
    cases hu
  · obtain ⟨u, hu⟩ := r.ht p h
    rw [hp] at hu
    cases hu
abbrev Phi.add (φ : Phi) (p : Addr) : Phi := ⟨φ.c ++ [some p], φ.h⟩
/-- a new cell -/
theorem Ext.alloc {p : Addr} {o : HO} (hp : H p = none) : Ext φ H (φ.add p) (upd H p o) := by
  refine .mk' (by simp) (fun i o h => .inl ?_) (fun a u f h => ⟨by rw [upd_ne (ne_of_none h hp)]; exact h, fun i q => ?_, f.2⟩) fun a u f h => ⟨by rw [upd_ne (ne_of_none h hp)]; exact h, f⟩
  · obtain ⟨hi, e⟩ := List.getElem?_eq_some_iff.mp h
    show (φ.c ++ [some p])[i]? = _
    rw [List.getElem?_append_left hi]
    exact h
  · have q : (φ.c ++ [some p])[i]? = some (some a) := q
    by_cases hi : i < φ.c.length
    · rw [List.getElem?_append_left hi] at q
      exact f.1 i q
    · rw [List.getElem?_append_right (by omega)] at q
      have e : i - φ.c.length = 0 := by
        by_cases z : i - φ.c.length = 0
        · exact z
        · rw [List.getElem?_eq_none (by simp; omega)] at q
          cases q
      rw [e] at q
      have q2 : some (some p) = some (some a) := q
      cases q2
      rw [hp] at h
      cases h
theorem Rs.alloc {p : Addr} {o : HO} {c : Cell} (r : Rs K φ S H) (hp : H p = none) (hc : RC K (φ.add p) (upd H p o) (some (some p)) c) : Rs K (φ.add p) (S ++ [c]) (upd H p o) := by
  have hf := r.free hp
  have last : ∀ i : Nat, φ.c.length ≤ i → ∀ x, (φ.c ++ [some p])[i]? = some x → i = φ.c.length ∧ x = some p := fun i hi x h => by
    rw [List.getElem?_append_right hi] at h
    by_cases z : i - φ.c.length = 0
    · rw [z] at h
      have h2 : some (some p) = some x := h
      exact ⟨by omega, (Option.some.inj h2).symm⟩
    · rw [List.getElem?_eq_none (by simp; omega)] at h
      cases h
  have first : ∀ i : Nat, i < φ.c.length → (φ.c ++ [some p])[i]? = φ.c[i]? := fun i hi => List.getElem?_append_left hi
  refine ⟨by simp [r.len], fun i j a h1 h2 => ?_, fun i a h => ?_, fun a h => ?_, fun i d h => ?_⟩
  · have h1 : (φ.c ++ [some p])[i]? = some (some a) := h1
    have h2 : (φ.c ++ [some p])[j]? = some (some a) := h2
    by_cases hi : i < φ.c.length
    · rw [first i hi] at h1
      by_cases hj : j < φ.c.length
      · rw [first j hj] at h2
        exact r.nd i j a h1 h2
      · obtain ⟨_, e⟩ := last j (by omega) _ h2
        cases e
        exact absurd h1 (hf.1 i)
    · obtain ⟨ei, e⟩ := last i (by omega) _ h1
      cases e
      by_cases hj : j < φ.c.length
      · rw [first j hj] at h2
        exact absurd h2 (hf.1 j)
      · obtain ⟨ej, _⟩ := last j (by omega) _ h2
        omega
  · have h : (φ.c ++ [some p])[i]? = some (some a) := h
    by_cases hi : i < φ.c.length
    · rw [first i hi] at h
      obtain ⟨⟨u, hu⟩, n⟩ := r.tr i a h
      exact ⟨⟨u, by rw [upd_ne (ne_of_none hu hp)]; exact hu⟩, n⟩
    · obtain ⟨_, e⟩ := last i (by omega) _ h
      cases e
      exact ⟨⟨_, upd_same⟩, hf.2⟩
  · obtain ⟨u, hu⟩ := r.ht a h
    exact ⟨u, by rw [upd_ne (ne_of_none hu hp)]; exact hu⟩
  · show RC K (φ.add p) (upd H p o) (φ.c ++ [some p])[i]? d
    by_cases hi : i < S.length
    · rw [List.getElem?_append_left hi] at h
      rw [first i (by rw [r.len]; exact hi)]
      exact (r.cell i d h).ext (Ext.alloc hp) fun a u _ h2 => by rw [upd_ne (ne_of_none h2 hp)]; exact h2
    · rw [List.getElem?_append_right (by omega)] at h
      by_cases z : i - S.length = 0
      · rw [z] at h
        have h2 : some c = some d := h
        cases h2
        have e : i = φ.c.length := by rw [r.len]; omega
        rw [e, List.getElem?_append_right (Nat.le_refl _), Nat.sub_self]
        exact hc
      · rw [List.getElem?_eq_none (by simp; omega)] at h
        cases h
/-- a cell is changed -/
theorem Ext.write {p : Nat} {a : Addr} {o : HO} (r : Rs K φ S H) (hp : φ.c[p]? = some (some a)) : Ext φ H φ (upd H a o) :=
  .mk' (Nat.le_refl _) (fun _ _ h => .inl h) (fun b u f h => ⟨by rw [upd_ne (fun e => by subst e; exact f.1 p hp)]; exact h, f⟩) (fun b u f h => ⟨by rw [upd_ne (fun e => by subst e; exact (r.tr p _ hp).2 f)]; exact h, f⟩)
theorem Rs.write {p : Nat} {a : Addr} {o : HO} {c : Cell} (r : Rs K φ S H) (hp : φ.c[p]? = some (some a)) (hc : RC K φ (upd H a o) (some (some a)) c) : Rs K φ (S.set p c) (upd H a o) := by
  refine ⟨by simpa using r.len, r.nd, fun i b h => ?_, fun b h => ?_, fun i d h => ?_⟩
  · refine ⟨?_, (r.tr i b h).2⟩
    by_cases e : b = a
    · subst e; exact ⟨_, upd_same⟩
    · obtain ⟨⟨u, hu⟩, _⟩ := r.tr i b h
      exact ⟨u, by rw [upd_ne e]; exact hu⟩
  · by_cases e : b = a
    · subst e; exact ⟨_, upd_same⟩
    · obtain ⟨u, hu⟩ := r.ht b h
      exact ⟨u, by rw [upd_ne e]; exact hu⟩
  · by_cases e : p = i
    · subst e
      have hl : p < S.length := by
        rw [← r.len]
        exact (List.getElem?_eq_some_iff.mp hp).1
      rw [List.getElem?_set_self hl] at h
      cases h
      rw [hp]
      exact hc
    · rw [List.getElem?_set_ne e] at h
      refine (r.cell i d h).ext (Ext.write r hp) fun b u h1 h2 => ?_
      rw [upd_ne (fun z => by subst z; exact e (r.nd p i b hp h1))]
      exact h2
abbrev Phi.cut (φ : Phi) (p : Nat) : Phi := ⟨φ.c.set p none, φ.h⟩
theorem cut_low {p : Nat} (i : Nat) (a : Addr) (q : (φ.c.set p none)[i]? = some (some a)) : φ.c[i]? = some (some a) ∧ p ≠ i := by
  by_cases e : p = i
  · subst e
    by_cases hl : p < φ.c.length
    · rw [List.getElem?_set_self hl] at q
      cases q
    · rw [List.getElem?_eq_none (by simpa using hl)] at q
      cases q
  · rw [List.getElem?_set_ne e] at q
    exact ⟨q, e⟩
/-- a cell goes: its list is kept as it is from now on -/
theorem Ext.frz {p : Nat} : Ext φ H (φ.cut p) H := by
  refine .mk' (by simp) (fun i o h => ?_) (fun a u f h => ⟨h, fun i q => f.1 i (cut_low i a q).1, f.2⟩) fun a u f h => ⟨h, f⟩
  show (φ.c.set p none)[i]? = _ ∨ (φ.c.set p none)[i]? = _
  by_cases e : p = i
  · subst e
    have hl := (List.getElem?_eq_some_iff.mp h).1
    exact .inr (by rw [List.getElem?_set_self hl])
  · exact .inl (by rw [List.getElem?_set_ne e]; exact h)
theorem Rs.frz {p : Nat} (r : Rs K φ S H) : Rs K (φ.cut p) (S.set p .gone) H := by
  refine ⟨by simpa using r.len, fun i j a h1 h2 => r.nd i j a (cut_low i a h1).1 (cut_low j a h2).1, fun i a h => r.tr i a (cut_low i a h).1, r.ht, fun i d h => ?_⟩
  show RC K (φ.cut p) H (φ.c.set p none)[i]? d
  by_cases e : p = i
  · subst e
    have hl : p < S.length := by
      have := (List.getElem?_eq_some_iff.mp h).1
      simpa using this
    rw [List.getElem?_set_self hl] at h
    cases h
    show (φ.c.set p none)[p]? = some none
    rw [List.getElem?_set_self (by rw [r.len]; exact hl)]
  · rw [List.getElem?_set_ne e] at h
    rw [List.getElem?_set_ne e]
    exact (r.cell i d h).ext Ext.frz fun a u _ h2 => h2
theorem free_frz {p : Nat} {a : Addr} (r : Rs K φ S H) (hp : φ.c[p]? = some (some a)) : Free (φ.cut p) a := ⟨fun i q => (cut_low i a q).2 (r.nd p i a hp (cut_low i a q).1), (r.tr p a hp).2⟩
/-! a list that is just being made -/
abbrev Phi.hide (φ : Phi) (p : Addr) : Phi := ⟨φ.c, p :: φ.h⟩
theorem Ext.hide {p : Addr} {o : HO} (hp : H p = none) : Ext φ H (φ.hide p) (upd H p o) := by
  refine .mk' (Nat.le_refl _) (fun _ _ h => .inl h) (fun a u f h => ⟨by rw [upd_ne (ne_of_none h hp)]; exact h, f.1, fun z => ?_⟩) fun a u f h => ⟨by rw [upd_ne (ne_of_none h hp)]; exact h, List.mem_cons_of_mem _ f⟩
  rcases List.mem_cons.mp z with z | z
  · exact ne_of_none h hp z
  · exact f.2 z
theorem Rs.hide {p : Addr} {o : HO} (r : Rs K φ S H) (hp : H p = none) : Rs K (φ.hide p) S (upd H p o) :=
  ⟨r.len, r.nd, fun i a h => by
    obtain ⟨⟨u, hu⟩, n⟩ := r.tr i a h
    exact ⟨⟨u, by rw [upd_ne (ne_of_none hu hp)]; exact hu⟩, fun z => by
      rcases List.mem_cons.mp z with z | z
      · exact ne_of_none hu hp z
      · exact n z⟩, fun a h => by
    rcases List.mem_cons.mp h with z | z
    · subst z; exact ⟨_, upd_same⟩
    · obtain ⟨u, hu⟩ := r.ht a z
      exact ⟨u, by rw [upd_ne (ne_of_none hu hp)]; exact hu⟩, fun i c h => (r.cell i c h).ext (Ext.hide hp) fun a u _ h2 => by rw [upd_ne (ne_of_none h2 hp)]; exact h2⟩
/-- it grows -/
theorem Ext0.hwrite {p : Addr} {o : HO} (hp : p ∈ φ.h) : Ext0 φ H φ (upd H p o) :=
  ⟨Nat.le_refl _, fun _ _ h => .inl h, fun a u f h => ⟨by rw [upd_ne (fun z => by subst z; exact f.2 hp)]; exact h, f⟩⟩
theorem Ext.hwrite {φ1 : Phi} {H1 : Hp} {p : Addr} {o : HO} (e : Ext φ1 H1 φ H) (hp : H1 p = none) : Ext φ1 H1 φ (upd H p o) :=
  .mk' e.len e.pre (fun a u f h => ⟨by rw [upd_ne (ne_of_none h hp)]; exact (e.keep a u f h).1, (e.keep a u f h).2⟩) fun a u f h => ⟨by rw [upd_ne (ne_of_none h hp)]; exact (e.hid a u f h).1, (e.hid a u f h).2⟩
theorem RC.ext0 {o : Option (Option Addr)} (e : Ext0 φ H φ' H') (k : ∀ a u, o = some (some a) → H a = some u → H' a = some u) : ∀ {c : Cell}, RC K φ H o c → RC K φ' H' o c
  | .lst ds, ⟨a, xs, h1, h2, h3⟩ => ⟨a, xs, h1, k _ _ h1 h2, h3.ext0 e⟩
  | .dk kvs, ⟨a, xs, h1, h2, h3, h4⟩ => ⟨a, xs, h1, k _ _ h1 h2, h3, h4.ext0 e⟩
  | .dt kvs, ⟨a, xs, h1, h2, h3, h4⟩ => ⟨a, xs, h1, k _ _ h1 h2, h3, h4.ext0 e⟩
  | .gone, h => h
theorem Rs.hwrite {p : Addr} {o : HO} (r : Rs K φ S H) (hp : p ∈ φ.h) : Rs K φ S (upd H p o) := by
  have ne : ∀ i a, φ.c[i]? = some (some a) → a ≠ p := fun i a h z => by
    subst z
    exact (r.tr i a h).2 hp
  refine ⟨r.len, r.nd, fun i a h => ?_, fun a h => ?_, fun i c h => (r.cell i c h).ext0 (Ext0.hwrite hp) fun a u h1 h2 => by rw [upd_ne (ne i a h1)]; exact h2⟩
  · obtain ⟨⟨u, hu⟩, n⟩ := r.tr i a h
    exact ⟨⟨u, by rw [upd_ne (ne i a h)]; exact hu⟩, n⟩
  · by_cases z : a = p
    · subst z; exact ⟨_, upd_same⟩
    · obtain ⟨u, hu⟩ := r.ht a h
      exact ⟨u, by rw [upd_ne z]; exact hu⟩
/-- it is made: kept from now on, or a cell -/
abbrev Phi.bare (φ : Phi) (p : Addr) : Phi := ⟨φ.c, φ.h.filter fun a => decide (a ≠ p)⟩
abbrev Phi.bareA (φ : Phi) (p : Addr) : Phi := ⟨φ.c ++ [some p], φ.h.filter fun a => decide (a ≠ p)⟩
theorem mem_bare {p a : Addr} : a ∈ (φ.h.filter fun a => decide (a ≠ p)) ↔ a ∈ φ.h ∧ a ≠ p := by simp [List.mem_filter]
theorem Ext0.bare {p : Addr} : Ext0 φ H (φ.bare p) H := ⟨Nat.le_refl _, fun _ _ h => .inl h, fun a u f h => ⟨h, f.1, fun z => f.2 (mem_bare.mp z).1⟩⟩
theorem Ext.bare {φ1 : Phi} {H1 : Hp} {p : Addr} (e : Ext φ1 H1 φ H) (hp : H1 p = none) : Ext φ1 H1 (φ.bare p) H :=
  .mk' e.len e.pre (fun a u f h => ⟨(e.keep a u f h).1, (e.keep a u f h).2.1, fun z => (e.keep a u f h).2.2 (mem_bare.mp z).1⟩) fun a u f h => ⟨(e.hid a u f h).1, mem_bare.mpr ⟨(e.hid a u f h).2, ne_of_none h hp⟩⟩
theorem Rs.bare {p : Addr} (r : Rs K φ S H) : Rs K (φ.bare p) S H :=
  ⟨r.len, r.nd, fun i a h => ⟨(r.tr i a h).1, fun z => (r.tr i a h).2 (mem_bare.mp z).1⟩, fun a h => r.ht a (mem_bare.mp h).1, fun i c h => (r.cell i c h).ext0 Ext0.bare fun _ _ _ h2 => h2⟩
theorem free_bare {p : Addr} (r : Rs K φ S H) (hp : p ∈ φ.h) : Free (φ.bare p) p := ⟨fun i h => (r.tr i p h).2 hp, fun z => (mem_bare.mp z).2 rfl⟩
theorem add_low {p : Addr} {i : Nat} {x : Option Addr} (h : (φ.c ++ [some p])[i]? = some x) : φ.c[i]? = some x ∨ (i = φ.c.length ∧ x = some p) := by
  by_cases hi : i < φ.c.length
  · rw [List.getElem?_append_left hi] at h
    exact .inl h
  · rw [List.getElem?_append_right (by omega)] at h
    by_cases z : i - φ.c.length = 0
    · rw [z] at h
      have h2 : some (some p) = some x := h
      exact .inr ⟨by omega, (Option.some.inj h2).symm⟩
    · rw [List.getElem?_eq_none (by simp; omega)] at h
      cases h
theorem add_up {p : Addr} {i : Nat} {x : Option Addr} (h : φ.c[i]? = some x) : (φ.c ++ [some p])[i]? = some x := by
  rw [List.getElem?_append_left (List.getElem?_eq_some_iff.mp h).1]
  exact h
theorem Ext0.bareA {p : Addr} (hp : p ∈ φ.h) : Ext0 φ H (φ.bareA p) H := ⟨by simp, fun _ _ h => .inl (add_up h), fun a u f h => ⟨h, fun i z => by
  rcases add_low z with z | ⟨_, z⟩
  · exact f.1 i z
  · cases z; exact f.2 hp, fun z => f.2 (mem_bare.mp z).1⟩⟩
theorem Ext.bareA {φ1 : Phi} {H1 : Hp} {p : Addr} (e : Ext φ1 H1 φ H) (hp : H1 p = none) (hq : p ∈ φ.h) : Ext φ1 H1 (φ.bareA p) H := by
  refine .mk' (by simpa using Nat.le_succ_of_le e.len) (fun i o h => ?_) (fun a u f h => ⟨(e.keep a u f h).1, fun i z => ?_, fun z => (e.keep a u f h).2.2 (mem_bare.mp z).1⟩) fun a u f h => ⟨(e.hid a u f h).1, mem_bare.mpr ⟨(e.hid a u f h).2, ne_of_none h hp⟩⟩
  · rcases e.pre i o h with z | z
    · exact .inl (add_up z)
    · exact .inr (add_up z)
  · rcases add_low z with z | ⟨_, z⟩
    · exact (e.keep a u f h).2.1 i z
    · cases z; exact ne_of_none h hp rfl
theorem Rs.bareA {p : Addr} {xs : List V} {ds : List D} (r : Rs K φ S H) (hp : p ∈ φ.h) (hx : H p = some (.lst xs)) (hr : Rvs K φ H xs ds) : Rs K (φ.bareA p) (S ++ [.lst ds]) H := by
  refine ⟨by simp [r.len], fun i j a h1 h2 => ?_, fun i a h => ?_, fun a h => r.ht a (mem_bare.mp h).1, fun i c h => ?_⟩
  · rcases add_low h1 with z1 | ⟨e1, z1⟩
    · rcases add_low h2 with z2 | ⟨e2, z2⟩
      · exact r.nd i j a z1 z2
      · cases z2
        exact absurd hp (r.tr i p z1).2
    · cases z1
      rcases add_low h2 with z2 | ⟨e2, z2⟩
      · exact absurd hp (r.tr j p z2).2
      · omega
  · rcases add_low h with z | ⟨e, z⟩
    · exact ⟨(r.tr i a z).1, fun q => (r.tr i a z).2 (mem_bare.mp q).1⟩
    · cases z
      exact ⟨⟨_, hx⟩, fun q => (mem_bare.mp q).2 rfl⟩
  · show RC K (φ.bareA p) H (φ.c ++ [some p])[i]? c
    by_cases hi : i < S.length
    · rw [List.getElem?_append_left hi] at h
      rw [List.getElem?_append_left (by rw [r.len]; exact hi)]
      exact (r.cell i c h).ext0 (Ext0.bareA hp) fun _ _ _ h2 => h2
    · rw [List.getElem?_append_right (by omega)] at h
      by_cases z : i - S.length = 0
      · rw [z] at h
        have h2 : some (Cell.lst ds) = some c := h
        cases h2
        have e : i = φ.c.length := by rw [r.len]; omega
        rw [e, List.getElem?_append_right (Nat.le_refl _), Nat.sub_self]
        exact ⟨p, xs, rfl, hx, hr.ext0 (Ext0.bareA hp)⟩
      · rw [List.getElem?_eq_none (by simp; omega)] at h
        cases h
end
/-! ### the slots -/
def RE (K : PySem.W.Frag) (φ : Phi) (H : Hp) (δ : Env) (σ : L2.St) : Prop := δ.length = σ.length ∧ ∀ (i : Nat) (d : D), δ[i]? = some (some d) → ∃ v, σ[i]? = some (some v) ∧ Rv K φ H v d
section
variable {K : PySem.W.Frag} {φ φ' : Phi} {H H' : Hp} {S : Store} {δ : Env} {σ : L2.St}
theorem RE.ext (e : Ext φ H φ' H') (r : RE K φ H δ σ) : RE K φ' H' δ σ := ⟨r.1, fun i d h => by
  obtain ⟨v, h1, h2⟩ := r.2 i d h
  exact ⟨v, h1, h2.ext e⟩⟩
theorem RE.set {i : Nat} {d : D} {v : V} (r : RE K φ H δ σ) (q : Rv K φ H v d) : RE K φ H (δ.set i (some d)) (σ.set i (some v)) := ⟨by simpa using r.1, fun j e h => by
  by_cases z : i = j
  · subst z
    have hl : i < δ.length := by
      have := (List.getElem?_eq_some_iff.mp h).1
      simpa using this
    rw [List.getElem?_set_self hl] at h
    cases h
    exact ⟨v, by rw [List.getElem?_set_self (by rw [← r.1]; exact hl)], q⟩
  · rw [List.getElem?_set_ne z] at h
    rw [List.getElem?_set_ne z]
    exact r.2 j e h⟩
theorem RE.setN {i : Nat} (r : RE K φ H δ σ) : RE K φ H (δ.set i none) (σ.set i none) := ⟨by simpa using r.1, fun j e h => by
  by_cases z : i = j
  · subst z
    have hl : i < δ.length := by
      have := (List.getElem?_eq_some_iff.mp h).1
      simpa using this
    rw [List.getElem?_set_self hl] at h
    cases h
  · rw [List.getElem?_set_ne z] at h
    rw [List.getElem?_set_ne z]
    exact r.2 j e h⟩
theorem RE.wipe : ∀ {own : List Nat}, RE K φ H δ σ → RE K φ H (wipeD δ own) (wipe σ own)
  | [], r => r
  | v :: vs, r => by
    unfold wipeD L2.wipe
    exact (RE.wipe r).setN
end
end Z

/-! Z, part C: expressions keep what their run says. -/
namespace Z
open PySem PySem.Spec PyProof.Rows L2
abbrev St := L2.St
/-- an exception's own dict -/
def Xd (K : PySem.W.Frag) (φ : Phi) (H : Hp) (a : D) (dd : Option Addr) : Prop := match a with
  | .non => dd = none
  | a => ∃ p v, dd = some p ∧ H p = some (.xd [("row", v)]) ∧ Rv K φ H v a
/-- what a run promises of the values behind it -/
def OutG {α β : Type} (rel : Phi → Hp → β → α → Prop) (K : PySem.W.Frag) (ec : Nat → Value) (W : WX) (σ : St) (φ : Phi) (H : Hp) (r : R α) (Q : β → Hp → Prop) : Prop := match r with
  | .ok d S' => ∀ φ' v H', Ext φ H φ' H' → Rs K φ' S' H' → rel φ' H' v d → Q v H'
  | .exc c a S' => ∀ φ' H' dd, Ext φ H φ' H' → Rs K φ' S' H' → Xd K φ' H' a dd → W (ec c) dd σ H'
  | .stuck => False
section
variable {α β γ ε : Type} {rel : Phi → Hp → β → α → Prop} {rel' : Phi → Hp → γ → ε → Prop} {K : PySem.W.Frag} {ec : Nat → Value} {W : WX} {σ : St} {φ φ1 : Phi} {H H1 : Hp} {r : R α} {Q : β → Hp → Prop}
theorem OutG.ext (e : Ext φ H φ1 H1) (h : OutG rel K ec W σ φ H r Q) : OutG rel K ec W σ φ1 H1 r Q := by
  cases r with
  | ok d S' => exact fun φ' v H' e' => h φ' v H' (e.trans e')
  | exc c a S' => exact fun φ' H' dd e' => h φ' H' dd (e.trans e')
  | stuck => exact h
theorem OutG.bind {k : α → Store → R ε} {Q' : γ → Hp → Prop} (h : OutG rel' K ec W σ φ H (r.bind k) Q') :
    OutG rel K ec W σ φ H r fun v H1 => ∃ φ1 x S1, Ext φ H φ1 H1 ∧ Rs K φ1 S1 H1 ∧ rel φ1 H1 v x ∧ OutG rel' K ec W σ φ1 H1 (k x S1) Q' := by
  cases r with
  | ok d S' => exact fun φ' v H' e' rs rv => ⟨φ', d, S', e', rs, rv, OutG.ext e' h⟩
  | exc c a S' => exact h
  | stuck => exact h
theorem OutG.mono {Q' : β → Hp → Prop} (h : OutG rel K ec W σ φ H r Q) (k : ∀ v H', Q v H' → Q' v H') : OutG rel K ec W σ φ H r Q' := by
  cases r with
  | ok d S' => exact fun φ' v H' e' rs rv => k _ _ (h φ' v H' e' rs rv)
  | exc c a S' => exact h
  | stuck => exact h
end
abbrev Out (K : PySem.W.Frag) (ec : Nat → Value) (W : WX) (σ : St) (φ : Phi) (H : Hp) (r : R D) (Q : VK) : Prop := OutG (Rv K) K ec W σ φ H r Q
/-- the readings: of an expression, of several, of a test -/
def rdE (K : PySem.W.Frag) (ec : Nat → Value) (F : Fn) (W : WX) (c : CE) : TE := fun σ H Q => ∃ φ δ S, Rs K φ S H ∧ RE K φ H δ σ ∧ OutG (Rv K) K ec W σ φ H (ev F c δ S) Q
def rdA (K : PySem.W.Frag) (ec : Nat → Value) (F : Fn) (W : WX) (c : CE) : TA := fun σ H Q => ∃ φ δ S, Rs K φ S H ∧ RE K φ H δ σ ∧ OutG (Rvs K) K ec W σ φ H (evs F c δ S) Q
def relB (_ : Phi) (_ : Hp) (b : Bool) (d : D) : Prop := d = .bl b
def rdT (K : PySem.W.Frag) (ec : Nat → Value) (F : Fn) (W : WX) (c : CE) : TT := fun σ H Q => ∃ φ δ S, Rs K φ S H ∧ RE K φ H δ σ ∧ (∀ d S', ev F c δ S = .ok d S' → ∃ b, d = .bl b) ∧ OutG relB K ec W σ φ H (ev F c δ S) Q
def GE (X : Cx) (ec : Nat → Value) (F : Fn) (W : WX) (e : Expr) (c : CE) : Prop := PE X e (rdE X.K ec F W c)
def GA (X : Cx) (ec : Nat → Value) (F : Fn) (W : WX) (es : List Expr) (c : CE) : Prop := PA X es (rdA X.K ec F W c)
def GT (X : Cx) (ec : Nat → Value) (F : Fn) (W : WX) (e : Expr) (c : CE) : Prop := PT X e (rdT X.K ec F W c)
theorem PE.imp {X : Cx} {e : Expr} {t t' : TE} (h : PE X e t) (k : ∀ σ H Q, t' σ H Q → t σ H Q) : PE X e t' := ⟨fun pins s σ H Q I q => h.run pins s σ H Q I (k σ H Q q)⟩
theorem PA.imp {X : Cx} {e : List Expr} {t t' : TA} (h : PA X e t) (k : ∀ σ H Q, t' σ H Q → t σ H Q) : PA X e t' := ⟨fun pos pins s σ H Q I q => h.run pos pins s σ H Q I (k σ H Q q)⟩
theorem PT.imp {X : Cx} {e : Expr} {t t' : TT} (h : PT X e t) (k : ∀ σ H Q, t' σ H Q → t σ H Q) : PT X e t' := ⟨fun pins s σ H Q I q => h.run pins s σ H Q I (k σ H Q q)⟩
theorem PW.imp {X : Cx} {e : Expr} {t t' : TT} (h : PW X e t) (k : ∀ σ H Q, t' σ H Q → t σ H Q) : PW X e t' := ⟨fun wh pins s σ H Q I q => h.run wh pins s σ H Q I (k σ H Q q)⟩
/-- an operation by values that leaves the store as it is -/
def OV (K : PySem.W.Frag) (φ : Phi) (S : Store) (H : Hp) (o : Option D) (Q : VK) : Prop := match o with
  | some d => ∀ v H', Ext φ H φ H' → Rs K φ S H' → Rv K φ H' v d → Q v H'
  | none => False
section
variable {K : PySem.W.Frag} {ec : Nat → Value} {W : WX} {σ : St} {φ : Phi} {S : Store} {H : Hp} {o : Option D} {Q : VK}
theorem OutG.ov (h : OutG (Rv K) K ec W σ φ H (R.opt o S) Q) : OV K φ S H o Q := by
  cases o with
  | some d => exact fun v H' e rs rv => h φ v H' e rs rv
  | none => exact h
theorem OV.same {d : D} {v : V} (h : OV K φ S H (some d) Q) (rs : Rs K φ S H) (r : Rv K φ H v d) : Q v H := h v H (Ext.refl _ _) rs r
theorem OV.new {ds : List D} {xs : List V} {p : Addr} (h : OV K φ S H (some (.tup ds)) Q) (rs : Rs K φ S H) (r : Rvs K φ H xs ds) (hp : H p = none) : Q (.ref p) (upd H p (.tup xs)) :=
  h _ _ (Ext.fresh hp) (rs.fresh hp) (.tup (.inl ⟨upd_same, rs.free hp⟩) (r.ext (Ext.fresh hp)))
theorem OV.newL {ds : List D} {xs : List V} {p : Addr} (h : OV K φ S H (some (.lst ds)) Q) (rs : Rs K φ S H) (r : Rvs K φ H xs ds) (hp : H p = none) : Q (.ref p) (upd H p (.lst xs)) :=
  h _ _ (Ext.fresh hp) (rs.fresh hp) (.lst upd_same (rs.free hp) (r.ext (Ext.fresh hp)))
end
/-- what a sequence is in the heap -/
theorem seqL_at {K : PySem.W.Frag} {φ : Phi} {S : Store} {H : Hp} {v : V} {d : D} {ds : List D} (rs : Rs K φ S H) (r : Rv K φ H v d) (h : seqL S d = some ds) : ∃ a xs, v = .ref a ∧ H a = some (.lst xs) ∧ Rvs K φ H xs ds := by
  cases r with
  | lst h1 h2 h3 =>
    cases h
    exact ⟨_, _, rfl, h1, h3⟩
  | ref h1 h2 =>
    rename_i a i o
    unfold seqL at h
    cases e : S[i]? with
    | none => simp [e] at h
    | some c =>
      cases c with
      | lst es =>
        simp [e] at h
        subst h
        obtain ⟨b, xs, e1, e2, e3⟩ := rs.cell i _ e
        rw [h1] at e1
        cases e1
        rcases h2 with h2 | h2
        · cases h2
        · cases h2
          exact ⟨_, _, rfl, e2, e3⟩
      | _ => simp [e] at h
  | _ => cases h
theorem seqOf_at {K : PySem.W.Frag} {φ : Phi} {S : Store} {H : Hp} {v : V} {d : D} {ds : List D} (rs : Rs K φ S H) (r : Rv K φ H v d) (h : seqOf S d = some ds) : ∃ a xs, v = .ref a ∧ (SqL K H a xs ∨ SqT K H a xs) ∧ Rvs K φ H xs ds := by
  cases r with
  | tup h1 h2 =>
    cases h
    exact ⟨_, _, rfl, .inr h1.sq, h2⟩
  | lst h1 h2 h3 =>
    cases h
    exact ⟨_, _, rfl, .inl (SqL.of h1), h3⟩
  | scr h1 h3 =>
    cases h
    exact ⟨_, _, rfl, .inl h1.sq, h3⟩
  | ref h1 h2 =>
    obtain ⟨a, xs, e1, e2, e3⟩ := seqL_at rs (.ref h1 h2) (show seqL S (.ref _) = some ds from h)
    exact ⟨a, xs, e1, .inl (SqL.of e2), e3⟩
  | _ => cases h
/-! as data -/
section
variable {K : PySem.W.Frag} {φ : Phi} {S : Store} {H : Hp}
mutual
theorem py_at : ∀ {v : V} {d : D} {x : PyData}, Rv K φ H v d → py d = some x → Dp K H v x
  | _, _, _, .non, h => by
    unfold py at h
    cases h
    exact .non
  | _, _, _, .bl b, h => by
    unfold py at h
    cases h
    exact .bl b
  | _, _, _, .int i, h => by
    unfold py at h
    cases h
    exact .int i
  | _, _, _, .str i, h => by
    unfold py at h
    cases h
    exact .str i
  | _, _, _, .tup (ds := ds) t r, h => by
    unfold py at h
    cases e : pys ds with
    | none => rw [e] at h; cases h
    | some xs =>
      rw [e] at h
      cases h
      exact .tup t.sq (pys_at r e)
  | _, _, _, .lst (ds := ds) h1 h2 r, h => by
    unfold py at h
    cases e : pys ds with
    | none => rw [e] at h; cases h
    | some xs =>
      rw [e] at h
      cases h
      exact .lst (SqL.of h1) (pys_at r e)
  | _, _, _, .scr _ _, h => by unfold py at h; cases h
  | _, _, _, .edic _ _, h => by unfold py at h; cases h
  | _, _, _, .exc _ _ _, h => by unfold py at h; cases h
  | _, _, _, .ref _ _, h => by unfold py at h; cases h
theorem pys_at : ∀ {vs : List V} {ds : List D} {xs : List PyData}, Rvs K φ H vs ds → pys ds = some xs → DpAll K H vs xs
  | _, _, _, .nil, h => by
    unfold pys at h
    cases h
    exact .nil
  | _, _, _, .cons (d := d) (ds := ds) r rs, h => by
    unfold pys at h
    cases e : py d with
    | none => simp [e] at h
    | some x =>
      cases e2 : pys ds with
      | none => simp [e, e2] at h
      | some xs =>
        simp [e, e2] at h
        subst h
        exact .cons (py_at r e) (pys_at rs e2)
end
theorem pyS_at {v : V} {d : D} {x : PyData} (rs : Rs K φ S H) (r : Rv K φ H v d) (h : pyS S d = some x) : Dp K H v x := by
  cases r with
  | ref h1 h2 =>
    rename_i a i o
    unfold pyS at h
    cases e : S[i]? with
    | none => simp [e] at h
    | some c =>
      cases c with
      | lst ds =>
        simp [e] at h
        cases e2 : pys ds with
        | none => simp [e2] at h
        | some xs =>
          simp [e2] at h
          subst h
          obtain ⟨b, ys, e3, e4, e5⟩ := seqL_at rs (.ref h1 h2) (show seqL S (.ref i) = some ds by unfold seqL; simp [e])
          cases e3
          exact .lst (SqL.of e4) (pys_at e5 e2)
      | _ => simp [e] at h
  | non => exact py_at (φ := φ) .non h
  | bl b => exact py_at (φ := φ) (.bl b) h
  | int b => exact py_at (φ := φ) (.int b) h
  | str b => exact py_at (φ := φ) (.str b) h
  | tup a b => exact py_at (.tup a b) h
  | lst a b c => exact py_at (.lst a b c) h
  | scr a b => exact py_at (.scr a b) h
  | edic a b => exact py_at (.edic a b) h
  | exc l a b => exact py_at (.exc l a b) h
theorem shapedO_of {o : Option PyData} {x : PyData} (h : shapedO o = some x) : o = some x ∧ SeqAt.shaped x = true := by
  cases o with
  | none => cases h
  | some y =>
    unfold shapedO at h
    by_cases e : SeqAt.shaped y = true
    · simp [e] at h
      subst h
      exact ⟨rfl, e⟩
    · simp [e] at h
end
end Z

/-! Z: // of great ints, no bound. -/
namespace Z
open PySem PySem.Spec PyProof.Rows L2
/-- what _pylong asks of the state -/
def Seer (X : Cx) : Prop := ∀ (pins : List (Addr × Obj)) (σ : L2.St) (H : Hp) (s : Shared), Inv X pins σ H s → PylongRoom (model X.prog X.w) X.A s
theorem op_fdivZ {X : Cx} (hs : Seer X) : OpR X (binaryOp .FloorDiv) (rI (fun _ j => 0 < j) fun i j => .int (i / j)) := by
  intro pins s σ H x y v u Q I rx ry h
  obtain ⟨i, j, rfl, rfl, hc, q⟩ := h
  obtain ⟨t, rfl⟩ := rx
  obtain ⟨t', rfl⟩ := ry
  have h1 : (0 : Int) < j := hc
  exact floordiv_int (by omega) (by rw [Int.fdiv_eq_ediv_of_nonneg i (by omega)]; exact ⟨.int (i / j), H, I.tok _, ⟨_, rfl⟩, q⟩) (.inr (hs pins σ H s I))
def keyStrB : Value → Bool
  | .str _ _ => true
  | _ => false
def modsB (K : PySem.W.Frag) : Bool := match K.lookup sysModules with
  | some ⟨_, _, .dict es _, _⟩ => es.toList.all fun e => keyStrB e.key
  | _ => false
def bmB (K : PySem.W.Frag) : Bool := match PySem.W.nsIn K mainGlobals "__builtins__" with
  | some (some (.ref b)) => (match K.lookup b with
    | some ⟨.type c, some d, _, _⟩ => decide (c = "module") && decide (d = builtinsNs)
    | _ => false)
  | _ => false
def noneB (K : PySem.W.Frag) (a : Addr) (n : Str) : Bool := match PySem.W.nsIn K a n with
  | some none => true
  | _ => false
def seerB (K : PySem.W.Frag) : Bool := noneB K cStatics "sys.audit-hooks" && (noneB K cStatics "sys.dict" && (noneB K sysModules "_pylong" && (modsB K && bmB K)))
theorem noneB_of {K : PySem.W.Frag} {a : Addr} {n : Str} (h : noneB K a n = true) : PySem.W.nsIn K a n = some none := by
  unfold noneB at h
  split at h
  · assumption
  · cases h
theorem ns_none {K : PySem.W.Frag} {h : Heap} {a : Addr} {mg : Str → Option Value} {n : Str} (X : K.In h) (G : h.Ns a mg) (e : PySem.W.nsIn K a n = some none) : mg n = none := by
  obtain ⟨o, es, ep, ho, hd, _, hf⟩ := G
  unfold PySem.W.nsIn at e
  split at e
  · rename_i c d es' n' sl q
    have := X _ _ q
    rw [ho] at this
    cases this
    cases hd
    split at e
    · cases e
    · rename_i he
      rw [← hf]
      unfold nsFind findBy
      rw [← Array.find?_toList, he]
      rfl
  · cases e
theorem ands2 {a b : Bool} (h : (a && b) = true) : a = true ∧ b = true := Bool.and_eq_true_iff.mp h
theorem modsB_of {K : PySem.W.Frag} {h : Heap} (X : K.In h) (b : modsB K = true) : ∃ mm, h.Ns sysModules mm := by
  unfold modsB at b
  split at b
  · rename_i c d es n sl q
    refine ⟨nsFind es, _, es, n, X _ _ q, rfl, fun e he => ?_, fun _ => rfl⟩
    have := List.all_eq_true.mp b e (Array.mem_toList_iff.mpr he)
    unfold keyStrB at this
    split at this
    · exact ⟨_, _, by assumption⟩
    · cases this
  · cases b
theorem bmB_of {K : PySem.W.Frag} {h : Heap} {mg : Str → Option Value} (X : K.In h) (G : h.Ns mainGlobals mg) (b : bmB K = true) : ∃ bm ob, mg "__builtins__" = some (.ref bm) ∧ h.get? bm = some ob ∧ ob.cls = .type "module" ∧ ob.dict = some builtinsNs := by
  unfold bmB at b
  split at b
  · rename_i bm q
    split at b
    · rename_i c d dt sl q2
      obtain ⟨h1, h2⟩ := ands2 b
      exact ⟨bm, _, PySem.W.mg_of X G q, X _ _ q2, congrArg Value.type (of_decide_eq_true h1), congrArg some (of_decide_eq_true h2)⟩
    · cases b
  · cases b
theorem noSeer_of {K : PySem.W.Frag} {mg : Str → Option Value} {base : Heap} (b : seerB K = true) (M : Mod K mg base) : base.NoSeer := by
  unfold seerB at b
  obtain ⟨b1, b⟩ := ands2 b
  obtain ⟨b2, b⟩ := ands2 b
  obtain ⟨b3, b⟩ := ands2 b
  obtain ⟨b4, b5⟩ := ands2 b
  obtain ⟨mc, hc, _⟩ := M.nolimit
  obtain ⟨mm, hm⟩ := modsB_of M.kin b4
  obtain ⟨bm, ob, h1, h2, h3, h4⟩ := bmB_of M.kin M.glob b5
  exact ⟨⟨mc, hc, ns_none M.kin hc (noneB_of b1), ns_none M.kin hc (noneB_of b2)⟩, ⟨mm, hm, ns_none M.kin hm (noneB_of b3)⟩, M.blt, ⟨mg, bm, ob, M.glob, h1, h2, h3, h4⟩⟩
structure SeerX (X : Cx) : Prop where
  sk : seerB X.K = true
  tree : X.prog.given.tree = none
  deep : X.A.depth + Builtin.pylongFrames < recursionLimit
  top : ∃ e l, X.stack = e :: l ∧ e.scope.isGenerator = false ∧ e.scope.isCoroutine = false ∧ e.builtins = builtinsNs ∧ e.globals = mainGlobals
theorem SeerX.seer {X : Cx} (x : SeerX X) : Seer X := fun pins σ H s I => by
  obtain ⟨e, l, h1, h2, h3, h4, h5⟩ := x.top
  exact PylongRoom.of I.nolimit x.deep (SeerAt.of (env := e) (l := l) ((noSeer_of x.sk I.mod).keeps I.bk) x.tree (by rw [I.ok.frames, h1]) h2 h3 h4 h5)
end Z

/-! Z, part D: operations by values. -/
namespace Z
open PySem PySem.Spec PyProof.Rows L2 Classical
/-- a two-place operation, by data -/
def rB (K : PySem.W.Frag) (f : D → D → Store → Option D) : R2 := fun x y H Q => ∃ φ S a b, Rs K φ S H ∧ Rv K φ H x a ∧ Rv K φ H y b ∧ OV K φ S H (f a b S) Q
theorem MulOk.ok {i j : Int} (h : MulOk i j) : IntMulOk i j := h
section
variable {X : Cx}
theorem OpR.imp {f : Value → Value → Sem Value} {r r' : R2} (h : OpR X f r) (k : ∀ x y H Q, r' x y H Q → r x y H Q) : OpR X f r' := fun pins s σ H x y v u Q I rx ry q => h pins s σ H x y v u Q I rx ry (k _ _ _ _ q)
theorem op_mulZ : OpR X (binaryOp .Mult) (rI MulOk fun i j => .int (i * j)) := opI fun _ _ _ _ _ _ _ hc q => mul_int q hc.ok
theorem z_add : OpR X (binaryOp .Add) (rB X.K fun x y S => addEv S x y) := by
  have h := (op_add (X := X)).or ((op_add_str (X := X)).or ((op_catA (X := X)).or (op_cat (X := X))))
  refine OpR.imp h fun x y H Q ⟨φ, S, a, b, rs, ra, rb, q⟩ => ?_
  have lst : ∀ xs ys, seqL S a = some xs → seqL S b = some ys → OV X.K φ S H (catEv S a b) Q → rCat x y H Q := fun xs ys e1 e2 q => by
    obtain ⟨l, vs, rfl, h1, r1⟩ := seqL_at rs ra e1
    obtain ⟨m, ws, rfl, h2, r2⟩ := seqL_at rs rb e2
    unfold catEv at q
    simp only [e1, e2] at q
    by_cases hz : xs.length + ys.length ≤ sizeLine
    · rw [if_pos hz] at q
      exact ⟨l, m, vs, ws, rfl, rfl, h1, h2, by rw [r1.len, r2.len]; exact hz, fun p hp => OV.newL q rs (r1.app r2) hp⟩
    · rw [if_neg hz] at q
      exact q.elim
  have cat : ∀ {a b : D}, OV X.K φ S H (catEv S a b) Q → ∃ xs ys, seqL S a = some xs ∧ seqL S b = some ys := fun {a b} q => by
    unfold catEv at q
    cases e1 : seqL S a with
    | none => simp only [e1] at q; exact q.elim
    | some xs =>
      cases e2 : seqL S b with
      | none => simp only [e1, e2] at q; exact q.elim
      | some ys => exact ⟨xs, ys, rfl, rfl⟩
  cases ra with
  | int i =>
    cases rb with
    | int j => exact .inl ⟨i, j, rfl, rfl, OV.same q rs (.int _)⟩
    | _ => exact q.elim
  | str i =>
    cases rb with
    | str j =>
      have q' : OV X.K φ S H (if i.length + j.length ≤ sizeLine then some (.str (i ++ j)) else none) Q := q
      by_cases hz : i.length + j.length ≤ sizeLine
      · rw [if_pos hz] at q'
        exact .inr (.inl ⟨i, j, rfl, rfl, hz, OV.same q' rs (.str _)⟩)
      · rw [if_neg hz] at q'
        exact q'.elim
    | _ => exact q.elim
  | @tup a xs ds t r =>
    cases rb with
    | @tup b ys es t2 r2 =>
      have q' : OV X.K φ S H (if ds.length + es.length ≤ sizeLine then some (.tup (ds ++ es)) else none) Q := q
      by_cases hz : ds.length + es.length ≤ sizeLine
      · rw [if_pos hz] at q'
        refine .inr (.inr (.inl ⟨a, b, xs, ys, rfl, rfl, t.sq, t2.sq, by rw [r.len, r2.len]; exact hz, fun e => ?_, fun _ e => ?_, fun _ _ p hp => OV.new q' rs (r.app r2) hp⟩))
        · subst e
          cases r
          exact OV.same q' rs (.tup t2 r2)
        · subst e
          cases r2
          rw [List.append_nil] at q'
          exact OV.same q' rs (.tup t r)
      · rw [if_neg hz] at q'
        exact q'.elim
    | _ => exact q.elim
  | lst h1 h2 h3 =>
    have q' := q
    unfold addEv at q'
    obtain ⟨xs, ys, e1, e2⟩ := cat q'
    exact .inr (.inr (.inr (lst xs ys e1 e2 q')))
  | ref h1 h2 =>
    have q' := q
    unfold addEv at q'
    obtain ⟨xs, ys, e1, e2⟩ := cat q'
    exact .inr (.inr (.inr (lst xs ys e1 e2 q')))
  | _ => exact q.elim
theorem z_mul : OpR X (binaryOp .Mult) (rB X.K fun x y S => mulEv S x y) := by
  have h := (op_mulZ (X := X)).or ((op_repT (X := X)).or (op_rep (X := X)))
  refine OpR.imp h fun x y H Q ⟨φ, S, a, b, rs, ra, rb, q⟩ => ?_
  have lst : ∀ k, y = .int k → OV X.K φ S H (repEv S a k) Q → rRep x y H Q := fun k ey q => by
    unfold repEv at q
    cases e1 : seqL S a with
    | none => simp only [e1] at q; exact q.elim
    | some xs =>
      obtain ⟨l, vs, rfl, h1, r1⟩ := seqL_at rs ra e1
      simp only [e1] at q
      by_cases hz : -(2 ^ 63) ≤ k ∧ k < 2 ^ 63 ∧ xs.length * k.toNat ≤ sizeLine
      · rw [if_pos hz] at q
        exact ⟨l, k, vs, rfl, ey, h1, hz.1, hz.2.1, by rw [r1.len]; exact hz.2.2, fun p hp => OV.newL q rs (r1.rep _) hp⟩
      · rw [if_neg hz] at q
        exact q.elim
  cases rb with
  | int j =>
    cases ra with
    | int i =>
      have q' : OV X.K φ S H (if MulOk i j then some (.int (i * j)) else none) Q := q
      by_cases hz : MulOk i j
      · rw [if_pos hz] at q'
        exact .inl ⟨i, j, rfl, rfl, hz, OV.same q' rs (.int _)⟩
      · rw [if_neg hz] at q'
        exact q'.elim
    | @tup a xs ds t r =>
      have q' : OV X.K φ S H (if ds ≠ [] ∧ 2 ≤ j ∧ j ≤ 1000 ∧ ds.length ≤ 1000 then some (.tup (List.replicate j.toNat ds).flatten) else none) Q := q
      by_cases hz : ds ≠ [] ∧ 2 ≤ j ∧ j ≤ 1000 ∧ ds.length ≤ 1000
      · rw [if_pos hz] at q'
        refine .inr (.inl ⟨a, j, xs, rfl, rfl, t.sq, fun e => ?_, hz.2.1, hz.2.2.1, by rw [r.len]; exact hz.2.2.2, fun p hp => OV.new q' rs (r.rep _) hp⟩)
        subst e
        cases r
        exact hz.1 rfl
      · rw [if_neg hz] at q'
        exact q'.elim
    | lst h1 h2 h3 => exact .inr (.inr (lst j rfl q))
    | ref h1 h2 => exact .inr (.inr (lst j rfl q))
    | _ => exact q.elim
  | _ => cases ra <;> exact q.elim
def bopOp : Bop → Operator
  | .add => .Add
  | .sub => .Sub
  | .mul => .Mult
  | .fdiv => .FloorDiv
  | .mod => .Mod
  | .pow => .Pow
theorem opInt {op : Operator} {C : Int → Int → Prop} {g : Int → Int → Int} {f : D → D → Store → Option D} (h : OpR X (binaryOp op) (rI C fun i j => .int (g i j)))
    (k : ∀ a b S d, f a b S = some d → ∃ i j, a = .int i ∧ b = .int j ∧ C i j ∧ d = .int (g i j)) : OpR X (binaryOp op) (rB X.K f) := by
  refine OpR.imp h fun x y H Q ⟨φ, S, a, b, rs, ra, rb, q⟩ => ?_
  cases e : f a b S with
  | none => rw [e] at q; exact q.elim
  | some d =>
    obtain ⟨i, j, rfl, rfl, hc, rfl⟩ := k a b S d e
    rw [e] at q
    cases ra
    cases rb
    exact ⟨i, j, rfl, rfl, hc, OV.same q rs (.int _)⟩
theorem z_bin (hs : Seer X) (op : Bop) : OpR X (binaryOp (bopOp op)) (rB X.K (binEv op)) := by
  cases op with
  | add => exact z_add
  | sub =>
    refine opInt (C := fun _ _ => True) (g := fun i j => i - j) (OpR.imp (op_sub (X := X)) fun x y H Q ⟨i, j, h1, h2, _, h3⟩ => ⟨i, j, h1, h2, h3⟩) fun a b S d e => ?_
    cases a <;> cases b <;> cases e
    exact ⟨_, _, rfl, rfl, trivial, rfl⟩
  | mul => exact z_mul
  | fdiv =>
    refine opInt (op_fdivZ (X := X) hs) fun a b S d e => ?_
    cases a <;> cases b <;> first | (cases e; done) | skip
    rename_i i j
    have e' : (if DivOk i j then some (D.int (i / j)) else none) = some d := e
    by_cases h : DivOk i j
    · rw [if_pos h] at e'
      cases e'
      exact ⟨_, _, rfl, rfl, h, rfl⟩
    · rw [if_neg h] at e'
      cases e'
  | mod =>
    refine opInt (op_mod (X := X)) fun a b S d e => ?_
    cases a <;> cases b <;> first | (cases e; done) | skip
    rename_i i j
    have e' : (if 0 < j then some (D.int (i % j)) else none) = some d := e
    by_cases h : 0 < j
    · rw [if_pos h] at e'
      cases e'
      exact ⟨_, _, rfl, rfl, h, rfl⟩
    · rw [if_neg h] at e'
      cases e'
  | pow =>
    refine opInt (op_pow (X := X)) fun a b S d e => ?_
    cases a <;> cases b <;> first | (cases e; done) | skip
    rename_i i j
    have e' : (if 0 ≤ j ∧ j ≤ 1000000 ∧ i.natAbs < 2 ^ 64 then some (D.int (i ^ j.toNat)) else none) = some d := e
    by_cases h : 0 ≤ j ∧ j ≤ 1000000 ∧ i.natAbs < 2 ^ 64
    · rw [if_pos h] at e'
      cases e'
      exact ⟨_, _, rfl, rfl, h, rfl⟩
    · rw [if_neg h] at e'
      cases e'
/-! ### comparisons -/
def copOp : Cop → CmpOp
  | .eq => .Eq
  | .ne => .NotEq
  | .lt => .Lt
  | .le => .LtE
  | .gt => .Gt
  | .ge => .GtE
  | .is => .Is
  | .isnot => .IsNot
  | .isin => .In
  | .notin => .NotIn
theorem eqEv_at {K : PySem.W.Frag} {φ : Phi} {S : Store} {H : Hp} {x y : V} {a b : D} {r : Bool} (rs : Rs K φ S H) (ra : Rv K φ H x a) (rb : Rv K φ H y b) (h : eqEv S a b = some r) :
    ∃ d e, Dp K H x d ∧ Dp K H y e ∧ SeqAt.shaped d = true ∧ SeqAt.shaped e = true ∧ r = PyData.eqv d e := by
  unfold eqEv at h
  cases e1 : shapedO (pyS S a) with
  | none => simp only [e1] at h; cases h
  | some d =>
    cases e2 : shapedO (pyS S b) with
    | none => simp only [e1, e2] at h; cases h
    | some e =>
      simp only [e1, e2] at h
      cases h
      obtain ⟨f1, f2⟩ := shapedO_of e1
      obtain ⟨g1, g2⟩ := shapedO_of e2
      exact ⟨d, e, pyS_at rs ra f1, pyS_at rs rb g1, f2, g2, rfl⟩
theorem OV.bool {K : PySem.W.Frag} {φ : Phi} {S : Store} {H : Hp} {o : Option Bool} {Q : VK} (h : OV K φ S H (o.map D.bl) Q) (rs : Rs K φ S H) : ∃ b, o = some b ∧ Q (.bl b) H := by
  cases o with
  | none => exact h.elim
  | some b => exact ⟨b, rfl, OV.same h rs (.bl b)⟩
theorem rIn_of {K : PySem.W.Frag} {φ : Phi} {S : Store} {H : Hp} {x y : V} {a b : D} {r : Bool} (rs : Rs K φ S H) (ra : Rv K φ H x a) (rb : Rv K φ H y b) (h : inEv S a b = some r) :
    (∃ p xs, y = .ref p ∧ SqT K H p xs ∧ flatV x = true ∧ xs.all flatV = true ∧ r = inV x xs) ∨
    ∃ d ds, Dp K H x d ∧ Dp K H y (.list ds) ∧ SeqAt.shaped d = true ∧ SeqAt.shaped (.list ds) = true ∧ r = ds.any fun z => PyData.eqv z d := by
  have deep : ∀ {b : D}, Rv K φ H y b → (match shapedO (pyS S a), shapedO (pyS S b) with
    | some d, some (.list es) => some (es.any fun z => PyData.eqv z d)
    | _, _ => none) = some r → ∃ d ds, Dp K H x d ∧ Dp K H y (.list ds) ∧ SeqAt.shaped d = true ∧ SeqAt.shaped (.list ds) = true ∧ r = ds.any fun z => PyData.eqv z d := fun {b} rb h => by
    cases e1 : shapedO (pyS S a) with
    | none => simp only [e1] at h; cases h
    | some d =>
      cases e2 : shapedO (pyS S b) with
      | none => simp only [e1, e2] at h; cases h
      | some e =>
        obtain ⟨f1, f2⟩ := shapedO_of e1
        obtain ⟨g1, g2⟩ := shapedO_of e2
        cases e with
        | list es =>
          simp only [e1, e2] at h
          cases h
          exact ⟨d, es, pyS_at rs ra f1, pyS_at rs rb g1, f2, g2, rfl⟩
        | _ => simp only [e1, e2] at h; cases h
  cases rb with
  | @tup p xs ds t rr =>
    left
    unfold inEv at h
    by_cases hf : flatD a = true ∧ ds.all flatD = true
    · simp only [hf, and_self, if_true] at h
      have fl : ∀ {v : V} {d : D}, Rv K φ H v d → flatD d = true → flatV v = true := fun {v d} r h => by
        cases r <;> first | rfl | cases h
      have fls : ∀ {vs : List V} {ds : List D}, Rvs K φ H vs ds → ds.all flatD = true → vs.all flatV = true := fun {vs ds} r h => by
        induction vs generalizing ds with
        | nil => rfl
        | cons v vs ih =>
          cases r with
          | cons r1 r2 =>
            rw [List.all_cons, Bool.and_eq_true] at h
            rw [List.all_cons, Bool.and_eq_true]
            exact ⟨fl r1 h.1, ih r2 h.2⟩
      refine ⟨p, xs, rfl, t.sq, fl ra hf.1, fls rr hf.2, ?_⟩
      have one : ∀ {v : V} {d : D} {z : PyData}, Rv K φ H v d → flatD d = true → py d = some z → (∀ {w : V} {e : D} {u : PyData}, Rv K φ H w e → flatD e = true → py e = some u → PyData.eqv z u = eqV v w) := fun {v d z} r1 f1 p1 {w e u} r2 f2 p2 => by
        cases r1 <;> first | (cases f1; done) | (cases r2 <;> first | (cases f2; done) | (unfold py at p1 p2; cases p1; cases p2; simp [PyData.eqv, eqV]))
      cases e1 : py a with
      | none => simp only [e1] at h; cases h
      | some d =>
        cases e2 : pys ds with
        | none => simp only [e1, e2] at h; cases h
        | some es =>
          simp only [e1, e2] at h
          cases h
          unfold inV
          have go : ∀ {vs : List V} {ds : List D} {es : List PyData}, Rvs K φ H vs ds → ds.all flatD = true → pys ds = some es → (es.any fun z => PyData.eqv z d) = vs.any fun y => eqV y x := fun {vs ds es} r f q => by
            induction vs generalizing ds es with
            | nil =>
              cases r
              unfold pys at q
              cases q
              rfl
            | cons v vs ih =>
              cases r with
              | cons r1 r2 =>
                rename_i d1 ds1
                rw [List.all_cons, Bool.and_eq_true] at f
                unfold pys at q
                cases e3 : py d1 with
                | none => simp [e3] at q
                | some z =>
                  cases e4 : pys ds1 with
                  | none => simp [e3, e4] at q
                  | some zs =>
                    simp [e3, e4] at q
                    subst q
                    rw [List.any_cons, List.any_cons, ih r2 f.2 e4, one r1 f.1 e3 ra hf.1 e1]
          exact go rr hf.2 e2
    · simp only [if_neg hf] at h
      cases h
  | lst h1 h2 h3 => exact .inr (deep (.lst h1 h2 h3) h)
  | ref h1 h2 => exact .inr (deep (.ref h1 h2) h)
  | scr h1 h2 => exact .inr (deep (.scr h1 h2) h)
  | edic h1 h2 => exact .inr (deep (.edic h1 h2) h)
  | exc h0 h1 h2 => exact .inr (deep (.exc h0 h1 h2) h)
  | non => exact .inr (deep (.non) h)
  | bl b => exact .inr (deep (.bl b) h)
  | int b => exact .inr (deep (.int b) h)
  | str b => exact .inr (deep (.str b) h)
end

section
variable {X : Cx}
theorem isEv_at {K : PySem.W.Frag} {φ : Phi} {H : Hp} {x y : V} {a b : D} {r : Bool} (ra : Rv K φ H x a) (rb : Rv K φ H y b) (h : isEv a b = some r) :
    (y = .non ∧ r = decide (x = .non)) ∨ ∃ p q : Bool, x = .bl p ∧ y = .bl q ∧ r = decide (p = q) := by
  cases rb with
  | non => cases ra <;> first | (cases h; exact .inl ⟨rfl, rfl⟩) | cases h
  | bl b => cases ra <;> first | (cases h; exact .inr ⟨_, _, rfl, rfl, rfl⟩) | cases h
  | _ => cases h
/-! ### dicts -/
section
variable {K : PySem.W.Frag} {φ : Phi} {S : Store} {H : Hp}
theorem key_at {v : V} {d : D} {k : Key} (r : Rv K φ H v d) (e : keyOf d = some k) : v = kV k := by
  cases r <;> first | (cases e; rfl) | cases e
theorem dk_at {v : V} {d : D} {kvs : List (Key × D)} (rs : Rs K φ S H) (r : Rv K φ H v d) (e : dkOf S d = some kvs) :
    ∃ p a xs, d = .ref p ∧ v = .ref a ∧ S[p]? = some (.dk kvs) ∧ φ.c[p]? = some (some a) ∧ H a = some (.dK xs) ∧ xs.map (·.1) = kvs.map (·.1) ∧ Rvs K φ H (xs.map (·.2)) (kvs.map (·.2)) := by
  cases r with
  | ref h1 h2 =>
    rename_i a i o
    unfold dkOf at e
    cases e1 : S[i]? with
    | none => simp [e1] at e
    | some c =>
      have rc := rs.cell i c e1
      cases c with
      | dk es =>
        simp [e1] at e
        subst e
        rw [h1] at rc
        obtain ⟨b, xs, q1, q2, q3, q4⟩ := rc
        cases q1
        rcases h2 with h2 | h2 <;> cases h2
        exact ⟨i, a, xs, rfl, rfl, e1, h1, q2, q3, q4⟩
      | _ => simp [e1] at e
  | _ => cases e
theorem val_at {k : Key} : ∀ {xs : List (Key × V)} {kvs : List (Key × D)}, xs.map (·.1) = kvs.map (·.1) → Rvs K φ H (xs.map (·.2)) (kvs.map (·.2)) →
    (∀ d, valD kvs k = some d → ∃ v, valV xs k = some v ∧ Rv K φ H v d) ∧ (valV xs k).isSome = (valD kvs k).isSome
  | [], [], _, _ => ⟨fun d h => (by cases h), rfl⟩
  | [], _ :: _, h, _ => by simp at h
  | _ :: _, [], h, _ => by simp at h
  | x :: xs, y :: kvs, h, r => by
    rw [List.map_cons, List.map_cons, List.cons.injEq] at h
    rw [List.map_cons, List.map_cons] at r
    cases r with
    | cons r1 r2 =>
      have ih := val_at (k := k) h.2 r2
      by_cases e : x.1 = k
      · have e2 : y.1 = k := by rw [← h.1]; exact e
        have v1 : valV (x :: xs) k = some x.2 := valV_pos e
        have v2 : valD (y :: kvs) k = some y.2 := by simp [valD, List.find?_cons, e2]
        rw [v1, v2]
        exact ⟨fun d hd => by cases hd; exact ⟨_, rfl, r1⟩, rfl⟩
      · have e2 : ¬ y.1 = k := by rw [← h.1]; exact e
        have v1 : valV (x :: xs) k = valV xs k := valV_neg e
        have v2 : valD (y :: kvs) k = valD kvs k := by simp [valD, List.find?_cons, e2]
        rw [v1, v2]
        exact ih
theorem any_at {k : Key} : ∀ {xs : List (Key × V)} {kvs : List (Key × D)}, xs.map (·.1) = kvs.map (·.1) → (xs.any fun kv => decide (kv.1 = k)) = kvs.any fun kv => decide (kv.1 = k)
  | [], [], _ => rfl
  | [], _ :: _, h => by simp at h
  | _ :: _, [], h => by simp at h
  | x :: xs, y :: kvs, h => by
    rw [List.map_cons, List.map_cons, List.cons.injEq] at h
    rw [List.any_cons, List.any_cons, any_at h.2, h.1]
theorem put_map {k : Key} {v : V} {d : D} (q : Rv K φ H v d) : ∀ {xs : List (Key × V)} {kvs : List (Key × D)}, xs.map (·.1) = kvs.map (·.1) → Rvs K φ H (xs.map (·.2)) (kvs.map (·.2)) →
    (xs.map fun kv => if kv.1 = k then (kv.1, v) else kv).map (·.1) = (kvs.map fun kv => if kv.1 = k then (kv.1, d) else kv).map (·.1) ∧
    Rvs K φ H ((xs.map fun kv => if kv.1 = k then (kv.1, v) else kv).map (·.2)) ((kvs.map fun kv => if kv.1 = k then (kv.1, d) else kv).map (·.2))
  | [], [], _, _ => ⟨rfl, .nil⟩
  | [], _ :: _, h, _ => by simp at h
  | _ :: _, [], h, _ => by simp at h
  | x :: xs, y :: kvs, h, r => by
    rw [List.map_cons, List.map_cons, List.cons.injEq] at h
    rw [List.map_cons, List.map_cons] at r
    cases r with
    | cons r1 r2 =>
      obtain ⟨ih1, ih2⟩ := put_map (k := k) q h.2 r2
      simp only [List.map_cons]
      by_cases e : x.1 = k
      · have e2 : y.1 = k := by rw [← h.1]; exact e
        rw [if_pos e, if_pos e2]
        exact ⟨by rw [ih1]; show x.1 :: _ = y.1 :: _; rw [h.1], .cons q ih2⟩
      · have e2 : ¬ y.1 = k := by rw [← h.1]; exact e
        rw [if_neg e, if_neg e2]
        exact ⟨by rw [ih1]; show x.1 :: _ = y.1 :: _; rw [h.1], .cons r1 ih2⟩
theorem put_at {k : Key} {v : V} {d : D} (q : Rv K φ H v d) {xs : List (Key × V)} {kvs : List (Key × D)} (h : xs.map (·.1) = kvs.map (·.1)) (r : Rvs K φ H (xs.map (·.2)) (kvs.map (·.2))) :
    (putK xs k v).map (·.1) = (putD kvs k d).map (·.1) ∧ Rvs K φ H ((putK xs k v).map (·.2)) ((putD kvs k d).map (·.2)) := by
  unfold putK putD
  rw [any_at h]
  by_cases e : (kvs.any fun kv => decide (kv.1 = k)) = true
  · rw [if_pos e, if_pos e]
    exact put_map q h r
  · rw [if_neg e, if_neg e]
    rw [List.map_append, List.map_append, List.map_append, List.map_append, h]
    exact ⟨rfl, r.app (.cons q .nil)⟩
theorem keysI_at : ∀ {kvs : List (Key × D)} {ks : List Int}, keysI kvs = some ks → kvs.map (·.1) = ks.map Sum.inl
  | [], ks, h => by cases h; rfl
  | (.inl i, d) :: r, ks, h => by
    unfold keysI at h
    cases e : keysI r with
    | none => rw [e] at h; cases h
    | some l =>
      rw [e] at h
      cases h
      rw [List.map_cons, List.map_cons, keysI_at e]
  | (.inr _, _) :: _, ks, h => by cases h
theorem sort_uniq {ks ys : List Int} (p : ys.Perm ks) (s : ys.Pairwise (· ≤ ·)) : ys = sortI ks := by
  have h2 : (sortI ks).Pairwise (· ≤ ·) := by
    have := List.pairwise_mergeSort (le := fun a b : Int => decide (a ≤ b)) (fun a b c h1 h2 => by simp at *; omega) (fun a b => by simp; omega) ks
    exact this.imp fun h => of_decide_eq_true h
  exact List.Perm.eq_of_pairwise (le := (· ≤ ·)) (fun a b _ _ h1 h2 => Int.le_antisymm h1 h2) s h2 (p.trans (List.mergeSort_perm ks _).symm)
end
theorem op_inK (hu : X.A.units + 1 < cLine) : OpR X (compareOp .In) (fun x y H Q => ∃ a kvs k, y = .ref a ∧ H a = some (.dK kvs) ∧ x = kV k ∧ Q (.bl (valV kvs k).isSome) H) := by
  intro pins s σ H x y v u Q I rx ry h
  obtain ⟨a, kvs, k, rfl, e, rfl, q⟩ := h
  cases ry
  exact d_in hu I (DGet.k e) rx fun s' I' => ⟨.bl _, H, I', rfl, q⟩
theorem op_notInK (hu : X.A.units + 1 < cLine) : OpR X (compareOp .NotIn) (fun x y H Q => ∃ a kvs k, y = .ref a ∧ H a = some (.dK kvs) ∧ x = kV k ∧ Q (.bl (!(valV kvs k).isSome)) H) := by
  intro pins s σ H x y v u Q I rx ry h
  obtain ⟨a, kvs, k, rfl, e, rfl, q⟩ := h
  cases ry
  exact d_notIn hu I (DGet.k e) rx fun s' I' => ⟨.bl _, H, I', rfl, q⟩
theorem inD_of {K : PySem.W.Frag} {φ : Phi} {S : Store} {H : Hp} {x y : V} {a b : D} {r : Bool} (rs : Rs K φ S H) (ra : Rv K φ H x a) (rb : Rv K φ H y b) (h : inEvD S a b = some r) :
    inEv S a b = some r ∨ ∃ p xs k, y = .ref p ∧ H p = some (.dK xs) ∧ x = kV k ∧ r = (valV xs k).isSome := by
  unfold inEvD at h
  cases e : dkOf S b with
  | none => rw [e] at h; exact .inl h
  | some kvs =>
    rw [e] at h
    cases e2 : keyOf a with
    | none => simp [e2] at h
    | some k =>
      simp only [e2, Option.map_some, Option.some.injEq] at h
      obtain ⟨p, w, xs, rfl, rfl, q1, q2, q3, q4, q5⟩ := dk_at rs rb e
      refine .inr ⟨w, xs, k, rfl, q3, key_at ra e2, ?_⟩
      rw [← h, (val_at q4 q5).2]
theorem cmp_of {op : CmpOp} {o : Cop} {r : R2} (h : OpR X (compareOp op) r) (k : ∀ φ S H x y a b c (Q : VK), Rs X.K φ S H → Rv X.K φ H x a → Rv X.K φ H y b → cmpB o a b S = some c → Q (.bl c) H → r x y H Q) : OpR X (compareOp op) (rB X.K (cmpEv o)) := by
  refine OpR.imp h fun x y H Q ⟨φ, S, a, b, rs, ra, rb, q⟩ => ?_
  obtain ⟨c, e, q⟩ := OV.bool q rs
  exact k φ S H x y a b c Q rs ra rb e q
theorem map_not {o : Option Bool} {c : Bool} (h : o.map (!·) = some c) : o = some (!c) := by
  cases o with
  | none => cases h
  | some b =>
    cases h
    simp
theorem ord_of {op : CmpOp} {o : Cop} {g : Int → Int → Bool} (h : OpR X (compareOp op) (rI0 fun i j => .bl (g i j))) (e : ∀ a b S, cmpB o a b S = ordEv o a b) (eg : ∀ i j, cmpI o i j = some (g i j)) : OpR X (compareOp op) (rB X.K (cmpEv o)) := by
  refine cmp_of h fun φ S H x y a b c Q rs ra rb e2 q => ?_
  rw [e] at e2
  cases ra <;> first | (cases e2; done) | skip
  cases rb <;> first | (cases e2; done) | skip
  have e3 : cmpI o _ _ = some c := e2
  rw [eg] at e3
  cases e3
  exact ⟨_, _, rfl, rfl, q⟩
theorem z_cmp (hu : X.A.units + 65 < cLine) (op : Cop) : OpR X (compareOp (copOp op)) (rB X.K (cmpEv op)) := by
  cases op with
  | eq =>
    refine cmp_of (op_eqD (X := X) (by omega)) fun φ S H x y a b c Q rs ra rb e q => ?_
    obtain ⟨d, f, h1, h2, h3, h4, rfl⟩ := eqEv_at rs ra rb e
    exact ⟨d, f, h1, h2, h3, h4, q⟩
  | ne =>
    refine cmp_of (op_neD (X := X) (by omega)) fun φ S H x y a b c Q rs ra rb e q => ?_
    obtain ⟨d, f, h1, h2, h3, h4, e5⟩ := eqEv_at rs ra rb (map_not e)
    refine ⟨d, f, h1, h2, h3, h4, ?_⟩
    rw [← e5, Bool.not_not]
    exact q
  | lt => exact ord_of op_lt (fun _ _ _ => rfl) fun _ _ => rfl
  | le => exact ord_of op_le (fun _ _ _ => rfl) fun _ _ => rfl
  | gt => exact ord_of op_gt (fun _ _ _ => rfl) fun _ _ => rfl
  | ge => exact ord_of op_ge (fun _ _ _ => rfl) fun _ _ => rfl
  | is =>
    refine cmp_of ((op_isN (X := X)).or (op_isBl (X := X))) fun φ S H x y a b c Q rs ra rb e q => ?_
    rcases isEv_at ra rb e with ⟨h1, rfl⟩ | ⟨p, r, h1, h2, rfl⟩
    · exact .inl ⟨h1, q⟩
    · exact .inr ⟨p, r, h1, h2, q⟩
  | isnot =>
    refine cmp_of ((op_notN (X := X)).or (op_notBl (X := X))) fun φ S H x y a b c Q rs ra rb e q => ?_
    rcases isEv_at ra rb (map_not e) with ⟨h1, e2⟩ | ⟨p, r, h1, h2, e2⟩
    · exact .inl ⟨h1, by rw [← e2, Bool.not_not]; exact q⟩
    · exact .inr ⟨p, r, h1, h2, by rw [← e2, Bool.not_not]; exact q⟩
  | isin =>
    refine cmp_of (((op_in_seq (X := X)).or (op_inD (X := X) hu)).or (op_inK (X := X) (by omega))) fun φ S H x y a b c Q rs ra rb e q => ?_
    rcases inD_of rs ra rb e with e | ⟨p, xs, k, h1, h2, h3, rfl⟩
    · rcases rIn_of rs ra rb e with ⟨p, xs, h1, h2, h3, h4, rfl⟩ | ⟨d, ds, h1, h2, h3, h4, rfl⟩
      · exact .inl (.inl ⟨p, xs, h1, .inr h2, h3, h4, q⟩)
      · exact .inl (.inr ⟨d, ds, h1, h2, h3, h4, q⟩)
    · exact .inr ⟨p, xs, k, h1, h2, h3, q⟩
  | notin =>
    refine cmp_of (((op_notIn_seq (X := X)).or (op_notInD (X := X) hu)).or (op_notInK (X := X) (by omega))) fun φ S H x y a b c Q rs ra rb e q => ?_
    rcases inD_of rs ra rb (map_not e) with e | ⟨p, xs, k, h1, h2, h3, e2⟩
    · rcases rIn_of rs ra rb e with ⟨p, xs, h1, h2, h3, h4, e2⟩ | ⟨d, ds, h1, h2, h3, h4, e2⟩
      · exact .inl (.inl ⟨p, xs, h1, .inr h2, h3, h4, by rw [← e2]; simpa using q⟩)
      · exact .inl (.inr ⟨d, ds, h1, h2, h3, h4, by rw [← e2]; simpa using q⟩)
    · exact .inr ⟨p, xs, k, h1, h2, h3, by rw [← e2, Bool.not_not]; exact q⟩
/-! ### subscripts -/
theorem atI_rv {K : PySem.W.Frag} {φ : Phi} {H : Hp} {vs : List V} {ds : List D} {i : Int} {d : D} (r : Rvs K φ H vs ds) (h : atI ds i = some d) : ∃ v, atI vs i = some v ∧ Rv K φ H v d := by
  unfold atI at h ⊢
  rw [r.len]
  cases e : ixN ds.length i with
  | none => rw [e] at h; cases h
  | some j =>
    rw [e] at h
    exact r.get h
theorem ix_dk (hu : X.A.units + 1 < cLine) : IxR X (fun x y H Q => ∃ a kvs k v, x = .ref a ∧ H a = some (.dK kvs) ∧ y = kV k ∧ valV kvs k = some v ∧ Q v H) := by
  intro value slice pins s σ H x y v u Q I rx ry h hs
  obtain ⟨a, kvs, k, z, rfl, e, rfl, l, q⟩ := h
  have g : DGet H a (kV k) (some z) := by rw [← l]; exact DGet.k e
  cases rx
  exact tail_any (dict_typeIs I g) PySem.F.slot_dict_getitem.lookup (d_getItem hu I g ry fun w' s' I' rw' => ⟨z, H, I', rw', q⟩) hs
theorem z_ix (hu : X.A.units + 1 < cLine) : IxR X (rB X.K idxEv) := by
  have h := ((ix_list (X := X)).or (ix_tup (X := X))).or (ix_dk hu)
  intro value slice pins s σ H x y v u Q I rx ry q hs
  obtain ⟨φ, S, a, b, rs, ra, rb, q⟩ := q
  refine h value slice pins s σ H x y v u Q I rx ry ?_ hs
  unfold idxEv at q
  cases e0 : dkOf S a with
  | some kvs =>
    simp only [e0] at q
    cases e1 : keyOf b with
    | none => simp only [e1, Option.bind_none] at q; exact q.elim
    | some k =>
      simp only [e1, Option.bind_some] at q
      cases e2 : valD kvs k with
      | none => simp only [e2] at q; exact q.elim
      | some d =>
        simp only [e2] at q
        obtain ⟨p, w, xs, rfl, rfl, q1, q2, q3, q4, q5⟩ := dk_at rs ra e0
        obtain ⟨z, hz, rz⟩ := (val_at q4 q5).1 d e2
        exact .inr ⟨w, xs, k, z, rfl, q3, key_at rb e1, hz, OV.same q rs rz⟩
  | none =>
    simp only [e0] at q
    cases rb with
    | int i =>
      cases e : seqOf S a with
      | none => simp only [e] at q; exact q.elim
      | some ds =>
        simp only [e] at q
        cases e2 : atI ds i with
        | none => simp only [e2] at q; exact q.elim
        | some d =>
          simp only [e2] at q
          obtain ⟨p, xs, rfl, hq, rr⟩ := seqOf_at rs ra e
          obtain ⟨w, hw, rw'⟩ := atI_rv rr e2
          rcases hq with hq | hq
          · exact .inl (.inl ⟨p, xs, i, w, rfl, rfl, hq, hw, OV.same q rs rw'⟩)
          · exact .inl (.inr ⟨p, xs, i, w, rfl, rfl, hq, hw, OV.same q rs rw'⟩)
    | _ => exact q.elim
theorem cut_rv {K : PySem.W.Frag} {φ : Phi} {H : Hp} {vs : List V} {ds : List D} (r : Rvs K φ H vs ds) (lo hi : Option Int) : Rvs K φ H (cutV vs lo hi) (cutD ds lo hi) := by
  unfold cutV cutD
  rw [r.len]
  exact (r.drop _).take _
theorem cutD_whole {ds : List D} {lo hi : Option Int} (h : HT.sIx ds.length 0 lo = 0 ∧ HT.sIx ds.length ds.length hi = ds.length) : cutD ds lo hi = ds := by
  unfold cutD
  rw [h.1, h.2]
  simp
def rSlZ (K : PySem.W.Frag) : V → Option Int → Option Int → Hp → VK → Prop := fun x lo hi H Q => ∃ φ S a, Rs K φ S H ∧ Rv K φ H x a ∧ OV K φ S H (slEv a lo hi S) Q
theorem z_sl : SlR X (rSlZ X.K) := by
  have h := ((sl_list (X := X)).or (sl_tupA (X := X))).or (sl_str (X := X))
  intro pins s σ H x v vl vu lo hi sl Q I rx hs pl pu q
  obtain ⟨φ, S, a, rs, ra, q⟩ := q
  refine h pins s σ H x v vl vu lo hi sl Q I rx hs pl pu ?_
  have lst : ∀ {b : D}, Rv X.K φ H x b → OV X.K φ S H ((seqL S b).map fun ds => .lst (cutD ds lo hi)) Q → rSlL X.K x lo hi H Q := fun {b} rb q => by
    cases e : seqL S b with
    | none => simp only [e] at q; exact q.elim
    | some ds =>
      simp only [e] at q
      obtain ⟨p, xs, rfl, hq, rr⟩ := seqL_at rs rb e
      exact ⟨p, xs, rfl, SqL.of hq, fun l hl => OV.newL q rs (cut_rv rr lo hi) hl⟩
  cases ra with
  | str z =>
    right
    by_cases hz : z.length ≤ sizeLine
    · have q' : OV X.K φ S H (if z.length ≤ sizeLine then some (.str (L2.cutS z lo hi)) else none) Q := q
      rw [if_pos hz] at q'
      exact ⟨z, rfl, hz, OV.same q' rs (.str _)⟩
    · have q' : OV X.K φ S H (if z.length ≤ sizeLine then some (.str (L2.cutS z lo hi)) else none) Q := q
      rw [if_neg hz] at q'
      exact q'.elim
  | @tup p xs ds t r =>
    left
    right
    have q' : OV X.K φ S H (some (.tup (cutD ds lo hi))) Q := q
    refine ⟨p, xs, rfl, t.sq, fun w => ?_, fun w l hl => OV.new q' rs (cut_rv r lo hi) hl⟩
    rw [r.len] at w
    rw [cutD_whole w] at q'
    exact OV.same q' rs (.tup t r)
  | @scr p xs ds h1 r =>
    have q' : OV X.K φ S H (some (.lst (cutD ds lo hi))) Q := q
    exact .inl (.inl ⟨p, xs, rfl, h1.sq, fun l hl => OV.newL q' rs (cut_rv r lo hi) hl⟩)
  | lst h1 h2 h3 => exact .inl (.inl (lst (.lst h1 h2 h3) q))
  | ref h1 h2 => exact .inl (.inl (lst (.ref h1 h2) q))
  | _ => exact q.elim
/-! ### builtins -/
def rBl (K : PySem.W.Frag) (b : Blt) : List V → Hp → VK → Prop := fun xs H Q => ∃ φ S ds, Rs K φ S H ∧ Rvs K φ H xs ds ∧ OV K φ S H (bltEv b ds S) Q
theorem CallR.imp {f : Value} {r r' : List V → Hp → VK → Prop} (h : CallR X f r) (k : ∀ xs H Q, r' xs H Q → r xs H Q) : CallR X f r' := fun pins s σ H xs us Q I rx q => h pins s σ H xs us Q I rx (k _ _ _ q)
theorem CallR.or {f : Value} {r r' : List V → Hp → VK → Prop} (h : CallR X f r) (h' : CallR X f r') : CallR X f (fun xs H Q => r xs H Q ∨ r' xs H Q) := fun pins s σ H xs us Q I rx q => by
  rcases q with q | q
  · exact h pins s σ H xs us Q I rx q
  · exact h' pins s σ H xs us Q I rx q
theorem Rvs.one {K : PySem.W.Frag} {φ : Phi} {H : Hp} {xs : List V} {d : D} (r : Rvs K φ H xs [d]) : ∃ x, xs = [x] ∧ Rv K φ H x d := by
  cases r with
  | cons r1 r2 => cases r2; exact ⟨_, rfl, r1⟩
theorem Rvs.two {K : PySem.W.Frag} {φ : Phi} {H : Hp} {xs : List V} {d e : D} (r : Rvs K φ H xs [d, e]) : ∃ x y, xs = [x, y] ∧ Rv K φ H x d ∧ Rv K φ H y e := by
  cases r with
  | cons r1 r2 =>
    obtain ⟨y, rfl, r3⟩ := r2.one
    exact ⟨_, _, rfl, r1, r3⟩
theorem rBl_one {K : PySem.W.Frag} {b : Blt} {xs : List V} {H : Hp} {Q : VK} (h : rBl K b xs H Q) (k : ∀ ds S, bltEv b ds S ≠ none → ∃ d, ds = [d]) :
    ∃ φ S d x, Rs K φ S H ∧ xs = [x] ∧ Rv K φ H x d ∧ OV K φ S H (bltEv b [d] S) Q := by
  obtain ⟨φ, S, ds, rs, r, q⟩ := h
  obtain ⟨d, rfl⟩ := k ds S fun e => by rw [e] at q; exact q
  obtain ⟨x, rfl, r1⟩ := r.one
  exact ⟨φ, S, d, x, rs, rfl, r1, q⟩
theorem rBl_two {K : PySem.W.Frag} {b : Blt} {xs : List V} {H : Hp} {Q : VK} (h : rBl K b xs H Q) (k : ∀ ds S, bltEv b ds S ≠ none → ∃ d e, ds = [d, e]) :
    ∃ φ S d e x y, Rs K φ S H ∧ xs = [x, y] ∧ Rv K φ H x d ∧ Rv K φ H y e ∧ OV K φ S H (bltEv b [d, e] S) Q := by
  obtain ⟨φ, S, ds, rs, r, q⟩ := h
  obtain ⟨d, e, rfl⟩ := k ds S fun e => by rw [e] at q; exact q
  obtain ⟨x, y, rfl, r1, r2⟩ := r.two
  exact ⟨φ, S, d, e, x, y, rs, rfl, r1, r2, q⟩
theorem OV.none {K : PySem.W.Frag} {φ : Phi} {S : Store} {H : Hp} {Q : VK} {o : Option D} {C : Prop} (q : OV K φ S H o Q) (e : o = none) : C := by
  subst e
  exact False.elim q
theorem z_len : CallR X (.builtin "len") (rBl X.K .len) := by
  refine CallR.imp (CallR.or (call_len_seq (X := X)) (call_len_str (X := X))) fun xs H Q h => ?_
  obtain ⟨φ, S, d, x, rs, rfl, r, q⟩ := rBl_one h fun ds S h => match ds, h with
    | [d], _ => ⟨d, rfl⟩
    | [], h => absurd rfl h
    | _ :: _ :: _, h => absurd rfl h
  have q' : OV X.K φ S H (lenEv S d) Q := q
  unfold lenEv at q'
  cases e : seqOf S d with
  | some es =>
    simp only [e] at q'
    obtain ⟨p, ys, rfl, hq, rr⟩ := seqOf_at rs r e
    rw [← rr.len] at q'
    exact .inl ⟨p, ys, rfl, hq, OV.same q' rs (.int _)⟩
  | none =>
    simp only [e] at q'
    cases r with
    | str z =>
      by_cases hz : z.length ≤ sizeLine
      · simp only [if_pos hz] at q'
        exact .inr ⟨z, rfl, hz, OV.same q' rs (.int _)⟩
      · simp only [if_neg hz] at q'
        exact OV.none q' rfl
    | _ => exact OV.none q' rfl
theorem z_abs : CallR X (.builtin "abs") (rBl X.K .abs) := by
  refine CallR.imp (call_abs (X := X)) fun xs H Q h => ?_
  obtain ⟨φ, S, d, x, rs, rfl, r, q⟩ := rBl_one h fun ds S h => match ds, h with
    | [d], _ => ⟨d, rfl⟩
    | [], h => absurd rfl h
    | _ :: _ :: _, h => absurd rfl h
  cases r with
  | int i => exact ⟨i, rfl, OV.same q rs (.int _)⟩
  | _ => exact OV.none q rfl
theorem z_int : CallR X (.type "int") (rBl X.K .int) := by
  refine CallR.imp (call_int1 (X := X)) fun xs H Q h => ?_
  obtain ⟨φ, S, d, x, rs, rfl, r, q⟩ := rBl_one h fun ds S h => match ds, h with
    | [d], _ => ⟨d, rfl⟩
    | [], h => absurd rfl h
    | _ :: _ :: _, h => absurd rfl h
  cases r with
  | int i => exact .inl ⟨i, rfl, OV.same q rs (.int _)⟩
  | bl i => exact .inr ⟨i, rfl, OV.same q rs (.int _)⟩
  | _ => exact OV.none q rfl
theorem z_str : CallR X (.type "str") (rBl X.K .str) := by
  refine CallR.imp (call_str_int (X := X)) fun xs H Q h => ?_
  obtain ⟨φ, S, d, x, rs, rfl, r, q⟩ := rBl_one h fun ds S h => match ds, h with
    | [d], _ => ⟨d, rfl⟩
    | [], h => absurd rfl h
    | _ :: _ :: _, h => absurd rfl h
  cases r with
  | int i =>
    have q' : OV X.K φ S H (if i.natAbs.log2 < 1920 then some (.str (toString i)) else none) Q := q
    by_cases hz : i.natAbs.log2 < 1920
    · rw [if_pos hz] at q'
      exact ⟨i, rfl, hz, OV.same q' rs (.str _)⟩
    · rw [if_neg hz] at q'
      exact OV.none q' rfl
  | _ => exact OV.none q rfl
theorem z_tuple : CallR X (.type "tuple") (rBl X.K .tuple) := by
  refine CallR.imp (call_tuple_of (X := X)) fun xs H Q h => ?_
  obtain ⟨φ, S, d, x, rs, rfl, r, q⟩ := rBl_one h fun ds S h => match ds, h with
    | [d], _ => ⟨d, rfl⟩
    | [], h => absurd rfl h
    | _ :: _ :: _, h => absurd rfl h
  have q' : OV X.K φ S H ((seqOf S d).map .tup) Q := q
  cases r with
  | tup t r =>
    have q2 : OV X.K φ S H (some (.tup _)) Q := q'
    exact ⟨_, _, rfl, .inr ⟨t.sq, OV.same q2 rs (.tup t r)⟩⟩
  | lst h1 h2 h3 =>
    have q2 : OV X.K φ S H (some (.tup _)) Q := q'
    exact ⟨_, _, rfl, .inl ⟨SqL.of h1, fun l hl => OV.new q2 rs h3 hl⟩⟩
  | scr h1 h3 =>
    have q2 : OV X.K φ S H (some (.tup _)) Q := q'
    exact ⟨_, _, rfl, .inl ⟨h1.sq, fun l hl => OV.new q2 rs h3 hl⟩⟩
  | ref h1 h2 =>
    rename_i a i o
    cases e : seqL S (.ref i) with
    | none =>
      rw [show seqOf S (.ref i) = seqL S (.ref i) from rfl, e] at q'
      exact OV.none q' rfl
    | some es =>
      rw [show seqOf S (.ref i) = seqL S (.ref i) from rfl, e] at q'
      obtain ⟨p, ys, e1, hq, rr⟩ := seqL_at rs (.ref h1 h2) e
      cases e1
      exact ⟨_, _, rfl, .inl ⟨SqL.of hq, fun l hl => OV.new q' rs rr hl⟩⟩
  | _ => exact OV.none q' rfl
theorem z_list : CallR X (.type "list") (rBl X.K .list) := by
  refine CallR.imp (call_list_of (X := X)) fun xs H Q h => ?_
  obtain ⟨φ, S, d, x, rs, rfl, r, q⟩ := rBl_one h fun ds S h => match ds, h with
    | [d], _ => ⟨d, rfl⟩
    | [], h => absurd rfl h
    | _ :: _ :: _, h => absurd rfl h
  have q' : OV X.K φ S H ((seqOf S d).map .lst) Q := q
  cases e : seqOf S d with
  | none => rw [e] at q'; exact OV.none q' rfl
  | some es =>
    rw [e] at q'
    obtain ⟨p, ys, rfl, hq, rr⟩ := seqOf_at rs r e
    exact ⟨p, ys, rfl, hq, fun l hl => OV.newL q' rs rr hl⟩
theorem bls_at {K : PySem.W.Frag} {φ : Phi} {S : Store} {H : Hp} {v : V} {d : D} {bs : List Bool} (rs : Rs K φ S H) (r : Rv K φ H v d) (h : (seqL S d).bind bls? = some bs) : ∃ a, v = .ref a ∧ SqL K H a (bs.map V.bl) := by
  cases e : seqL S d with
  | none => rw [e] at h; cases h
  | some ds =>
    rw [e] at h
    obtain ⟨a, xs, rfl, h1, r1⟩ := seqL_at rs r e
    rw [← r1.bls (show bls? ds = some bs from h)]
    exact ⟨a, rfl, SqL.of h1⟩
theorem ints_at {K : PySem.W.Frag} {φ : Phi} {S : Store} {H : Hp} {v : V} {d : D} {bs : List Int} (rs : Rs K φ S H) (r : Rv K φ H v d) (h : (seqL S d).bind ints? = some bs) : ∃ a, v = .ref a ∧ SqL K H a (bs.map V.int) := by
  cases e : seqL S d with
  | none => rw [e] at h; cases h
  | some ds =>
    rw [e] at h
    obtain ⟨a, xs, rfl, h1, r1⟩ := seqL_at rs r e
    rw [← r1.ints (show ints? ds = some bs from h)]
    exact ⟨a, rfl, SqL.of h1⟩
theorem z_all (hc : X.calm = true) : CallR X (.builtin "all") (rBl X.K .all) := by
  refine CallR.imp (cr_all (X := X) hc) fun xs H Q h => ?_
  obtain ⟨φ, S, d, x, rs, rfl, r, q⟩ := rBl_one h fun ds S h => match ds, h with
    | [d], _ => ⟨d, rfl⟩
    | [], h => absurd rfl h
    | _ :: _ :: _, h => absurd rfl h
  have q' : OV X.K φ S H (((seqL S d).bind bls?).map fun bs => .bl (bs.all id)) Q := q
  cases e : (seqL S d).bind bls? with
  | none => rw [e] at q'; exact OV.none q' rfl
  | some bs =>
    rw [e] at q'
    obtain ⟨a, rfl, hb⟩ := bls_at rs r e
    exact ⟨a, bs, rfl, hb, OV.same q' rs (.bl _)⟩
theorem z_any (hc : X.calm = true) : CallR X (.builtin "any") (rBl X.K .any) := by
  refine CallR.imp (cr_any (X := X) hc) fun xs H Q h => ?_
  obtain ⟨φ, S, d, x, rs, rfl, r, q⟩ := rBl_one h fun ds S h => match ds, h with
    | [d], _ => ⟨d, rfl⟩
    | [], h => absurd rfl h
    | _ :: _ :: _, h => absurd rfl h
  have q' : OV X.K φ S H (((seqL S d).bind bls?).map fun bs => .bl (bs.any id)) Q := q
  cases e : (seqL S d).bind bls? with
  | none => rw [e] at q'; exact OV.none q' rfl
  | some bs =>
    rw [e] at q'
    obtain ⟨a, rfl, hb⟩ := bls_at rs r e
    exact ⟨a, bs, rfl, hb, OV.same q' rs (.bl _)⟩
theorem z_sum (hc : X.calm = true) : CallR X (.builtin "sum") (rBl X.K .sum) := by
  refine CallR.imp (cr_sum (X := X) hc) fun xs H Q h => ?_
  obtain ⟨φ, S, d, x, rs, rfl, r, q⟩ := rBl_one h fun ds S h => match ds, h with
    | [d], _ => ⟨d, rfl⟩
    | [], h => absurd rfl h
    | _ :: _ :: _, h => absurd rfl h
  have q' : OV X.K φ S H (((seqL S d).bind ints?).map fun ns => .int ns.sum) Q := q
  cases e : (seqL S d).bind ints? with
  | none => rw [e] at q'; exact OV.none q' rfl
  | some bs =>
    rw [e] at q'
    obtain ⟨a, rfl, hb⟩ := ints_at rs r e
    exact ⟨a, bs, rfl, hb, OV.same q' rs (.int _)⟩
theorem z_sorted (hc : X.calm = true) : CallR X (.builtin "sorted") (rBl X.K .sorted) := by
  refine CallR.imp (CallR.or (call_sortedDI (X := X) hc) (cr_sortedI (X := X))) fun xs H Q h => ?_
  obtain ⟨φ, S, d, x, rs, rfl, r, q⟩ := rBl_one h fun ds S h => match ds, h with
    | [d], _ => ⟨d, rfl⟩
    | [], h => absurd rfl h
    | _ :: _ :: _, h => absurd rfl h
  have q' : OV X.K φ S H (match dkOf S d with
    | some kvs => (keysI kvs).bind fun ks => if ks.length < 64 then some (.lst ((sortI ks).map .int)) else none
    | none => ((seqL S d).bind ints?).map fun ns => .lst ((sortI ns).map .int)) Q := q
  have hint : ∀ (H : Hp) (ns : List Int), Rvs X.K φ H (ns.map V.int) (ns.map D.int) := fun H ns => by
    induction ns with
    | nil => exact .nil
    | cons n ns ih => exact .cons (.int n) ih
  cases e : dkOf S d with
  | some kvs =>
    simp only [e] at q'
    cases e2 : keysI kvs with
    | none => simp only [e2] at q'; exact OV.none q' rfl
    | some ks =>
      simp only [e2, Option.bind_some] at q'
      by_cases hl : ks.length < 64
      · rw [if_pos hl] at q'
        obtain ⟨p, w, zs, rfl, rfl, q1, q2, q3, q4, q5⟩ := dk_at rs r e
        refine .inl ⟨w, zs, ks, rfl, .inl q3, by rw [q4, keysI_at e2], hl, fun ys l p1 s1 hl => ?_⟩
        rw [sort_uniq p1 s1]
        exact OV.newL q' rs (hint H _) hl
      · rw [if_neg hl] at q'
        exact OV.none q' rfl
  | none =>
    simp only [e] at q'
    cases e2 : (seqL S d).bind ints? with
    | none => rw [e2] at q'; exact OV.none q' rfl
    | some ns =>
      rw [e2] at q'
      obtain ⟨a, rfl, hb⟩ := ints_at rs r e2
      refine .inr ⟨a, ns, rfl, hb, fun ys l p1 s1 hl => ?_⟩
      rw [sort_uniq p1 s1]
      exact OV.newL q' rs (hint H _) hl
theorem z_min (hc : X.calm = true) : CallR X (.builtin "min") (rBl X.K .min) := by
  refine CallR.imp (call_min2 (X := X) hc) fun xs H Q h => ?_
  obtain ⟨φ, S, d, e, x, y, rs, rfl, r1, r2, q⟩ := rBl_two h fun ds S h => match ds, h with
    | [d, e], _ => ⟨d, e, rfl⟩
    | [], h => absurd rfl h
    | [_], h => absurd rfl h
    | _ :: _ :: _ :: _, h => absurd rfl h
  cases r1 with
  | int i =>
    cases r2 with
    | int j => exact ⟨i, j, rfl, OV.same q rs (.int _)⟩
    | _ => exact OV.none q rfl
  | _ => exact OV.none q rfl
theorem z_max (hc : X.calm = true) : CallR X (.builtin "max") (rBl X.K .max) := by
  refine CallR.imp (call_max2 (X := X) hc) fun xs H Q h => ?_
  obtain ⟨φ, S, d, e, x, y, rs, rfl, r1, r2, q⟩ := rBl_two h fun ds S h => match ds, h with
    | [d, e], _ => ⟨d, e, rfl⟩
    | [], h => absurd rfl h
    | [_], h => absurd rfl h
    | _ :: _ :: _ :: _, h => absurd rfl h
  cases r1 with
  | int i =>
    cases r2 with
    | int j => exact ⟨i, j, rfl, OV.same q rs (.int _)⟩
    | _ => exact OV.none q rfl
  | _ => exact OV.none q rfl
/-! ### isinstance -/
def tyName : Ty → String
  | .int => "int"
  | .bool => "bool"
  | .str => "str"
  | .tup => "tuple"
  | .lst => "list"
  | .dict => "dict"
  | .own _ => ""
/-- the type's name of a thing -/
def tyOfD (S : Store) : D → Option String
  | .non => some "NoneType"
  | .bl _ => some "bool"
  | .int _ => some "int"
  | .str _ => some "str"
  | .tup _ => some "tuple"
  | .lst _ => some "list"
  | .scr _ => some "list"
  | .edic => some "dict"
  | .ref i => match S[i]? with
    | some (.lst _) => some "list"
    | some (.dk _) => some "dict"
    | some (.dt _) => some "dict"
    | _ => none
  | .exc _ _ => none
theorem tyOf_at {K : PySem.W.Frag} {φ : Phi} {S : Store} {H : Hp} {v : V} {d : D} {n : String} (rs : Rs K φ S H) (r : Rv K φ H v d) (h : tyOfD S d = some n) : TyX K H v (.type n) := by
  cases r with
  | non => cases h; exact .base .non
  | bl b => cases h; exact .base (.bl b)
  | int b => cases h; exact .base (.int b)
  | str b => cases h; exact .base (.str b)
  | tup t _ =>
    cases h
    rcases t with ⟨h1, _⟩ | ⟨o, its, n, h1, h2, _⟩
    · exact .base (.tup h1)
    · exact .kTuple h1 h2
  | lst h1 _ _ => cases h; exact .base (.lst h1)
  | scr h1 _ =>
    cases h
    rcases h1 with ⟨⟨o, h1⟩, _⟩ | ⟨o, its, n, h1, h2, _⟩
    · exact .base (.frz h1)
    · exact .kList h1 h2
  | edic h1 _ => cases h; exact .base (.dK h1)
  | exc _ _ _ => cases h
  | ref h1 h2 =>
    rename_i a i o
    unfold tyOfD at h
    cases e : S[i]? with
    | none => simp [e] at h
    | some c =>
      have rc := rs.cell i c e
      rw [h1] at rc
      cases c with
      | lst es =>
        simp [e] at h
        subst h
        obtain ⟨b, xs, e1, e2, _⟩ := rc
        cases e1
        rcases h2 with h2 | h2 <;> cases h2
        exact .base (.lst e2)
      | dk es =>
        simp [e] at h
        subst h
        obtain ⟨b, xs, e1, e2, _⟩ := rc
        cases e1
        rcases h2 with h2 | h2 <;> cases h2
        exact .base (.dK e2)
      | dt es =>
        simp [e] at h
        subst h
        obtain ⟨b, xs, e1, e2, _⟩ := rc
        cases e1
        rcases h2 with h2 | h2 <;> cases h2
        exact .base (.dT e2)
      | gone => simp [e] at h
theorem isi_tab {t : Ty} {n : String} (hn : n = "NoneType" ∨ n = "bool" ∨ n = "int" ∨ n = "str" ∨ n = "tuple" ∨ n = "list" ∨ n = "dict") (ht : ∀ c, t ≠ .own c) :
    kitB n (tyName t) = some (n == tyName t || (n == "bool" && tyName t == "int")) := by
  cases t with
  | own c => exact absurd rfl (ht c)
  | _ => rcases hn with h | h | h | h | h | h | h <;> subst h <;> decide +kernel
theorem isiEv_at {d : D} {t : Ty} {S : Store} {b : Bool} (ho : ∀ c, t ≠ .own c) (h : isiEv d t S = some b) :
    (∀ c, t ≠ .own c) ∧ ∃ n, tyOfD S d = some n ∧ (n = "NoneType" ∨ n = "bool" ∨ n = "int" ∨ n = "str" ∨ n = "tuple" ∨ n = "list" ∨ n = "dict") ∧ b = (n == tyName t || (n == "bool" && tyName t == "int")) := by
  have ht := ho
  refine ⟨ht, ?_⟩
  cases d with
  | ref i =>
    unfold tyOfD
    cases e : S[i]? with
    | none => cases t <;> (unfold isiEv at h; simp [e] at h)
    | some c =>
      cases c with
      | lst es => refine ⟨"list", by simp [e], by simp, ?_⟩; cases t <;> (unfold isiEv at h; simp [e] at h; try (subst h; decide +kernel))
      | dk es => refine ⟨"dict", by simp [e], by simp, ?_⟩; cases t <;> (unfold isiEv at h; simp [e] at h; try (subst h; decide +kernel))
      | dt es => refine ⟨"dict", by simp [e], by simp, ?_⟩; cases t <;> (unfold isiEv at h; simp [e] at h; try (subst h; decide +kernel))
      | gone => cases t <;> (unfold isiEv at h; simp [e] at h)
  | exc c a => cases t <;> first | exact absurd rfl (ho _) | (unfold isiEv at h; cases h)
  | non => exact ⟨"NoneType", rfl, by simp, by cases t <;> first | exact absurd rfl (ho _) | (unfold isiEv at h; cases h; decide +kernel)⟩
  | bl _ => exact ⟨"bool", rfl, by simp, by cases t <;> first | exact absurd rfl (ho _) | (unfold isiEv at h; cases h; decide +kernel)⟩
  | int _ => exact ⟨"int", rfl, by simp, by cases t <;> first | exact absurd rfl (ho _) | (unfold isiEv at h; cases h; decide +kernel)⟩
  | str _ => exact ⟨"str", rfl, by simp, by cases t <;> first | exact absurd rfl (ho _) | (unfold isiEv at h; cases h; decide +kernel)⟩
  | tup _ => exact ⟨"tuple", rfl, by simp, by cases t <;> first | exact absurd rfl (ho _) | (unfold isiEv at h; cases h; decide +kernel)⟩
  | lst _ => exact ⟨"list", rfl, by simp, by cases t <;> first | exact absurd rfl (ho _) | (unfold isiEv at h; cases h; decide +kernel)⟩
  | scr _ => exact ⟨"list", rfl, by simp, by cases t <;> first | exact absurd rfl (ho _) | (unfold isiEv at h; cases h; decide +kernel)⟩
  | edic => exact ⟨"dict", rfl, by simp, by cases t <;> first | exact absurd rfl (ho _) | (unfold isiEv at h; cases h; decide +kernel)⟩
def rIsiZ (K : PySem.W.Frag) (t : Ty) : List V → Hp → VK → Prop := fun xs H Q => ∃ φ S d x b, Rs K φ S H ∧ xs = [x, .ty (tyName t)] ∧ Rv K φ H x d ∧ isiEv d t S = some b ∧ Q (.bl b) H
theorem z_isi (t : Ty) (ho : ∀ c, t ≠ .own c) : CallR X (.builtin "isinstance") (rIsiZ X.K t) := by
  refine CallR.imp (call_isi (X := X)) fun xs H Q ⟨φ, S, d, x, b, rs, e, r, hb, q⟩ => ?_
  obtain ⟨ht, n, h1, h2, h3⟩ := isiEv_at ho hb
  subst h3
  exact ⟨x, .ty (tyName t), .type n, .type (tyName t), _, e, .ty _, tyOf_at rs r h1, kit_ty (isi_tab h2 ht), q⟩
/-! ### stores -/
def rSetZ (K : PySem.W.Frag) : TSet := fun o i v H Q => ∃ φ S a b c, Rs K φ S H ∧ Rv K φ H o a ∧ Rv K φ H i b ∧ Rv K φ H v c ∧ (match setEv a b c S with
  | some S' => ∀ H', Ext φ H φ H' → Rs K φ S' H' → Q H'
  | none => False)
theorem cell_at {K : PySem.W.Frag} {φ : Phi} {S : Store} {H : Hp} {v : V} {p : Nat} {ds : List D} (rs : Rs K φ S H) (r : Rv K φ H v (.ref p)) (e : S[p]? = some (.lst ds)) :
    ∃ a xs, v = .ref a ∧ φ.c[p]? = some (some a) ∧ H a = some (.lst xs) ∧ Rvs K φ H xs ds := by
  cases r with
  | ref h1 h2 =>
    obtain ⟨b, xs, e1, e2, e3⟩ := rs.cell p _ e
    rw [h1] at e1
    cases e1
    rcases h2 with h2 | h2 <;> cases h2
    exact ⟨_, xs, rfl, h1, e2, e3⟩
theorem set_dk (hu : X.A.units + 1 < cLine) : PSet X (fun o i v H Q => ∃ a kvs k, o = .ref a ∧ H a = some (.dK kvs) ∧ i = kV k ∧ kvs.length < sizeLine ∧ Q (upd H a (.dK (putK kvs k v)))) := by
  intro pins s σ H o i v ov iv u Q I ro ri rv q
  obtain ⟨a, kvs, k, rfl, e, rfl, hl, q⟩ := q
  cases ro
  exact d_setItem hu I (DPut.k e hl) ri rv fun s' I' => ⟨_, I', q⟩
theorem PSet.or {t t' : TSet} (h : PSet X t) (h' : PSet X t') : PSet X (fun o i v H Q => t o i v H Q ∨ t' o i v H Q) := fun pins s σ H o i v ov iv u Q I ro ri rv q => by
  rcases q with q | q
  · exact h pins s σ H o i v ov iv u Q I ro ri rv q
  · exact h' pins s σ H o i v ov iv u Q I ro ri rv q
theorem z_set (hu : X.A.units + 1 < cLine) : PSet X (rSetZ X.K) := by
  intro pins s σ H o i v ov iv u Q I ro ri rv q
  obtain ⟨φ, S, a, b, c, rs, ra, rb, rc, q⟩ := q
  refine (PSet.or (set_list (X := X)) (set_dk hu)) pins s σ H o i v ov iv u Q I ro ri rv ?_
  unfold setEv at q
  cases a <;> first | (exact q.elim) | skip
  rename_i p
  cases e : S[p]? with
  | none => simp only [e] at q
  | some cl =>
    cases cl with
    | lst ds =>
      simp only [e] at q
      cases b <;> first | (exact q.elim) | skip
      rename_i k
      cases rb
      cases e2 : ixN ds.length k with
      | none => simp only [e2, Option.map_none] at q
      | some j =>
        simp only [e2, Option.map_some] at q
        obtain ⟨x, xs, rfl, h1, h2, h3⟩ := cell_at rs ra e
        refine .inl ⟨x, xs, k, j, rfl, rfl, h2, by rw [h3.len]; exact e2, q _ (Ext.write rs h1) (rs.write h1 ⟨x, _, rfl, upd_same, ?_⟩)⟩
        exact (h3.set rc j).ext (Ext.write rs h1)
    | dk kvs =>
      simp only [e] at q
      cases e2 : keyOf b with
      | none => simp only [e2, Option.bind_none] at q
      | some k =>
        simp only [e2, Option.bind_some] at q
        by_cases hl : kvs.length < sizeLine
        · rw [if_pos hl] at q
          obtain ⟨p', w, xs, e3, rfl, q1, q2, q3, q4, q5⟩ := dk_at (kvs := kvs) rs ra (by unfold dkOf; simp [e])
          cases e3
          have hlen : xs.length = kvs.length := by simpa using congrArg List.length q4
          obtain ⟨m1, m2⟩ := put_at (k := k) (rc.ext (Ext.write rs q2)) q4 (q5.ext (Ext.write (o := .dK (putK xs k v)) rs q2))
          exact .inr ⟨w, xs, k, rfl, q3, key_at rb e2, by rw [hlen]; exact hl, q _ (Ext.write rs q2) (rs.write q2 ⟨w, _, rfl, upd_same, m1, m2⟩)⟩
        · rw [if_neg hl] at q
          exact q.elim
    | _ => simp only [e] at q
def rMt (K : PySem.W.Frag) (m : Mth) : V → List V → Hp → VK → Prop := fun x xs H Q => ∃ φ S a ds, Rs K φ S H ∧ Rv K φ H x a ∧ Rvs K φ H xs ds ∧ (match mthEv m a ds S with
  | some (d, S') => ∀ v H', Ext φ H φ H' → Rs K φ S' H' → Rv K φ H' v d → Q v H'
  | none => False)
theorem MtR.imp {id : String} {r r' : V → List V → Hp → VK → Prop} (h : MtR X id r) (k : ∀ x xs H Q, r' x xs H Q → r x xs H Q) : MtR X id r' := fun pins s σ H x xs v us Q I rx rxs q => h pins s σ H x xs v us Q I rx rxs (k _ _ _ _ q)
theorem mth_ref {m : Mth} {a : D} {ds : List D} {S : Store} (hm : m ≠ .cat ∧ m ≠ .count ∧ m ≠ .index) (h : mthEv m a ds S ≠ none) : ∃ p es, a = .ref p ∧ S[p]? = some (.lst es) := by
  unfold mthEv at h
  split at h <;> first | exact absurd rfl hm.1 | exact absurd rfl hm.2.1 | exact absurd rfl hm.2.2 | (split at h <;> first | (exact ⟨_, _, rfl, by assumption⟩) | exact absurd rfl h) | exact absurd rfl h
theorem rMt_ref {K : PySem.W.Frag} {m : Mth} {x : V} {xs : List V} {H : Hp} {Q : VK} (h : rMt K m x xs H Q) (hm : m ≠ .cat ∧ m ≠ .count ∧ m ≠ .index := by refine ⟨?_, ?_, ?_⟩ <;> intro z <;> cases z) : ∃ φ S p a ds es ys, Rs K φ S H ∧ x = .ref a ∧ S[p]? = some (.lst es) ∧ φ.c[p]? = some (some a) ∧ H a = some (.lst ys) ∧ Rvs K φ H ys es ∧ Rvs K φ H xs ds ∧
    ∃ d S', mthEv m (.ref p) ds S = some (d, S') ∧ ∀ v H', Ext φ H φ H' → Rs K φ S' H' → Rv K φ H' v d → Q v H' := by
  obtain ⟨φ, S, a, ds, rs, ra, r, q⟩ := h
  cases e : mthEv m a ds S with
  | none => rw [e] at q; exact q.elim
  | some o =>
    obtain ⟨d, S'⟩ := o
    obtain ⟨p, es, rfl, e2⟩ := mth_ref hm (by rw [e]; exact fun z => nomatch z)
    rw [e] at q
    obtain ⟨w, ys, rfl, h1, h2, h3⟩ := cell_at rs ra e2
    exact ⟨φ, S, p, w, ds, es, ys, rs, rfl, e2, h1, h2, h3, r, d, S', e, q⟩
theorem z_append : MtR X "list.append" (rMt X.K .append) := by
  refine MtR.imp (X := X) mt_append fun x xs H Q h => ?_
  obtain ⟨φ, S, p, a, ds, es, ys, rs, rfl, e, h1, h2, h3, r, d, S', e2, q⟩ := rMt_ref h
  match ds, r, e2 with
  | [y], r0, e2 =>
    obtain ⟨w, rfl, r1⟩ := Rvs.one r0
    have e3 : (match S[p]? with
      | some (.lst ds) => if ds.length < sizeLine then some (D.non, S.set p (.lst (ds ++ [y]))) else none
      | _ => none) = some (d, S') := e2
    rw [e] at e3
    dsimp only at e3
    by_cases hz : es.length < sizeLine
    · rw [if_pos hz] at e3
      cases e3
      refine ⟨a, ys, w, rfl, rfl, h2, by rw [h3.len]; exact hz, q _ _ (Ext.write rs h1) (rs.write h1 ⟨a, _, rfl, upd_same, ?_⟩) .non⟩
      exact (h3.app (.cons r1 .nil)).ext (Ext.write rs h1)
    · rw [if_neg hz] at e3
      cases e3
  | [], _, e2 => cases e2
  | _ :: _ :: _, _, e2 => cases e2
theorem z_reverse : MtR X "list.reverse" (rMt X.K .reverse) := by
  refine MtR.imp (X := X) mt_reverse fun x xs H Q h => ?_
  obtain ⟨φ, S, p, a, ds, es, ys, rs, rfl, e, h1, h2, h3, r, d, S', e2, q⟩ := rMt_ref h
  match ds, r, e2 with
  | [], r0, e2 =>
    cases r0
    have e3 : (match S[p]? with
      | some (.lst ds) => some (D.non, S.set p (.lst ds.reverse))
      | _ => none) = some (d, S') := e2
    rw [e] at e3
    cases e3
    refine ⟨a, ys, rfl, rfl, h2, q _ _ (Ext.write rs h1) (rs.write h1 ⟨a, _, rfl, upd_same, ?_⟩) .non⟩
    exact h3.rev.ext (Ext.write rs h1)
  | _ :: _, _, e2 => cases e2
theorem z_pop : MtR X "list.pop" (rMt X.K .pop) := by
  refine MtR.imp (X := X) mt_pop fun x xs H Q h => ?_
  obtain ⟨φ, S, p, a, ds, es, ys, rs, rfl, e, h1, h2, h3, r, d, S', e2, q⟩ := rMt_ref h
  match ds, r, e2 with
  | [], r0, e2 =>
    cases r0
    have e3 : (match S[p]? with
      | some (.lst ds) => (ds[ds.length - 1]?).map fun y => (y, S.set p (.lst ds.dropLast))
      | _ => none) = some (d, S') := e2
    rw [e] at e3
    dsimp only at e3
    cases e4 : es[es.length - 1]? with
    | none => rw [e4] at e3; cases e3
    | some y =>
      rw [e4] at e3
      cases e3
      obtain ⟨w, hw, rw'⟩ := h3.get e4
      refine ⟨a, ys, w, rfl, rfl, h2, by rw [h3.len]; exact hw, q _ _ (Ext.write rs h1) (rs.write h1 ⟨a, _, rfl, upd_same, ?_⟩) (rw'.ext (Ext.write rs h1))⟩
      exact h3.dropLast.ext (Ext.write rs h1)
  | _ :: _, _, e2 => cases e2
/-- xs.insert(i, y) -/
theorem z_insert : MtR X "list.insert" (rMt X.K .insert) := by
  refine MtR.imp (X := X) mt_insert fun x xs H Q h => ?_
  obtain ⟨φ, S, p, a, ds, es, ys, rs, rfl, e, h1, h2, h3, r, d, S', e2, q⟩ := rMt_ref h
  match ds, r, e2 with
  | [.int i, y], .cons ri r0, e2 =>
    obtain ⟨w, rfl, r1⟩ := Rvs.one r0
    cases ri
    have e3 : (match S[p]? with
      | some (.lst ds) => if ds.length < sizeLine ∧ 0 ≤ i ∧ i < 2 ^ 63 then some (D.non, S.set p (.lst (ds.take i.toNat ++ [y] ++ ds.drop i.toNat))) else none
      | _ => none) = some (d, S') := e2
    rw [e] at e3
    dsimp only at e3
    by_cases hz : es.length < sizeLine ∧ 0 ≤ i ∧ i < 2 ^ 63
    · rw [if_pos hz] at e3
      cases e3
      refine ⟨a, ys, i, w, rfl, rfl, h2, by rw [h3.len]; exact hz.1, hz.2.1, hz.2.2, q _ _ (Ext.write rs h1) (rs.write h1 ⟨a, _, rfl, upd_same, ?_⟩) .non⟩
      exact (((h3.take i.toNat).app (.cons r1 .nil)).app (h3.drop i.toNat)).ext (Ext.write rs h1)
    · rw [if_neg hz] at e3
      cases e3
  | [], _, e2 => cases e2
  | [d], _, e2 => cases d <;> cases e2
  | .non :: _ :: _, _, e2 => cases e2
  | .bl _ :: _ :: _, _, e2 => cases e2
  | .str _ :: _ :: _, _, e2 => cases e2
  | .tup _ :: _ :: _, _, e2 => cases e2
  | .lst _ :: _ :: _, _, e2 => cases e2
  | .scr _ :: _ :: _, _, e2 => cases e2
  | .edic :: _ :: _, _, e2 => cases e2
  | .ref _ :: _ :: _, _, e2 => cases e2
  | .exc _ _ :: _ :: _, _, e2 => cases e2
  | .int _ :: _ :: _ :: _, _, e2 => cases e2
theorem mth_bl1 {m : Mth} (hm : m = .count ∨ m = .index) {a : D} {ds : List D} {S : Store} {q : D × Store} (h : mthEv m a ds S = some q) : ∃ b, ds = [.bl b] := by
  rcases hm with rfl | rfl
  · match ds, h with
    | [.bl b], _ => exact ⟨b, rfl⟩
    | [], h => cases h
    | [.non], h => cases h
    | [.int _], h => cases h
    | [.str _], h => cases h
    | [.tup _], h => cases h
    | [.lst _], h => cases h
    | [.scr _], h => cases h
    | [.edic], h => cases h
    | [.ref _], h => cases h
    | [.exc _ _], h => cases h
    | d :: _ :: _, h => cases d <;> cases h
  · match ds, h with
    | [.bl b], _ => exact ⟨b, rfl⟩
    | [], h => cases h
    | [.non], h => cases h
    | [.int _], h => cases h
    | [.str _], h => cases h
    | [.tup _], h => cases h
    | [.lst _], h => cases h
    | [.scr _], h => cases h
    | [.edic], h => cases h
    | [.ref _], h => cases h
    | [.exc _ _], h => cases h
    | d :: _ :: _, h => cases d <;> cases h
theorem mth_bls {m : Mth} (hm : m = .count ∨ m = .index) {a : D} {ds : List D} {S : Store} {d : D} {S' : Store} (h : mthEv m a ds S = some (d, S')) : ∃ b xs bs, ds = [.bl b] ∧ seqL S a = some xs ∧ bls? xs = some bs ∧ S' = S ∧
    ((m = .count ∧ d = .int ((bs.filter (· == b)).length : Nat)) ∨ ∃ j, m = .index ∧ bs.findIdx? (· == b) = some j ∧ d = .int (j : Nat)) := by
  obtain ⟨b, rfl⟩ := mth_bl1 hm h
  rcases hm with rfl | rfl
  · have h : (match (seqL S a).bind bls? with
      | some bs => some (D.int ((bs.filter (· == b)).length : Nat), S)
      | none => none) = some (d, S') := h
    cases e1 : seqL S a with
    | none => rw [e1] at h; cases h
    | some xs =>
      cases e2 : bls? xs with
      | none => rw [e1, Option.bind_some, e2] at h; cases h
      | some bs =>
        rw [e1, Option.bind_some, e2] at h
        cases h
        exact ⟨b, xs, bs, rfl, rfl, e2, rfl, .inl ⟨rfl, rfl⟩⟩
  · have h : (match (seqL S a).bind bls? with
      | some bs => (bs.findIdx? (· == b)).map fun j : Nat => (D.int (j : Nat), S)
      | none => none) = some (d, S') := h
    cases e1 : seqL S a with
    | none => rw [e1] at h; cases h
    | some xs =>
      cases e2 : bls? xs with
      | none => rw [e1, Option.bind_some, e2] at h; cases h
      | some bs =>
        rw [e1, Option.bind_some, e2] at h
        cases e3 : bs.findIdx? (· == b) with
        | none => simp only [e3] at h; cases h
        | some j =>
          simp only [e3] at h
          cases h
          exact ⟨b, xs, bs, rfl, rfl, e2, rfl, .inr ⟨j, rfl, e3, rfl⟩⟩
theorem rMt_bls {K : PySem.W.Frag} {m : Mth} {x : V} {xs : List V} {H : Hp} {Q : VK} (h : rMt K m x xs H Q) (hm : m = .count ∨ m = .index) : ∃ (a : Addr) (b : Bool) (bs : List Bool), x = .ref a ∧ xs = [.bl b] ∧ SqL K H a (bs.map V.bl) ∧
    ((m = .count ∧ Q (.int ((bs.filter (· == b)).length : Nat)) H) ∨ ∃ j, m = .index ∧ bs.findIdx? (· == b) = some j ∧ Q (.int (j : Nat)) H) := by
  obtain ⟨φ, S, a, ds, rs, ra, r, q⟩ := h
  cases e : mthEv m a ds S with
  | none => rw [e] at q; exact q.elim
  | some o =>
    obtain ⟨d, S'⟩ := o
    rw [e] at q
    obtain ⟨b, es, bs, rfl, h1, h2, rfl, h3⟩ := mth_bls hm e
    obtain ⟨w, ys, rfl, g1, g2⟩ := seqL_at rs ra h1
    have e4 := Rvs.bls g2 h2
    subst e4
    obtain ⟨u, rfl, ru⟩ := Rvs.one r
    cases ru
    refine ⟨w, b, bs, rfl, rfl, SqL.of g1, ?_⟩
    rcases h3 with ⟨h4, rfl⟩ | ⟨j, h4, h5, rfl⟩
    · exact .inl ⟨h4, q _ H (Ext.refl _ _) rs (.int _)⟩
    · exact .inr ⟨j, h4, h5, q _ H (Ext.refl _ _) rs (.int _)⟩
theorem flat_bls (bs : List Bool) : (bs.map V.bl).all flatV = true := by
  induction bs with
  | nil => rfl
  | cons b bs ih => rw [List.map_cons, List.all_cons, ih]; rfl
theorem z_index : MtR X "list.index" (rMt X.K .index) := by
  refine MtR.imp (X := X) mt_index fun x xs H Q h => ?_
  obtain ⟨a, b, bs, rfl, rfl, hs, h⟩ := rMt_bls h (.inr rfl)
  rcases h with ⟨h, _⟩ | ⟨j, _, hj, q⟩
  · cases h
  · obtain ⟨h1, h2, h3⟩ := List.findIdx?_eq_some_iff_getElem.mp hj
    have hb : bs[j] = b := by simpa using h2
    refine ⟨a, bs.map V.bl, .bl b, j, .bl b, rfl, rfl, hs, rfl, flat_bls bs, by rw [List.getElem?_map, List.getElem?_eq_getElem h1, hb]; rfl, by cases b <;> rfl, fun m z hm hz => ?_, q⟩
    have hl : m < bs.length := by omega
    rw [List.getElem?_map, List.getElem?_eq_getElem hl] at hz
    cases hz
    have h4 := h3 m hm
    generalize bs[m] = c at h4 ⊢
    cases c <;> cases b <;> first | rfl | exact absurd rfl h4
theorem z_count : MtR X "list.count" (rMt X.K .count) := by
  intro pins s σ H x xs v us Q I rx rxs h
  obtain ⟨a, b, bs, rfl, rfl, hs, h⟩ := rMt_bls h (.inl rfl)
  rcases h with ⟨_, q⟩ | ⟨j, h, _⟩
  · cases rx
    obtain ⟨u, rfl, ru⟩ := rxs.one
    obtain ⟨its, rv, hl, hlen⟩ := I.list hs
    have key : ∀ {bs : List Bool} {its : List Value}, Vals (bs.map V.bl) its → its = bs.map Value.bool := fun {bs} => by
      induction bs with
      | nil => intro its r; cases r; rfl
      | cons c bs ih =>
        intro its r
        cases r with
        | cons r1 r2 =>
          rw [List.map_cons, ih r2]
          cases r1
          rfl
    have e1 := key rv
    subst e1
    obtain ⟨⟨oc, od, oda, osl⟩, n, ho, hc, hdn, hd⟩ := hl
    simp only at hc hd
    subst hc hd
    have rb : RelV (V.bl b) u := ru
    cases ru
    have cnt : ∀ cs : List Bool, (cs.map Value.bool).countP (eqU (.bl b)) = (cs.filter (· == b)).length := fun cs => by
      induction cs with
      | nil => rfl
      | cons c cs ih =>
        rw [List.map_cons, List.countP_cons, ih, List.filter_cons]
        cases c <;> cases b <;> simp [eqU, eqV]
    have fin : EP X pins σ Q (.int (((bs.map Value.bool).toArray.toList.countP (eqU (.bl b)) : Nat) : Int) s.toks) { s with toks := s.toks + 1 } := by
      have e2 : (bs.map Value.bool).toArray.toList.countP (eqU (.bl b)) = (bs.filter (· == b)).length := cnt bs
      rw [e2]
      exact ⟨.int ((bs.filter (· == b)).length : Nat), H, I.tok _, ⟨s.toks, rfl⟩, q⟩
    have all : ∀ y ∈ (bs.map Value.bool).toArray, SeqAt.EqAt X.A.in1 s y (Value.bool b) (eqU (.bl b) y) := fun y hy => mem_eqAt rb rfl rv (flat_bls bs) y (by simpa using hy)
    exact call_meets PySem.F.slot_list_count ⟨_, ho, rfl⟩ PySem.F.entry_list_count (PySem.F.args_list_count_2 _ _)
      (SeqAt.list_countAt a (bs.map Value.bool).toArray n od osl (.bool b) (eqU (.bl b))) ⟨ho, all, fin⟩
  · cases h
end
end Z

/-! Z, part R: t[::-1] of tuples. -/
namespace Z
theorem fmap_congr0 {α β : Type} {f g : α → Option β} : ∀ {l : List α}, (∀ x ∈ l, f x = g x) → l.filterMap f = l.filterMap g
  | [], _ => rfl
  | x :: xs, h => by
    rw [List.filterMap_cons, List.filterMap_cons, h x List.mem_cons_self, fmap_congr0 (l := xs) fun y hy => h y (List.mem_cons_of_mem _ hy)]
end Z
namespace HT
open PySem PySem.Spec PyProof.Rows
section
variable {prog : Program} {w : World} {A : Around} {E : Value → Shared → Prop} {s : Shared}
theorem zrev_applied {sl : Addr} {vs : Value} {n : Nat} {Q : Int × Int × Nat → Shared → Prop} (hs : s.heap.IsSliceOf sl .none .none vs) (ps : IsPart vs (some (-1)))
    (h : Q ((n : Int) - 1, -1, n) s) : wpAny (model prog w) A (Builtin.Slice.sliceApplied (.ref sl) (pure (n : Int))) Q E s := by
  obtain ⟨os, hos, hcs, hds⟩ := id hs
  unfold Builtin.Slice.sliceApplied Builtin.Slice.sliceFields
  refine wpAny_bind (wpAny_bind (wpAny_field hos hds (x := .none) rfl (wpAny_bind (wpAny_field hos hds (x := .none) rfl (wpAny_bind (wpAny_field hos hds (x := vs) rfl (wpAny_pure ?_)))))))
  refine wpAny_bind (slicePart_ ps ?_)
  show wpAny _ _ (if ((-1 : Int) == 0) = true then _ else _) _ _ s
  rw [if_neg (by decide)]
  refine wpAny_bind (slicePart_none (wpAny_bind (slicePart_none (wpAny_bind (wpAny_pure ?_)))))
  show wpAny _ _ (match Builtin.Slice.sliceAdjust none none (-1) (n : Int) with | (lo, hi) => pure (lo, (-1 : Int), Builtin.Slice.slicePlaces lo hi (-1))) _ _ s
  have e : Builtin.Slice.sliceAdjust none none (-1) (n : Int) = ((n : Int) - 1, -1) := by
    unfold Builtin.Slice.sliceAdjust
    simp
  rw [e]
  show wpAny _ _ (pure ((n : Int) - 1, (-1 : Int), Builtin.Slice.slicePlaces ((n : Int) - 1) (-1) (-1))) _ _ s
  have e2 : Builtin.Slice.slicePlaces ((n : Int) - 1) (-1) (-1) = n := by
    unfold Builtin.Slice.slicePlaces
    have h1 : ¬ ((-1 : Int) > 0) := by decide
    simp only [h1, if_false]
    by_cases hn : n = 0
    · subst hn; rfl
    · have h2 : (n : Int) - 1 > -1 := by omega
      simp only [h2, if_true, show (- -1 : Int) = 1 by decide, Int.ediv_one]
      omega
  rw [e2]
  exact wpAny_pure h
theorem zrev_pick (xs : Array Value) : ((List.range xs.size).filterMap fun (k : Nat) => xs[((xs.size : Int) - 1 + (k : Int) * -1).toNat]?).toArray = xs.toList.reverse.toArray := by
  apply congrArg
  apply List.ext_getElem?
  intro i
  have e : ((List.range xs.size).filterMap fun (k : Nat) => xs[((xs.size : Int) - 1 + (k : Int) * -1).toNat]?) = (List.range xs.size).map fun k => xs.toList.reverse.getD k .none := by
    rw [← List.filterMap_eq_map]
    apply Z.fmap_congr0
    intro k hk
    have hk := List.mem_range.mp hk
    have e1 : ((xs.size : Int) - 1 + (k : Int) * -1).toNat = xs.size - 1 - k := by omega
    rw [e1]
    have hl : k < xs.toList.reverse.length := by simpa using hk
    simp only [Function.comp]
    rw [List.getD_eq_getElem?_getD, List.getElem?_eq_getElem hl, Array.getElem?_eq_getElem (by omega)]
    simp
  rw [e]
  by_cases hi : i < xs.size
  · rw [List.getElem?_map, List.getElem?_range hi]
    have hl : i < xs.toList.reverse.length := by simpa using hi
    simp only [Option.map_some]
    rw [List.getD_eq_getElem?_getD, List.getElem?_eq_getElem hl]
    rfl
  · rw [List.getElem?_eq_none (by simp; omega), List.getElem?_eq_none (by simp; omega)]
theorem zrev_get {t sl : Addr} {items : Array Value} {vs : Value} {Q : Value → Shared → Prop} (ht : IsTup s.heap t items) (hs : s.heap.IsSliceOf sl .none .none vs) (ps : IsPart vs (some (-1)))
    (h : Q (.ref s.heap.objs.size) { s with heap := s.heap.push { cls := .type "tuple", data := .seq items.toList.reverse.toArray } })
    (hsz : items.size ≤ sizeLine) : wpAny (model prog w) A (getItem (.ref t) (.ref sl)) Q E s := by
  have hok : sizeOk (.seq items.toList.reverse.toArray) := by
    show items.toList.reverse.toArray.size ≤ sizeLine
    simpa using hsz
  obtain ⟨os, hos, hcs, hds⟩ := id hs
  have hTs : s.TypeIs (.ref sl) "slice" := ⟨os, hos, hcs⟩
  unfold getItem
  try with_reducible refine wpAny_holding ?_
  first | refine wpAny_bind (wpAny_pure ?_) | skip
  refine wpAny_bind (wpAny_sequenceKey ht.typeIs (by decide) ?_)
  refine wpAny_bind (wpAny_callSpecial?_slot (name := Str.ofString "__getitem__") ht.typeIs PyProof.Rows.slot_tuple_getitem
    (wpAny_call_entry PyProof.Rows.slot_tuple_getitem ht.typeIs entry_tuple_getitem ?_ (args_tuple_getitem _ _)))
  show wpAny _ _ (Builtin.Tuple.tupleItemsOf (.ref t) >>= _) _ _ s
  refine wpAny_bind (tupleItemsOf_ ht ?_)
  refine wpAny_bind (wpAny_typeOf hTs ?_)
  rw [if_pos (by decide)]
  refine wpAny_bind (zrev_applied hs ps ?_)
  have hno : ¬ ((((items.size : Int) - 1) == 0 && (-1 : Int) == 1 && items.size == items.size) = true) := by
    have e : ((-1 : Int) == 1) = false := by decide
    rw [e]
    simp
  show wpAny _ _ (if ((((items.size : Int) - 1) == 0 && (-1 : Int) == 1 && items.size == items.size) = true) then _ else _) _ _ s
  rw [if_neg hno, zrev_pick]
  first
    | exact wpAny_bind (m := Builtin.Tuple.tupleExact _) (wpAny_newObj_type (wpAny_pure ⟨_, rfl, wpAny_pure h⟩) hok)
    | exact wpAny_bind (m := Builtin.Tuple.tupleExact _) (wpAny_newObj_type (wpAny_bind (wpAny_pure (wpAny_pure ⟨_, rfl, wpAny_pure h⟩))) hok)
    | exact wpAny_bind (wpAny_bind (m := Builtin.Tuple.tupleExact _) (wpAny_newObj_type (wpAny_pure (wpAny_pure ⟨_, rfl, wpAny_pure h⟩)) hok))
    | exact wpAny_bind (wpAny_bind (m := Builtin.Tuple.tupleExact _) (wpAny_newObj_type (wpAny_pure ⟨_, rfl, wpAny_pure h⟩) hok))
end
end HT
namespace Z
open PySem PySem.Spec PyProof.Rows L2
section
variable {X : Cx}
def tRevZ (K : PySem.W.Frag) (te : TE) : TE := fun σ H Q => te σ H fun x H1 => ∃ a xs, x = .ref a ∧ ((SqL K H1 a xs ∧ ∀ p, H1 p = none → Q (.ref p) (upd H1 p (.lst xs.reverse))) ∨ (SqT K H1 a xs ∧ ∀ p, H1 p = none → Q (.ref p) (upd H1 p (.tup xs.reverse))))
theorem pe_revZ {e : Expr} {te : TE} {k : Nat} {p1 p2 p3 pos : Pos} (he : PE X e te) : PE X (.Subscript e (.Slice none none (some (.UnaryOp .USub (.Constant (.int 1) k p1) p2)) p3) pos) (tRevZ X.K te) := by
  refine ⟨fun pins s σ H Q I h => ?_⟩
  refine Subscript_ (thn (he.run pins s σ H _ I h) fun v s1 ⟨x, H1, I1, r1, q1⟩ => ?_)
  obtain ⟨a, xs, ex, q⟩ := q1
  subst ex
  cases r1
  have hst : PO X (some (.UnaryOp .USub (.Constant (.int 1) k p1) p2)) (tPart (tUn (rU fun i => .int (-i)) (tC (.int 1)))) := po_some (pe_un un_neg pe_int)
  refine wpAny_Slice (thn (po_none.run pins s1 σ H1 (fun o H2 => o = none ∧ H2 = H1) I1 ⟨rfl, rfl⟩) fun vl s2 ⟨l, H2, I2, pl, el, e2⟩ => ?_)
  subst el e2
  refine thn (po_none.run pins s2 σ H2 (fun o H3 => o = none ∧ H3 = H2) I2 ⟨rfl, rfl⟩) fun vu s3 ⟨u, H3, I3, pu, eu, e3⟩ => ?_
  subst eu e3
  refine thn (hst.run pins s3 σ H3 (fun o H4 => o = some (-1) ∧ H4 = H3) I3 ⟨1, rfl, -1, rfl, rfl, rfl⟩) fun vs s4 ⟨o, H4, I4, ps, eo, e4⟩ => ?_
  subst eo e4
  have I5 : Inv X pins σ H4 { s4 with heap := s4.heap.push { cls := .type "slice", data := .fields #[vl, vu, vs] } } := I4.kept (t' := s4.toks) fun b ob q => Heap.get?_push_of_some _ q
  show wpAny (model X.prog X.w) X.A (subscriptTail e (.Slice none none (some (.UnaryOp .USub (.Constant (.int 1) k p1) p2)) p3) (.ref a) (.ref s4.heap.objs.size)) (EP X pins σ Q) X.xe { s4 with heap := s4.heap.push { cls := .type "slice", data := .fields #[vl, vu, vs] } }
  rcases q with ⟨hx, q⟩ | ⟨hx, q⟩
  · obtain ⟨its, r, ht, hz⟩ := I5.list hx
    have hlen := r.length
    refine tail_any (ops := [.ref a, .ref s4.heap.objs.size]) ht.isList.typeIs (PySem.slot_list_getitem.lookup) ?_ (by with_unfolding_all rfl)
    refine wpAny_getItem_list_slice ht.isList (Heap.IsSliceOf.new _ vl vu vs) pl pu ps (by decide) ?_ (by rw [List.size_toArray]; omega)
    rw [PySem.W.krv_pick]
    refine ⟨.ref _, _, I5.laid (t' := s4.toks) (o := .lst xs.reverse) (fun b ob q => Heap.get?_push_of_some _ q) (Nat.le_refl _) ?_, rfl, q _ (I5.hok.fresh (Nat.le_refl _))⟩
    exact ⟨by rw [List.length_reverse]; exact hz, _, 0, r.reverse, Heap.get?_push_size _ rfl⟩
  · obtain ⟨its, r, ht, hz⟩ := I5.tuple hx
    have hlen := r.length
    cases pl
    cases pu
    refine tail_any (ops := [.ref a, .ref s4.heap.objs.size]) ht.typeIs (PyProof.Rows.slot_tuple_getitem.lookup) ?_ (by with_unfolding_all rfl)
    refine HT.zrev_get ht (Heap.IsSliceOf.new _ .none .none vs) ps ?_ (by rw [List.size_toArray]; omega)
    refine ⟨.ref _, _, I5.laid (t' := s4.toks) (o := .tup xs.reverse) (fun b ob q => Heap.get?_push_of_some _ q) (Nat.le_refl _) ?_, rfl, q _ (I5.hok.fresh (Nat.le_refl _))⟩
    exact ⟨by rw [List.length_reverse]; exact hz, _, r.reverse, IsTup.new _ _⟩
end
end Z

/-! Z, part E: the constructs of expressions. -/
namespace Z
open PySem PySem.Spec PyProof.Rows L2
section
variable {X : Cx} {ec : Nat → Value} {F : Fn} {W : WX} {a b c e : Expr} {es rest : List Expr} {ca cb cc ce : CE} {pos : Pos}
theorem out_ok {K : PySem.W.Frag} {σ : St} {φ : Phi} {S : Store} {H : Hp} {d : D} {v : V} {Q : VK} (h : OutG (Rv K) K ec W σ φ H (.ok d S) Q) (rs : Rs K φ S H) (r : Rv K φ H v d) : Q v H := h φ v H (Ext.refl _ _) rs r
theorem g_var {i : Nat} {x : Str} (hN : X.N[i]? = some x) (hv : Vis X.env.scope x) (hd : (x == ("__debug__" : Str)) = false) (hcd : (x == ("__classdict__" : Str)) = false) : GE X ec F W (.Name x pos) (.var i) := by
  refine PE.imp (pe_var hN hv hd hcd) fun σ H Q ⟨φ, δ, S, rs, re, h⟩ => ?_
  unfold ev at h
  cases e : δ[i]? with
  | none => simp only [e] at h; exact h.elim
  | some o =>
    cases o with
    | none => simp only [e] at h; exact h.elim
    | some d =>
      simp only [e] at h
      obtain ⟨v, h1, h2⟩ := re.2 i d e
      exact ⟨v, h1, out_ok h rs h2⟩
theorem ev_con (d : D) (δ : Env) (S : Store) : ev F (.con d) δ S = .ok d S := by unfold ev; rfl
theorem g_int {i j} : GE X ec F W (.Constant (.int i) j pos) (.con (.int i)) := PE.imp pe_int fun _ _ _ ⟨_, _, _, rs, _, h⟩ => out_ok (by rw [ev_con] at h; exact h) rs (.int i)
theorem g_bl {i j} : GE X ec F W (.Constant (.bool i) j pos) (.con (.bl i)) := PE.imp pe_bl fun _ _ _ ⟨_, _, _, rs, _, h⟩ => out_ok (by rw [ev_con] at h; exact h) rs (.bl i)
theorem g_str {i j} : GE X ec F W (.Constant (.str i) j pos) (.con (.str i)) := PE.imp pe_str fun _ _ _ ⟨_, _, _, rs, _, h⟩ => out_ok (by rw [ev_con] at h; exact h) rs (.str i)
theorem g_non {j} : GE X ec F W (.Constant .none j pos) (.con .non) := PE.imp pe_non fun _ _ _ ⟨_, _, _, rs, _, h⟩ => out_ok (by rw [ev_con] at h; exact h) rs .non
/-- a constant of the module -/
theorem g_glob {x : Str} {d : D} {u : Value} {v : V} (hg : Gl X x) (hm : X.mg x = some u) (r : RelV v u) (hd : (x == ("__debug__" : Str)) = false) (k : ∀ φ H, Rv X.K φ H v d) : GE X ec F W (.Name x pos) (.con d) :=
  PE.imp (pe_glob hg hm r hd) fun _ _ _ ⟨_, _, _, rs, _, h⟩ => out_ok (by rw [ev_con] at h; exact h) rs (k _ _)
/-! ### several -/
theorem g_nil : GA X ec F W [] .nil := PA.imp pa_nil fun σ H Q ⟨φ, δ, S, rs, re, h⟩ => by
  unfold evs at h
  exact h φ [] H (Ext.refl _ _) rs .nil
theorem starEach_of (e : Expr) (es : List Expr) (env : PySem.Env) (h : ∀ x p, e ≠ .Starred x p) : starEach (e :: es) env = (false, eval e env) :: starEach es env := by
  cases e <;> first | rfl | exact absurd rfl (h _ _)
theorem g_cons (hs : ∀ x p, e ≠ .Starred x p) (he : GE X ec F W e ce) (hr : GA X ec F W es cb) : GA X ec F W (e :: es) (.cons ce cb) := by
  refine PA.imp (pa_cons he hr (starEach_of e es X.env hs)) fun σ H Q ⟨φ, δ, S, rs, re, h⟩ => ?_
  unfold evs at h
  refine ⟨φ, δ, S, rs, re, h.bind.mono fun v H1 ⟨φ1, x, S1, e1, rs1, r1, h1⟩ => ?_⟩
  refine ⟨φ1, δ, S1, rs1, re.ext e1, h1.bind.mono fun vs H2 ⟨φ2, xs, S2, e2, rs2, r2, h2⟩ => ?_⟩
  exact h2 φ2 (v :: vs) H2 (Ext.refl _ _) rs2 (.cons (r1.ext e2) r2)
theorem Rvs_size {K : PySem.W.Frag} {φ : Phi} {H : Hp} : True := trivial
/-- displays: of written items, few -/
def esLen : CE → Nat
  | .cons _ es => esLen es + 1
  | _ => 0
theorem evs_len : ∀ {c : CE} {δ : Env} {S : Store} {ds : List D} {S' : Store}, evs F c δ S = .ok ds S' → ds.length = esLen c
  | .nil, _, _, _, _, h => by
    unfold evs at h
    cases h
    rfl
  | .cons e es, δ, S, ds, S', h => by
    unfold evs at h
    cases h1 : ev F e δ S with
    | ok d S1 =>
      rw [h1, R.bind_ok] at h
      cases h2 : evs F es δ S1 with
      | ok d2 S2 =>
        rw [h2, R.bind_ok] at h
        cases h
        rw [List.length_cons, evs_len h2]
        rfl
      | exc c a S2 => rw [h2, R.bind_exc] at h; cases h
      | stuck => rw [h2, R.bind_stuck] at h; cases h
    | exc c a S2 => rw [h1, R.bind_exc] at h; cases h
    | stuck => rw [h1, R.bind_stuck] at h; cases h
  | .var _, _, _, _, _, h => by unfold evs at h; cases h
  | .con _, _, _, _, _, h => by unfold evs at h; cases h
  | .edic, _, _, _, _, h => by unfold evs at h; cases h
  | .one _, _, _, _, _, h => by unfold evs at h; cases h
  | .tup _, _, _, _, _, h => by unfold evs at h; cases h
  | .lst _, _, _, _, _, h => by unfold evs at h; cases h
  | .mlst _, _, _, _, _, h => by unfold evs at h; cases h
  | .mdk, _, _, _, _, h => by unfold evs at h; cases h
  | .mdt, _, _, _, _, h => by unfold evs at h; cases h
  | .bin _ _ _, _, _, _, _, h => by unfold evs at h; cases h
  | .neg _, _, _, _, _, h => by unfold evs at h; cases h
  | .cmp _ _ _, _, _, _, _, h => by unfold evs at h; cases h
  | .chain _ _ _ _ _, _, _, _, _, h => by unfold evs at h; cases h
  | .not _, _, _, _, _, h => by unfold evs at h; cases h
  | .and _ _, _, _, _, _, h => by unfold evs at h; cases h
  | .or _ _, _, _, _, _, h => by unfold evs at h; cases h
  | .ife _ _ _, _, _, _, _, h => by unfold evs at h; cases h
  | .idx _ _, _, _, _, _, h => by unfold evs at h; cases h
  | .sl _ _ _, _, _, _, _, h => by unfold evs at h; cases h
  | .rev _, _, _, _, _, h => by unfold evs at h; cases h
  | .call _ _, _, _, _, _, h => by unfold evs at h; cases h
  | .blt _ _, _, _, _, _, h => by unfold evs at h; cases h
  | .isi _ _, _, _, _, _, h => by unfold evs at h; cases h
  | .mth _ _ _, _, _, _, _, h => by unfold evs at h; cases h
  | .rng _ _, _, _, _, _, h => by unfold evs at h; cases h
  | .rgl _ _, _, _, _, _, h => by unfold evs at h; cases h
  | .setd _ _ _, _, _, _, _, h => by unfold evs at h; cases h
  | .comp _ _ _ _ _ _, _, _, _, _, h => by unfold evs at h; cases h
theorem small_of {n : Nat} (h : n ≤ 1000) : n ≤ sizeLine := by rw [sizeLine_eq]; omega
/-- .. with the length told -/
theorem GA.len (h : GA X ec F W es ca) : PA X es fun σ H Q => ∃ φ δ S, Rs X.K φ S H ∧ RE X.K φ H δ σ ∧ OutG (fun φ H vs ds => Rvs X.K φ H vs ds ∧ ds.length = esLen ca) X.K ec W σ φ H (evs F ca δ S) Q := by
  refine PA.imp h fun σ H Q ⟨φ, δ, S, rs, re, q⟩ => ⟨φ, δ, S, rs, re, ?_⟩
  cases e : evs F ca δ S with
  | ok ds S' =>
    rw [e] at q
    exact fun φ' v H' e' rs' r' => q φ' v H' e' rs' ⟨r', evs_len e⟩
  | exc c a S' => rw [e] at q; exact q
  | stuck => rw [e] at q; exact q
theorem g_tup {k} (hl : esLen ca ≤ 1000) (h : GA X ec F W es ca) : GE X ec F W (.Tuple es k pos) (.tup ca) := by
  refine PE.imp (pe_tup (GA.len h)) fun σ H Q ⟨φ, δ, S, rs, re, h⟩ => ?_
  unfold ev at h
  refine ⟨φ, δ, S, rs, re, h.bind.mono fun vs H1 ⟨φ1, xs, S1, e1, rs1, ⟨r1, l1⟩, h1⟩ => ⟨by rw [r1.len, l1]; exact small_of hl, fun p hp => ?_⟩⟩
  exact h1 φ1 _ _ (Ext.fresh hp) (rs1.fresh hp) (.tup (.inl ⟨upd_same, rs1.free hp⟩) (r1.ext (Ext.fresh hp)))
theorem g_lst (hl : esLen ca ≤ 1000) (h : GA X ec F W es ca) : GE X ec F W (.List es pos) (.lst ca) := by
  refine PE.imp (pe_lst (GA.len h)) fun σ H Q ⟨φ, δ, S, rs, re, h⟩ => ?_
  unfold ev at h
  refine ⟨φ, δ, S, rs, re, h.bind.mono fun vs H1 ⟨φ1, xs, S1, e1, rs1, ⟨r1, l1⟩, h1⟩ => ⟨by rw [r1.len, l1]; exact small_of hl, fun p hp => ?_⟩⟩
  exact h1 φ1 _ _ (Ext.fresh hp) (rs1.fresh hp) (.lst upd_same (rs1.free hp) (r1.ext (Ext.fresh hp)))
theorem g_mlst (hl : esLen ca ≤ 1000) (h : GA X ec F W es ca) : GE X ec F W (.List es pos) (.mlst ca) := by
  refine PE.imp (pe_lst (GA.len h)) fun σ H Q ⟨φ, δ, S, rs, re, h⟩ => ?_
  unfold ev at h
  refine ⟨φ, δ, S, rs, re, h.bind.mono fun vs H1 ⟨φ1, xs, S1, e1, rs1, ⟨r1, l1⟩, h1⟩ => ⟨by rw [r1.len, l1]; exact small_of hl, fun p hp => ?_⟩⟩
  refine h1 (φ1.add p) _ _ (Ext.alloc hp) (rs1.alloc hp ⟨p, vs, rfl, upd_same, r1.ext (Ext.alloc hp)⟩) (.ref (o := some p) ?_ (.inr rfl))
  show (φ1.c ++ [some p])[S1.length]? = _
  rw [← rs1.len, List.getElem?_append_right (Nat.le_refl _), Nat.sub_self]
  rfl
/-! ### operators -/
theorem rB_of {K : PySem.W.Frag} {σ : St} {φ : Phi} {H : Hp} {δ : Env} {S : Store} {Q : VK} {f : D → D → Store → Option D} (rs : Rs K φ S H) (re : RE K φ H δ σ)
    (h : OutG (Rv K) K ec W σ φ H ((ev F ca δ S).bind fun x S1 => (ev F cb δ S1).bind fun y S2 => R.opt (f x y S2) S2) Q) : tOp (rB K f) (rdE K ec F W ca) (rdE K ec F W cb) σ H Q := by
  refine ⟨φ, δ, S, rs, re, h.bind.mono fun v H1 ⟨φ1, x, S1, e1, rs1, r1, h1⟩ => ?_⟩
  refine ⟨φ1, δ, S1, rs1, re.ext e1, h1.bind.mono fun u H2 ⟨φ2, y, S2, e2, rs2, r2, h2⟩ => ?_⟩
  exact ⟨φ2, S2, x, y, rs2, r1.ext e2, r2, h2.ov⟩
theorem g_bin (hs : Seer X) (op : Bop) (ha : GE X ec F W a ca) (hb : GE X ec F W b cb) : GE X ec F W (.BinOp a (bopOp op) b pos) (.bin op ca cb) := by
  refine PE.imp (pe_op (z_bin hs op) ha hb) fun σ H Q ⟨φ, δ, S, rs, re, h⟩ => ?_
  unfold ev at h
  exact rB_of rs re h
/-- a sum of lists that will change -/
theorem g_cat (ha : GE X ec F W a ca) (hb : GE X ec F W b cb) : GE X ec F W (.BinOp a .Add b pos) (.mth .cat ca (.cons cb .nil)) := by
  refine PE.imp (pe_op op_cat ha hb) fun σ H Q ⟨φ, δ, S, rs, re, h⟩ => ?_
  unfold ev at h
  refine ⟨φ, δ, S, rs, re, h.bind.mono fun v H1 ⟨φ1, x, S1, e1, rs1, r1, h1⟩ => ?_⟩
  cases es : seqL S1 x with
  | none => simp only [es] at h1; exact (show False from h1).elim
  | some xs0 =>
    simp only [es] at h1
    have h1' : OutG (Rv X.K) X.K ec W σ φ1 H1 ((ev F cb δ S1).bind fun y S2 => R.opt2 (mthEv .cat x [y] S2)) Q := by
      cases e3 : ev F cb δ S1 with
      | ok d S3 =>
        have e4 : evs F (.cons cb .nil) δ S1 = .ok [d] S3 := by unfold evs; rw [e3, R.bind_ok]; unfold evs; rfl
        rw [e4] at h1
        exact h1
      | exc c2 d S3 =>
        have e4 : evs F (.cons cb .nil) δ S1 = .exc c2 d S3 := by unfold evs; rw [e3]; rfl
        rw [e4] at h1
        exact h1
      | stuck =>
        have e4 : evs F (.cons cb .nil) δ S1 = .stuck := by unfold evs; rw [e3]; rfl
        rw [e4] at h1
        exact h1
    refine ⟨φ1, δ, S1, rs1, re.ext e1, h1'.bind.mono fun u H2 ⟨φ2, y, S2, e2, rs2, r2, h2⟩ => ?_⟩
    have r3 := r1.ext e2
    cases q1 : seqL S2 x with
    | none => simp only [mthEv, q1] at h2; exact (show False from h2).elim
    | some xs =>
      cases q2 : seqL S2 y with
      | none => simp only [mthEv, q1, q2] at h2; exact (show False from h2).elim
      | some ys =>
        by_cases hz : xs.length + ys.length ≤ sizeLine
        · simp only [mthEv, q1, q2, if_pos hz] at h2
          obtain ⟨l, vs, rfl, g1, t1⟩ := seqL_at rs2 r3 q1
          obtain ⟨m, ws, rfl, g2, t2⟩ := seqL_at rs2 r2 q2
          have h3 : ∀ φ' v H', Ext φ2 H2 φ' H' → Rs X.K φ' (S2 ++ [.lst (xs ++ ys)]) H' → Rv X.K φ' H' v (.ref S2.length) → Q v H' := h2
          refine ⟨l, m, vs, ws, rfl, rfl, g1, g2, by rw [t1.len, t2.len]; exact hz, fun p hp => ?_⟩
          refine h3 (φ2.add p) _ _ (Ext.alloc hp) (rs2.alloc hp ⟨p, vs ++ ws, rfl, upd_same, (t1.app t2).ext (Ext.alloc hp)⟩) (.ref (o := some p) ?_ (.inr rfl))
          show (φ2.c ++ [some p])[S2.length]? = _
          rw [← rs2.len, List.getElem?_append_right (Nat.le_refl _), Nat.sub_self]
          rfl
        · simp only [mthEv, q1, q2, if_neg hz] at h2
          exact (show False from h2).elim
theorem g_cmp (hu : X.A.units + 65 < cLine) (op : Cop) (ha : GE X ec F W a ca) (hb : GE X ec F W b cb) (hm : behindInMarks (copOp op) b = false) : GE X ec F W (.Compare a [copOp op] [b] pos) (.cmp op ca cb) := by
  refine PE.imp (pe_cmpR (z_cmp hu op) ha hb hm) fun σ H Q ⟨φ, δ, S, rs, re, h⟩ => ?_
  unfold ev at h
  exact rB_of rs re h
theorem g_neg (ha : GE X ec F W a ca) : GE X ec F W (.UnaryOp .USub a pos) (.neg ca) := by
  refine PE.imp (pe_un un_neg ha) fun σ H Q ⟨φ, δ, S, rs, re, h⟩ => ?_
  unfold ev at h
  refine ⟨φ, δ, S, rs, re, h.bind.mono fun v H1 ⟨φ1, x, S1, e1, rs1, r1, h1⟩ => ?_⟩
  cases r1 with
  | int i => exact ⟨i, rfl, out_ok h1 rs1 (.int _)⟩
  | _ => exact h1.elim
theorem g_idx (hu : X.A.units + 65 < cLine) (hs : PlainIx b) (ha : GE X ec F W a ca) (hb : GE X ec F W b cb) : GE X ec F W (.Subscript a b pos) (.idx ca cb) := by
  refine PE.imp (pe_ix (z_ix (by omega)) ha hb hs) fun σ H Q ⟨φ, δ, S, rs, re, h⟩ => ?_
  unfold ev at h
  exact rB_of rs re h
theorem g_ife {t : Expr} {ct : CE} (ht : GT X ec F W t ct) (ha : GE X ec F W a ca) (hb : GE X ec F W b cb) : GE X ec F W (.IfExp t a b pos) (.ife ct ca cb) := by
  refine PE.imp (pe_ifExp ht ha hb) fun σ H Q ⟨φ, δ, S, rs, re, h⟩ => ?_
  unfold ev at h
  refine ⟨φ, δ, S, rs, re, fun d S' e => ?_, ?_⟩
  · rw [e, R.bind_ok] at h
    cases d with
    | bl b => exact ⟨b, rfl⟩
    | _ => exact h.elim
  · refine (OutG.bind (rel := relB) h).mono fun v H1 ⟨φ1, x, S1, e1, rs1, r1, h1⟩ => ?_
    cases r1
    cases v with
    | true => exact ⟨φ1, δ, S1, rs1, re.ext e1, h1⟩
    | false => exact ⟨φ1, δ, S1, rs1, re.ext e1, h1⟩
/-! ### tests -/
/-- a value that is a truth, as a test -/
theorem t_val (h : GE X ec F W e ce) (he : ∀ whole, isTrue e X.env whole = (do let v ← whole; standAt e.pos; holding [v] (truthy v))) : GT X ec F W e ce := by
  refine PT.imp (pt_val h he) fun σ H Q ⟨φ, δ, S, rs, re, hb, h⟩ => ⟨φ, δ, S, rs, re, ?_⟩
  cases e1 : ev F ce δ S with
  | ok d S' =>
    rw [e1] at h
    obtain ⟨b, rfl⟩ := hb d S' e1
    intro φ' v H' e' rs' r'
    cases r'
    exact ⟨b, rfl, h φ' b H' e' rs' rfl⟩
  | exc c a S' => rw [e1] at h; exact h
  | stuck => rw [e1] at h; exact h
theorem rdT_E {K : PySem.W.Frag} {c : CE} {σ : St} {H : Hp} {Q : Bool → Hp → Prop} (h : rdT K ec F W c σ H Q) : rdE K ec F W c σ H fun x H' => ∃ k, x = .bl k ∧ Q k H' := by
  obtain ⟨φ, δ, S, rs, re, hb, h⟩ := h
  refine ⟨φ, δ, S, rs, re, ?_⟩
  cases e1 : ev F c δ S with
  | ok d S' =>
    rw [e1] at h
    obtain ⟨b, rfl⟩ := hb d S' e1
    intro φ' v H' e' rs' r'
    cases r'
    exact ⟨b, rfl, h φ' b H' e' rs' rfl⟩
  | exc c a S' => rw [e1] at h; exact h
  | stuck => rw [e1] at h; exact h
theorem t_cmp (hu : X.A.units + 65 < cLine) (op : Cop) (ha : GE X ec F W a ca) (hb : GE X ec F W b cb) (hm : behindInMarks (copOp op) b = false) : GT X ec F W (.Compare a [copOp op] [b] pos) (.cmp op ca cb) := by
  refine PT.imp (pt_cmpR (z_cmp hu op) ha hb hm) fun σ H Q h => ?_
  obtain ⟨φ, δ, S, rs, re, h⟩ := rdT_E h
  unfold ev at h
  exact rB_of rs re h
theorem t_not (ha : GT X ec F W a ca) : GT X ec F W (.UnaryOp .Not a pos) (.not ca) := by
  refine PT.imp (pt_not ha) fun σ H Q ⟨φ, δ, S, rs, re, hb, h⟩ => ?_
  unfold ev at h
  refine ⟨φ, δ, S, rs, re, fun d S' e => ?_, ?_⟩
  · rw [e, R.bind_ok] at h
    cases d with
    | bl b => exact ⟨b, rfl⟩
    | _ => exact h.elim
  · refine (OutG.bind (rel := relB) h).mono fun v H1 ⟨φ1, x, S1, e1, rs1, r1, h1⟩ => ?_
    cases r1
    exact h1 φ1 _ H1 (Ext.refl _ _) rs1 rfl
theorem g_not (ha : GE X ec F W a ca) : GE X ec F W (.UnaryOp .Not a pos) (.not ca) := by
  refine PE.imp (pe_not ha) fun σ H Q ⟨φ, δ, S, rs, re, h⟩ => ?_
  unfold ev at h
  refine ⟨φ, δ, S, rs, re, h.bind.mono fun v H1 ⟨φ1, x, S1, e1, rs1, r1, h1⟩ => ?_⟩
  cases r1 with
  | bl b => exact ⟨b, rfl, out_ok h1 rs1 (.bl _)⟩
  | _ => exact h1.elim
/-- and, or as values: all but the last truths -/
theorem g_one {op} (ha : GE X ec F W a ca) : GE X ec F W (.BoolOp op [a] pos) ca := pe_one ha
theorem g_and (ha : GE X ec F W a ca) (hb : GE X ec F W (.BoolOp .And (b :: rest) pos) cb) : GE X ec F W (.BoolOp .And (a :: b :: rest) pos) (.and ca cb) := by
  refine PE.imp (pe_and ha hb) fun σ H Q ⟨φ, δ, S, rs, re, h⟩ => ?_
  unfold ev at h
  refine ⟨φ, δ, S, rs, re, h.bind.mono fun v H1 ⟨φ1, x, S1, e1, rs1, r1, h1⟩ => ?_⟩
  cases r1 with
  | bl b =>
    refine ⟨b, rfl, ?_⟩
    cases b with
    | true => exact ⟨φ1, δ, S1, rs1, re.ext e1, h1⟩
    | false => exact out_ok h1 rs1 (.bl _)
  | _ => exact h1.elim
theorem g_or (ha : GE X ec F W a ca) (hb : GE X ec F W (.BoolOp .Or (b :: rest) pos) cb) : GE X ec F W (.BoolOp .Or (a :: b :: rest) pos) (.or ca cb) := by
  refine PE.imp (pe_or ha hb) fun σ H Q ⟨φ, δ, S, rs, re, h⟩ => ?_
  unfold ev at h
  refine ⟨φ, δ, S, rs, re, h.bind.mono fun v H1 ⟨φ1, x, S1, e1, rs1, r1, h1⟩ => ?_⟩
  cases r1 with
  | bl b =>
    refine ⟨b, rfl, ?_⟩
    cases b with
    | false => exact ⟨φ1, δ, S1, rs1, re.ext e1, h1⟩
    | true => exact out_ok h1 rs1 (.bl _)
  | _ => exact h1.elim
/-- .. as tests, whatever the whole is -/
def GW (X : Cx) (ec : Nat → Value) (F : Fn) (W : WX) (e : Expr) (c : CE) : Prop := PW X e (rdT X.K ec F W c)
theorem w_and1 (ha : GT X ec F W a ca) : GW X ec F W (.BoolOp .And [a] pos) ca := pw_and1 ha
theorem w_or1 (ha : GT X ec F W a ca) : GW X ec F W (.BoolOp .Or [a] pos) ca := pw_or1 ha
theorem w_and (ha : GT X ec F W a ca) (hb : GW X ec F W (.BoolOp .And (b :: rest) pos) cb) : GW X ec F W (.BoolOp .And (a :: b :: rest) pos) (.and ca cb) := by
  refine PW.imp (pw_and ha hb) fun σ H Q ⟨φ, δ, S, rs, re, hq, h⟩ => ?_
  unfold ev at h hq
  refine ⟨φ, δ, S, rs, re, fun d S' e => ?_, ?_⟩
  · rw [e, R.bind_ok] at h
    cases d with
    | bl b => exact ⟨b, rfl⟩
    | _ => exact h.elim
  · cases e1 : ev F ca δ S with
    | ok x S1 =>
      rw [e1, R.bind_ok] at h hq
      intro φ1 v H1 e2 rs1 r1
      cases r1
      cases v with
      | true => exact ⟨φ1, δ, S1, rs1, re.ext e2, hq, OutG.ext e2 h⟩
      | false => exact h φ1 false H1 e2 rs1 rfl
    | exc c a S1 => rw [e1] at h; exact h
    | stuck => rw [e1] at h; exact h
theorem w_or (ha : GT X ec F W a ca) (hb : GW X ec F W (.BoolOp .Or (b :: rest) pos) cb) : GW X ec F W (.BoolOp .Or (a :: b :: rest) pos) (.or ca cb) := by
  refine PW.imp (pw_or ha hb) fun σ H Q ⟨φ, δ, S, rs, re, hq, h⟩ => ?_
  unfold ev at h hq
  refine ⟨φ, δ, S, rs, re, fun d S' e => ?_, ?_⟩
  · rw [e, R.bind_ok] at h
    cases d with
    | bl b => exact ⟨b, rfl⟩
    | _ => exact h.elim
  · cases e1 : ev F ca δ S with
    | ok x S1 =>
      rw [e1, R.bind_ok] at h hq
      intro φ1 v H1 e2 rs1 r1
      cases r1
      cases v with
      | false => exact ⟨φ1, δ, S1, rs1, re.ext e2, hq, OutG.ext e2 h⟩
      | true => exact h φ1 true H1 e2 rs1 rfl
    | exc c a S1 => rw [e1] at h; exact h
    | stuck => rw [e1] at h; exact h
theorem GW.t (h : GW X ec F W e ce) : GT X ec F W e ce := PW.pt h
/-! ### chains -/
theorem chain_of {K : PySem.W.Frag} {σ : St} {φ : Phi} {H : Hp} {δ : Env} {S : Store} {Q : VK} {o1 o2 : Cop} (rs : Rs K φ S H) (re : RE K φ H δ σ)
    (h : OutG (Rv K) K ec W σ φ H (ev F (.chain o1 o2 ca cb cc) δ S) Q) : tChain (rB K (cmpEv o1)) (rB K (cmpEv o2)) (rdE K ec F W ca) (rdE K ec F W cb) (rdE K ec F W cc) σ H Q := by
  unfold ev at h
  refine ⟨φ, δ, S, rs, re, h.bind.mono fun v H1 ⟨φ1, x, S1, e1, rs1, r1, h1⟩ => ?_⟩
  refine ⟨φ1, δ, S1, rs1, re.ext e1, h1.bind.mono fun u H2 ⟨φ2, y, S2, e2, rs2, r2, h2⟩ => ?_⟩
  refine ⟨φ2, S2, x, y, rs2, r1.ext e2, r2, ?_⟩
  unfold cmpEv
  cases ec1 : cmpB o1 x y S2 with
  | none => simp only [ec1] at h2; exact h2.elim
  | some k =>
    simp only [ec1] at h2
    intro w H3 e3 rs3 r3
    cases r3
    refine ⟨k, rfl, ?_⟩
    cases k with
    | false => exact h2 φ2 _ H3 e3 rs3 (.bl _)
    | true =>
      rw [if_pos rfl]
      refine ⟨φ2, δ, S2, rs3, (re.ext e1).ext (e2.trans e3), (OutG.ext e3 h2).bind.mono fun z H4 ⟨φ4, d4, S4, e4, rs4, r4, h4⟩ => ?_⟩
      exact ⟨φ4, S4, y, d4, rs4, r2.ext (e3.trans e4), r4, h4.ov⟩
theorem lastMarks2 {op op' : CmpOp} {b c : Expr} (h : behindInMarks op' c = false) : lastMarks [op, op'] [b, c] = false := h
theorem g_chain (hu : X.A.units + 65 < cLine) (o1 o2 : Cop) (ha : GE X ec F W a ca) (hb : GE X ec F W b cb) (hc : GE X ec F W c cc) (hm : behindInMarks (copOp o2) c = false) : GE X ec F W (.Compare a [copOp o1, copOp o2] [b, c] pos) (.chain o1 o2 ca cb cc) :=
  PE.imp (pe_chain (z_cmp hu o1) (z_cmp hu o2) ha hb hc (lastMarks2 hm)) fun σ H Q ⟨φ, δ, S, rs, re, h⟩ => chain_of rs re h
theorem t_chain (hu : X.A.units + 65 < cLine) (o1 o2 : Cop) (ha : GE X ec F W a ca) (hb : GE X ec F W b cb) (hc : GE X ec F W c cc) (hm : behindInMarks (copOp o2) c = false) : GT X ec F W (.Compare a [copOp o1, copOp o2] [b, c] pos) (.chain o1 o2 ca cb cc) :=
  PT.imp (pt_chain (z_cmp hu o1) (z_cmp hu o2) ha hb hc (lastMarks2 hm)) fun σ H Q h => by
    obtain ⟨φ, δ, S, rs, re, h⟩ := rdT_E h
    exact chain_of rs re h
/-! ### slices -/
def GO (X : Cx) (ec : Nat → Value) (F : Fn) (W : WX) (o : Option Expr) (c : CE) : Prop := PO X o fun σ H Q => ∃ φ δ S, Rs X.K φ S H ∧ RE X.K φ H δ σ ∧ OutG (fun _ _ o d => o = d) X.K ec W σ φ H (evo F c δ S) Q
theorem PO.imp {o : Option Expr} {t t' : TO} (h : PO X o t) (k : ∀ σ H Q, t' σ H Q → t σ H Q) : PO X o t' := ⟨fun pins s σ H Q I q => h.run pins s σ H Q I (k σ H Q q)⟩
theorem o_none : GO X ec F W none .nil := PO.imp po_none fun σ H Q ⟨φ, δ, S, rs, re, h⟩ => by
  unfold evo at h
  exact h φ none H (Ext.refl _ _) rs rfl
theorem o_some (h : GE X ec F W e ce) : GO X ec F W (some e) (.one ce) := PO.imp (po_some h) fun σ H Q ⟨φ, δ, S, rs, re, h⟩ => by
  unfold evo at h
  refine ⟨φ, δ, S, rs, re, h.bind.mono fun v H1 ⟨φ1, x, S1, e1, rs1, r1, h1⟩ => ?_⟩
  cases r1 with
  | int i => exact ⟨i, rfl, h1 φ1 _ H1 (Ext.refl _ _) rs1 rfl⟩
  | _ => exact h1.elim
theorem g_sl {lo hi : Option Expr} {cl ch : CE} {p2 : Pos} (ha : GE X ec F W a ca) (hl : GO X ec F W lo cl) (hh : GO X ec F W hi ch) : GE X ec F W (.Subscript a (.Slice lo hi none p2) pos) (.sl ca cl ch) := by
  refine PE.imp (pe_slice z_sl ha hl hh) fun σ H Q ⟨φ, δ, S, rs, re, h⟩ => ?_
  unfold ev at h
  refine ⟨φ, δ, S, rs, re, h.bind.mono fun v H1 ⟨φ1, x, S1, e1, rs1, r1, h1⟩ => ?_⟩
  refine ⟨φ1, δ, S1, rs1, re.ext e1, (OutG.bind (rel := fun _ _ o d => o = d) h1).mono fun l H2 ⟨φ2, l', S2, e2, rs2, r2, h2⟩ => ?_⟩
  subst r2
  refine ⟨φ2, δ, S2, rs2, (re.ext e1).ext e2, (OutG.bind (rel := fun _ _ o d => o = d) h2).mono fun u H3 ⟨φ3, u', S3, e3, rs3, r3, h3⟩ => ?_⟩
  subst r3
  exact ⟨φ3, S3, x, rs3, r1.ext (e2.trans e3), h3.ov⟩
theorem g_rev {k : Nat} {p1 p2 p3 : Pos} (ha : GE X ec F W a ca) : GE X ec F W (.Subscript a (.Slice none none (some (.UnaryOp .USub (.Constant (.int 1) k p1) p2)) p3) pos) (.rev ca) := by
  refine PE.imp (pe_revZ ha) fun σ H Q ⟨φ, δ, S, rs, re, h⟩ => ?_
  unfold ev at h
  refine ⟨φ, δ, S, rs, re, h.bind.mono fun x H1 ⟨φ1, d, S1, e1, rs1, r1, h1⟩ => ?_⟩
  have q := OutG.ov h1
  have lst : ∀ {b : D}, Rv X.K φ1 H1 x b → OV X.K φ1 S1 H1 ((seqL S1 b).map fun ds => .lst ds.reverse) Q → ∃ a xs, x = .ref a ∧ ((SqL X.K H1 a xs ∧ ∀ p, H1 p = none → Q (.ref p) (upd H1 p (.lst xs.reverse))) ∨ (SqT X.K H1 a xs ∧ ∀ p, H1 p = none → Q (.ref p) (upd H1 p (.tup xs.reverse)))) := fun {b} rb q => by
    cases e : seqL S1 b with
    | none => simp only [e] at q; exact q.elim
    | some ds =>
      simp only [e] at q
      obtain ⟨p, xs, rfl, hq, rr⟩ := seqL_at rs1 rb e
      exact ⟨p, xs, rfl, .inl ⟨SqL.of hq, fun l hl => OV.newL q rs1 rr.rev hl⟩⟩
  cases r1 with
  | tup t r => exact ⟨_, _, rfl, .inr ⟨t.sq, fun l hl => OV.new q rs1 r.rev hl⟩⟩
  | lst g1 g2 g3 => exact lst (.lst g1 g2 g3) q
  | ref g1 g2 => exact lst (.ref g1 g2) q
  | _ => exact q.elim
/-- {} that nobody changes -/
theorem g_edic : GE X ec F W (.Dict [] [] pos) .edic := PE.imp pe_dnewK fun σ H Q ⟨φ, δ, S, rs, re, h⟩ => by
  unfold ev at h
  exact fun p hp => h φ _ _ (Ext.fresh hp) (rs.fresh hp) (.edic upd_same (rs.free hp))
/-- {} that will change -/
theorem g_mdk : GE X ec F W (.Dict [] [] pos) .mdk := PE.imp pe_dnewK fun σ H Q ⟨φ, δ, S, rs, re, h⟩ => by
  unfold ev at h
  refine fun p hp => h (φ.add p) _ _ (Ext.alloc hp) (rs.alloc hp ⟨p, [], rfl, upd_same, rfl, .nil⟩) (.ref (o := some p) ?_ (.inr rfl))
  show (φ.c ++ [some p])[S.length]? = some (some p)
  rw [← rs.len, List.getElem?_append_right (Nat.le_refl _), Nat.sub_self]
  rfl
end
end Z

/-! Z, part W: exceptions as things: caught, kept, asked for their class; defs called where one is handled. -/
namespace Z
open PySem PySem.Spec PyProof.Rows L2 Classical
/-! ### isinstance of a caught exception -/
def rIsX (K : PySem.W.Frag) : List V → Hp → VK → Prop := fun xs H Q => ∃ (a C : Addr) (c : V) (cv : Value) (b : Bool), xs = [.ref a, c] ∧ H a = some (XO (.ref C) a) ∧ ExcC K C ∧ (∀ u, RelV c u → u = cv) ∧ PySem.W.kitOne K (.ref C) cv = some b ∧ Q (.bl b) H
theorem call_isX {X : Cx} : CallR X (.builtin "isinstance") (rIsX X.K) := by
  intro pins s σ H xs us Q I r h
  obtain ⟨a, C, c, cv, b, rfl, ha, hC, hcv, hk, q⟩ := h
  cases r with
  | cons r1 r =>
    cases r with
    | cons r2 r =>
      cases r
      have e1 := hcv _ r2
      subst e1
      cases r1
      obtain ⟨⟨oe, vs, g1, g2, g3, g4⟩, _, _⟩ := I.hok a _ ha
      have at' : PySem.W.InstAt s.heap a oe C none := by
        refine ⟨g1, g2, ?_, ?_⟩
        · unfold PySem.W.notCls
          rw [g4] <;> rfl
        · rw [g3]
          trivial
      exact PySem.W.kia_one (PySem.W.handS_kitx_exc hC.hg hC.hk hC.hs hC.hd hC.ha hC.hn hC.ht hC.hm) I.kIn at' hk (fun z => nomatch z)
        fun tk => ⟨V.bl b, H, Inv.kept (t' := tk) I fun _ _ z => z, rfl, q⟩
/-! ### it is kept -/
section
variable {X : Cx} {pins : List (Addr × Obj)} {σ : L2.St} {H : Hp} {sI s' : Shared} {B h4 : Heap} {a : Addr} {oe : Obj} {vs : Array Value} {cls : Value}
theorem xo_ok {P : Program} {w : World} {H : Hp} {h : Heap} (e : h.get? a = some oe) (c : oe.cls = cls) (d : oe.dict = none) (f : oe.data = .fields vs) : ObjOk P w H h a (XO cls a) :=
  ⟨⟨oe, vs, e, c, d, f⟩, ⟨oe, e⟩, fun _ _ ⟨o, v, q, r⟩ k => ⟨o, v, k o q, r⟩⟩
theorem adopt (J : Inv X pins σ H sI) (nb : ∀ b o, sI.heap.get? b = some o → b ∉ frs X.stack → B.get? b = some o) (st : B.StaysIn h4) (up : sI.heap.UpToSlots h4) (os : s'.os = sI.os) (ag : AllBare s'.gens)
    (hB : B.get? a = none) (nf : a ∉ frs X.stack) (he : h4.get? a = some oe) (hc : oe.cls = cls) (hd : oe.dict = none) (hf : oe.data = .fields vs) (na : H a = none) : Inv X pins σ (upd H a (XO cls a)) { s' with heap := h4 } := by
  obtain ⟨G, g1, g2⟩ := restrict h4 fun b => decide (b ≠ a)
  have gk : ∀ b, b ≠ a → G.get? b = h4.get? b := fun b hb => g1 b (decide_eq_true hb)
  have ga : G.get? a = none := g2 a (decide_eq_false fun z => z rfl)
  have gI : sI.heap.get? a = none := by
    cases q : sI.heap.get? a with
    | none => rfl
    | some o =>
      have z := nb a o q nf
      rw [hB] at z
      cases z
  have ne1 : ∀ b o, B.get? b = some o → b ≠ a := fun b o q z => by rw [z, hB] at q; cases q
  have ne2 : ∀ b o, sI.heap.get? b = some o → b ≠ a := fun b o q z => by rw [z, gI] at q; cases q
  have J1 : Inv X pins σ H { s' with heap := G } := J.landed nb (fun b o q => by rw [gk b (ne1 b o q)]; exact st b o q)
    (fun b o q hnf => by
      obtain ⟨sl, z⟩ := up b o q hnf
      exact ⟨sl, by rw [gk b (ne2 b o q)]; exact z⟩) os ag
  have gs : ∀ b o, G.get? b = some o → h4.get? b = some o := fun b o q => by
    by_cases hb : b = a
    · rw [hb, ga] at q
      cases q
    · rw [← gk b hb]
      exact q
  have J2 := Inv.laidN (s := { s' with heap := G }) (h' := h4) (t' := s'.toks) J1 gs ga na (xo_ok he hc hd hf)
  exact J2
end
/-! ### try: body, except x as n: suite, the exception a thing of ours -/
def wX (K : PySem.W.Frag) (c : Value) (i : Nat) (ts : TS) (Wout : WX) (D : Ends) : WX := fun cls d σ H =>
  ∃ b, PySem.W.exmOne K cls c = some b ∧ (b = true → d = none ∧ ∀ a, H a = none → ts { nx := fun σ' H' => D.nx (σ'.set i none) H', rt := D.rt, bk := fun σ' H' => D.bk (σ'.set i none) H', ct := fun σ' H' => D.ct (σ'.set i none) H' } (σ.set i (some (.ref a))) (upd H a (XO cls a))) ∧
    (b = false → Wout cls d σ H)
section
variable {X : Cx} {x n : Str} {c : Value} {i : Nat} {body suite : List Stmt} {b₀ : Stmt} {np pos pos' : Pos} {tb : WX → TS} {ts : TS} {Wout : WX}
theorem inv_suite {pins : List (Addr × Obj)} {σ : L2.St} {H : Hp} {s : Shared} (I : Inv X pins σ H s) (a : Addr) : Inv (X.suite a (X.pn ++ pins)) [] σ H s :=
  ⟨I.ok.suite _ _, I.os, I.bare, I.base, I.loc, I.cell, I.free, I.freeC, fun p hp => I.pin p (by simpa using hp), I.hok, I.len⟩
theorem inv_unsuite {pins : List (Addr × Obj)} {σ : L2.St} {H : Hp} {s : Shared} {a : Addr} (I : Inv (X.suite a (X.pn ++ pins)) [] σ H s) (ok : X.Ok) : Inv X pins σ H s :=
  ⟨ok, I.os, I.bare, I.base, I.loc, I.cell, I.free, I.freeC, fun p hp => I.pin p (by simpa using hp), I.hok, I.len⟩
theorem try_x (hs : X.stack = X.env :: X.outer) (hf : X.env.frame = some X.env.locals) (hN : X.N.Nodup) (hi : X.N[i]? = some n) (hln : X.env.kindOf n = some .local) (hc : Names X x c) (tk : L2N.Takes X Wout)
    (hb : ∀ (W : WX) (pn : List (Addr × Obj)) (xe : Value → Shared → Prop), L2N.Takes (X.tr pn xe) W → PassesOwn (model X.prog X.w) X.A X.env xe → PSs (X.tr pn xe) body (tb W))
    (hsu : ∀ (a : Addr) (pn : List (Addr × Obj)), PSs (X.suite a pn) (b₀ :: suite) ts) :
    PS X (.Try body [.ExceptHandler (some (.Name x np)) (some n) (b₀ :: suite) pos'] [] [] pos) (fun D σ H => tb (wX X.K c i ts Wout D) D σ H) := by
  refine ⟨fun pins s σ H D I h => wpAny_Try_except ?_⟩
  have ok := I.ok
  have fr : X.A.frames = some (X.env :: X.outer) := by rw [ok.frames, hs]
  let hd : List ExceptHandler := [.ExceptHandler (some (.Name x np)) (some n) (b₀ :: suite) pos']
  let xe' : Value → Shared → Prop := fun e s₁ => wpAny (model X.prog X.w) X.A (noteFrame e X.env) (fun _ s₂ =>
    wpAny (model X.prog X.w) X.A (setFlight e none) (fun _ s₃ => wpAny (model X.prog X.w) X.A (handleBy e X.env hd) (SP X pins D) X.xe s₃) X.xe s₂) X.xe s₁
  have caught : L2N.Takes (X.tr (X.pn ++ pins) xe') (wX X.K c i ts Wout D) := by
    rintro u s' ⟨a, B, sI, pins', σ1, H1, cls, d, rfl, J0, nb, up, sky, na, os, ag, b, hb1, hyes, hno⟩
    have J : Inv X pins σ1 H1 sI := Inv.ofTry J0 ok
    have sky1 : Sky B (X.env :: X.outer) a (L2N.Zn cls d) X.env.locals s'.heap := by
      rw [← hs]
      exact sky
    show wpAny (model X.prog X.w) X.A (noteFrame (.ref a) X.env) _ _ _
    refine L2N.Sky.land L2N.Zn.steady fr hf sky1 fun h3 fl3 up3 => ?_
    have J3 : Inv X pins σ1 H1 { s' with heap := h3 } := J.landed nb fl3.1 (Heap.UpToSlots.trans up up3) os ag
    obtain ⟨oe, vs, q1, q2, q3⟩ := fl3.there
    have nfr : a ∉ frs (X.env :: X.outer) := fun hm => by
      obtain ⟨_, o, e, hnf⟩ := fl3.2.2.1.mem hm
      rw [q1] at e
      cases e
      exact hnf _ q3
    refine wpAny_handleBy_cons (codeAny_handlers_test ?_) (by intro q; cases q)
    have LT : PySem.W.Looks (model X.prog X.w) h3 (typeOf (.ref a)) cls := fun A Q E s k q => wpAny_typeOf_ref (k _ _ q1) (by rw [q2.1]; exact q)
    have LM := PySem.W.exm_one (M := model X.prog X.w) J3.kIn LT hb1
    have S3 := inv_suite J3 a
    have named : ∀ {Q E : Value → Shared → Prop}, Q c { s' with heap := h3 } → wpAny (model X.prog X.w) (X.A.mark (some (.ref a))) (eval (.Name x np) X.env) Q E { s' with heap := h3 } := fun {Q E} q => by
      obtain ⟨hg, hdb, hm | ⟨hm, hv, hnn⟩⟩ := hc
      · exact ld_glob (X := X.suite a (X.pn ++ pins)) S3 hg hm q hdb
      · exact ld_blt (X := X.suite a (X.pn ++ pins)) S3 hg hm hv q hnn hdb
    refine named (LM.here ?_)
    cases b with
    | true =>
      obtain ⟨rfl, go⟩ := hyes rfl
      refine codeAny_handlers_suite_as (HandSPX.lands_againZ fl3 fun h4 fl4 up4 => ?_)
      obtain ⟨oe4, vs4, e1, e2, e3⟩ := fl4.there
      have J4 : Inv X pins σ1 (upd H1 a (XO cls a)) { s' with heap := h4 } :=
        adopt J nb fl4.1 (Heap.UpToSlots.trans (Heap.UpToSlots.trans up up3) up4) os ag fl4.2.1 (by rw [hs]; exact nfr) e1 e2.1 e2.2.1 e3 na
      refine store_ok (X := X.suite a (X.pn ++ pins)) (v := .ref a) (inv_suite J4 a) hN hi (.inl hln) rfl (fun s5 S5 => ?_) (.inr hln)
      have leave : ∀ {σ6 : L2.St} {H6 : Hp} {s6 : Shared} {Q : Shared → Prop}, Inv (X.suite a (X.pn ++ pins)) [] σ6 H6 s6 → (∀ s7, Inv X pins (σ6.set i none) H6 s7 → Q s7) →
          wpAny (model X.prog X.w) X.A (do bindName X.env n .none; unbindBehindTheSuite X.env n pos') (fun _ s7 => Q s7) X.xe s6 := fun S6 hq => gone_ok (inv_unsuite S6 ok) hN hi hln hq
      refine wpAny_mono ((hsu a (X.pn ++ pins)).run [] s5 _ _ _ S5 (go a na)) (fun f s6 r => ?_) (fun _ _ z => nomatch z)
      cases f with
      | ret u =>
        obtain ⟨v, σ6, H6, S6, r1, r2⟩ := r
        exact leave S6 fun s7 J7 => ⟨v, σ6.set i none, H6, J7, r1, r2⟩
      | next =>
        obtain ⟨σ6, H6, S6, r2⟩ := r
        exact leave S6 fun s7 J7 => ⟨σ6.set i none, H6, J7, r2⟩
      | brk =>
        obtain ⟨σ6, H6, S6, r2⟩ := r
        exact leave S6 fun s7 J7 => ⟨σ6.set i none, H6, J7, r2⟩
      | cont =>
        obtain ⟨σ6, H6, S6, r2⟩ := r
        exact leave S6 fun s7 J7 => ⟨σ6.set i none, H6, J7, r2⟩
    | false =>
      show wpAny _ X.A (handleBy (.ref a) X.env []) _ _ _
      refine wpAny_handleBy_nil ?_
      obtain ⟨_, _, _, o3, w3, T, oT, ts', k1, k2, k3, k4, k5⟩ := id fl3
      unfold PySem.passOn
      refine wpAny_bind (wpAny_field k1 k3 k4 ?_)
      rw [if_neg (show ¬ ((Value.ref T == Value.none) = true) from by simp)]
      have on : wpAny (model X.prog X.w) X.A (setFlight (.ref a) X.env.frame) (fun _ s4 => wpAny (model X.prog X.w) X.A (throw (.ref a) : Sem Flow) (SP X pins D) X.xe s4) X.xe { s' with heap := h3 } := by
        rw [hf]
        refine HandSPX.setFlight_upZ fl3 fun h4 hh4 up4 => wpAny_throw (tk _ _ ?_)
        exact ⟨a, B, sI, pins, σ1, H1, cls, d, rfl, J, nb, Heap.UpToSlots.trans (Heap.UpToSlots.trans up up3) up4, .inr (.inr (by rw [hs]; exact hh4)), na, os, ag, hno rfl⟩
      first
        | exact wpAny_bind (wpAny_pure (wpAny_bind on))
        | exact wpAny_bind on
  refine wpAny_mono ((hb _ _ _ caught PassesOwn.looking).run [] s σ H D (I.toTry _) h) (fun f s1 r => ?_) fun e s1 he => he
  cases f with
  | ret u =>
    obtain ⟨v, σ', H', J', r1, r2⟩ := r
    exact ⟨v, σ', H', Inv.ofTry J' ok, r1, r2⟩
  | next =>
    obtain ⟨σ', H', J', r2⟩ := r
    exact wpAny_execs_nil ⟨σ', H', Inv.ofTry J' ok, r2⟩
  | brk =>
    obtain ⟨σ', H', J', r2⟩ := r
    exact ⟨σ', H', Inv.ofTry J' ok, r2⟩
  | cont =>
    obtain ⟨σ', H', J', r2⟩ := r
    exact ⟨σ', H', Inv.ofTry J' ok, r2⟩
end
/-! ### a def that is called where an exception may be handled: it raises nothing, walks nothing -/
structure FnQ (P : Program) (w : World) (K : PySem.W.Frag) (mg : Str → Option Value) (base : Heap) (k : Nat) (f : Addr) (fd : FuncData) (ps : List Str) (sp : List V → Hp → VK → Prop) : Prop where
  len : ∀ vs H Q, sp vs H Q → vs.length = ps.length
  run : ∀ (A : Around) (outer : List PySem.Env) (s : Shared) (H : Hp) (args : Args) (us : List Value) (vs : List V) (Q : VK), L2H.RoomH k A → Env0 P w K mg base A outer s H → BindsTo s fd args (ps.zip us) → Vals vs us → sp vs H Q →
    codeAny (model P w) A (.call (.ref f) args) (CR (L2N.CX P w) outer P w H s Q fun _ _ _ => False) s
def cxQ (P : Program) (w : World) (K : PySem.W.Frag) (mg : Str → Option Value) (base : Heap) (N : List Str) (qual : Str) (scope : Scope) (f : Addr) (cd : Value) (A : Around) (outer : List PySem.Env) (s : Shared) (H : Hp) : Cx :=
  { cxOf (L2N.CX P w) P w K mg base N qual scope f cd A outer s H (fun _ _ _ => False) with calm := false }
theorem inv_startQ {P : Program} {w : World} {K : PySem.W.Frag} {mg : Str → Option Value} {base : Heap} {N ps : List Str} {qual : Str} {scope : Scope} {f : Addr} {cd : Value} {A : Around} {outer : List PySem.Env} {s s1 : Shared} {H : Hp} {us : List Value} {vs : List V}
    (S : FnScope N ps scope) (e0 : Env0 P w K mg base A outer s H) (hl : vs.length = ps.length) (r : Vals vs us)
    (x : InCallC s s.heap.objs.size (bindL (envOfC qual scope s.heap.objs.size f cd).kindOf (ps.zip us) fun _ => none) (cellsFrom (s.heap.objs.size + 1) scope.names []) (bindC (envOfC qual scope s.heap.objs.size f cd).kindOf (ps.zip us) fun _ => none) s1) :
    Inv (cxQ P w K mg base N qual scope f cd A outer s H) [] (L2.start N vs) H s1 := by
  have e1 : Env0 P w K mg base { A with handled := none } outer s H := ⟨e0.frames, e0.mod, e0.bs, e0.bsz, e0.funs, e0.frf, e0.hok, e0.bare⟩
  have J := inv_start (CX := L2N.CX P w) (E := fun _ _ _ => False) S (A := { A with handled := none }) rfl e1 hl r x
  have o := J.ok
  exact ⟨⟨o.mod, o.kind, o.glob, o.blt, o.above, o.inj, o.has, o.cab, (fun z => nomatch z), o.frames, o.stk, o.exf, o.bs, o.bsz, o.noex, o.exfs, o.funs, o.frf⟩, J.os, J.bare, J.base, J.loc, J.cell, J.free, J.freeC, J.pin, J.hok, J.len⟩
theorem fn_quiet {P : Program} {w : World} {K : PySem.W.Frag} {mg : Str → Option Value} {base : Heap} {k : Nat} {f : Addr} {x : Str} {fd : FuncData} {pa : Arguments} {body : List Stmt} {scope : Scope} {N ps : List Str} {sp : List V → Hp → VK → Prop}
    (F : FunD K x x pa body scope [] [] f fd) (S : FnScope N ps scope) (len : ∀ vs H Q, sp vs H Q → vs.length = ps.length)
    (hbody : ∀ (cdv : Value) (A : Around) (outer : List PySem.Env) (s : Shared) (H : Hp) (vs : List V) (Q : VK), L2H.RoomH k (A.deeper (envOfC x scope s.heap.objs.size f cdv)) → sp vs H Q →
      ∃ t, PSs (cxQ P w K mg base N x scope f cdv A outer s H) body t ∧ t { nx := fun _ H' => Q .non H', rt := Q } (L2.start N vs) H) : FnQ P w K mg base (k + 1) f fd ps sp := by
  obtain ⟨oc, od, dV, kV, doc, pm, an, cdv, ct, osl, rfl, lk, hcd, _, _⟩ := F.ex
  refine ⟨len, fun A outer s H args us vs Q hr e0 hb r hsp => ?_⟩
  have inK : K.In s.heap := e0.mod.kin.keeps fun b o q => (e0.bs b o q).1
  have noL : s.heap.NoLimit := e0.mod.nolimit.keeps fun b o q => (e0.bs b o q).1
  have kinds : ∀ y ∈ ps.zip us, scope.names.lookup y.1 = some .local ∨ (scope.names.lookup y.1 = some .cell ∧ ((cellsFrom (s.heap.objs.size + 1) scope.names []).lookup y.1).isSome = true) := fun y hy => by
    have q := S.par y.1 (List.of_mem_zip (a := y.1) (b := y.2) hy).1
    rcases q with q | q
    · exact Or.inl q
    · exact Or.inr ⟨q, PySem.W.cellsFrom_some _ _ _ (Or.inl q)⟩
  refine codeAny_call_function (L2H.RoomH.depth hr) (inK _ _ lk) rfl S.co S.gen rfl (PySem.W.codeRec_of inK hcd) (hb _ _ _ _ ?_)
  refine wpAny_newFunctionEnv_cells S.kind kinds fun env he s1 y => ?_
  subst he
  refine ⟨noL.keeps y.toInCall.keep, codeAny_func ?_⟩
  obtain ⟨t, ht, go⟩ := hbody cdv A outer s H vs Q (L2H.RoomH.deeper hr _) hsp
  have I := inv_startQ (f := f) (cd := cdv) (N := N) S e0 (len _ _ _ hsp) r y
  refine wpAny_mono (ht.run [] s1 (L2.start N vs) H _ I go) (fun fl s2 z => ?_) fun e s2 z => z
  cases fl with
  | brk =>
    obtain ⟨_, _, _, q⟩ := z
    exact q.elim
  | cont =>
    obtain ⟨_, _, _, q⟩ := z
    exact q.elim
  | next =>
    obtain ⟨σ2, H2, J, q⟩ := z
    exact ⟨V.non, H2, J.os, J.bare, J.base, J.hok, rfl, q⟩
  | ret u =>
    obtain ⟨v, σ2, H2, J, rv, q⟩ := z
    exact ⟨v, H2, J.os, J.bare, J.base, J.hok, rv, q⟩
def tCallQ (sp : List V → Hp → VK → Prop) (t : TA) : TE := fun σ H Q => t σ H fun vs H1 => sp vs H1 Q
theorem pe_callQ {X : Cx} {k : Nat} {f : Addr} {fd : FuncData} {ps : List Str} {sp : List V → Hp → VK → Prop} {x : Str} {q pos : Pos} {e : Expr} {es : List Expr} {t : TA} (F : FnQ X.prog X.w X.K X.mg X.base k f fd ps sp) (hr : L2H.RoomH k X.A) (hg : Gl X x) (hm : X.mg x = some (.ref f)) (hk : PySem.W.keepIn X.K (.ref f) = true) (hb : Binds X.K fd ps [])
    (ha : PA X (e :: es) t) (hdb : (x == ("__debug__" : Str)) = false) (he : starEach (e :: es) X.env = (false, eval e X.env) :: starEach es X.env) (hpl : (backTo pos (starEach es X.env)).any (·.1) = false) : PE X (.Call (.Name x q) (e :: es) [] pos) (tCallQ sp t) := by
  refine ⟨fun pins s σ H Q I h => wpAny_Call_Name_kw (ld_glob I hg hm ?_ hdb)⟩
  refine PySem.W.callWith_K (h₀ := X.base) I.ok.mod.kin hk (thn (ha.run pos pins s σ H _ I h) fun us s1 z => ?_) he hpl
  obtain ⟨vs, H1, I1, r, sp1⟩ := z
  refine ⟨I1.kIn, ?_⟩
  have hl : us.length = ps.length := by rw [← r.length]; exact F.len _ _ _ sp1
  have b := hb s1 us I1.kIn (by rw [List.append_nil]; exact hl)
  rw [List.append_nil] at b
  refine wpAny_call (codeAny_mono (F.run X.A X.stack s1 H1 ⟨us, []⟩ us vs Q hr I1.env0 b r sp1) fun r' s2 z => ?_)
  cases r' with
  | ok fl =>
    cases fl with
    | ret u => exact I1.after z
    | _ => exact z.elim
  | error e =>
    obtain ⟨_, _, _, _, _, _, _, _, _, _, _, _, w⟩ := z
    exact w.elim
theorem pe_callQ0 {X : Cx} {k : Nat} {f : Addr} {fd : FuncData} {ps : List Str} {sp : List V → Hp → VK → Prop} {x : Str} {q pos : Pos} (F : FnQ X.prog X.w X.K X.mg X.base k f fd ps sp) (hr : L2H.RoomH k X.A) (hg : Gl X x) (hm : X.mg x = some (.ref f)) (hk : PySem.W.keepIn X.K (.ref f) = true) (hb : Binds X.K fd ps [])
    (hdb : (x == ("__debug__" : Str)) = false) : PE X (.Call (.Name x q) [] [] pos) (fun _ H Q => sp [] H Q) := by
  refine ⟨fun pins s σ H Q I h => wpAny_Call_Name_kw (ld_glob I hg hm ?_ hdb)⟩
  refine PySem.W.callWith_K0 I.kIn hk ?_
  have hl : ([] : List Value).length = ps.length := by
    have := F.len _ _ _ h
    simpa using this
  have b := hb s [] I.kIn (by rw [List.append_nil]; exact hl)
  rw [List.append_nil] at b
  refine wpAny_call (codeAny_mono (F.run X.A X.stack s H ⟨[], []⟩ [] [] Q hr I.env0 b .nil h) fun r' s2 z => ?_)
  cases r' with
  | ok fl =>
    cases fl with
    | ret u => exact I.after z
    | _ => exact z.elim
  | error e =>
    obtain ⟨_, _, _, _, _, _, _, _, _, _, _, _, w⟩ := z
    exact w.elim
end Z

/-! Z, part F: calls, loops' walks, comprehensions. -/
namespace Z
open PySem PySem.Spec PyProof.Rows L2
def noStar : Expr → Bool
  | .Starred _ _ => false
  | _ => true
def noStars (es : List Expr) : Bool := es.all noStar
theorem noStar_of {e : Expr} (h : noStar e = true) : ∀ x p, e ≠ .Starred x p := fun x p z => by
  subst z
  cases h
theorem starEach_plain (env : PySem.Env) : ∀ {es : List Expr}, noStars es = true → starEach es env = es.map fun e => (false, eval e env)
  | [], _ => rfl
  | e :: es, h => by
    have h' : (noStar e && noStars es) = true := h
    rw [Bool.and_eq_true] at h'
    rw [starEach_of e es env (noStar_of h'.1), starEach_plain env h'.2]
    rfl
theorem plain_any (env : PySem.Env) (pos : Pos) {es : List Expr} (h : noStars es = true) : (backTo pos (starEach es env)).any (·.1) = false := by
  rw [starEach_plain env h]
  unfold backTo
  induction es with
  | nil => rfl
  | cons e es ih =>
    have h' : (noStar e && noStars es) = true := h
    rw [Bool.and_eq_true] at h'
    rw [List.map_cons, List.map_cons, List.any_cons, ih h'.2]
    rfl
theorem plain_all (env : PySem.Env) (pos : Pos) {es : List Expr} (h : noStars es = true) : (backTo pos (starEach es env)).all (fun x => !x.1) = true := by
  rw [starEach_plain env h]
  unfold backTo
  induction es with
  | nil => rfl
  | cons e es ih =>
    have h' : (noStar e && noStars es) = true := h
    rw [Bool.and_eq_true] at h'
    rw [List.map_cons, List.map_cons, List.all_cons, ih h'.2]
    rfl
section
variable {X : Cx} {ec : Nat → Value} {F : Fn} {W : WX} {a b c e o : Expr} {es rest : List Expr} {ca cb cc ce co : CE} {pos p apos : Pos}
/-! ### built-in functions -/
def bltName : Blt → Str
  | .len => "len" | .abs => "abs" | .int => "int" | .str => "str" | .tuple => "tuple" | .list => "list" | .all => "all" | .any => "any" | .sum => "sum" | .min => "min" | .max => "max" | .sorted => "sorted" | .repr => "repr"
def bltOk : Blt → Bool
  | .repr => false
  | _ => true
theorem rBl_of {K : PySem.W.Frag} {σ : St} {φ : Phi} {H : Hp} {δ : Env} {S : Store} {Q : VK} {t : Blt} (rs : Rs K φ S H) (re : RE K φ H δ σ) (h : OutG (Rv K) K ec W σ φ H (ev F (.blt t ca) δ S) Q) :
    tCB (rBl K t) (rdA K ec F W ca) σ H Q := by
  unfold ev at h
  refine ⟨φ, δ, S, rs, re, h.bind.mono fun v H1 ⟨φ1, x, S1, e1, rs1, r1, h1⟩ => ?_⟩
  exact ⟨φ1, S1, x, rs1, r1, h1.ov⟩
theorem g_blt (t : Blt) (ok : bltOk t = true) (hc : X.calm = true) (hg : Gl X (bltName t)) (hm : X.mg (bltName t) = none) (hs : noStars (e :: es) = true) (ha : GA X ec F W (e :: es) ca) : GE X ec F W (.Call (.Name (bltName t) p) (e :: es) [] pos) (.blt t ca) := by
  have h' : (noStar e && noStars es) = true := hs
  rw [Bool.and_eq_true] at h'
  have he := starEach_of e es X.env (noStar_of h'.1)
  have hp := plain_any X.env pos h'.2
  cases t with
  | len => exact PE.imp (pe_callB z_len hg hm PySem.boot_len ha (by decide) (by decide) he hp) fun σ H Q ⟨φ, δ, S, rs, re, h⟩ => rBl_of rs re h
  | abs => exact PE.imp (pe_callB z_abs hg hm (by decide +kernel) ha (by decide) (by decide) he hp) fun σ H Q ⟨φ, δ, S, rs, re, h⟩ => rBl_of rs re h
  | all => exact PE.imp (pe_callB (z_all hc) hg hm (by decide +kernel) ha (by decide) (by decide) he hp) fun σ H Q ⟨φ, δ, S, rs, re, h⟩ => rBl_of rs re h
  | any => exact PE.imp (pe_callB (z_any hc) hg hm (by decide +kernel) ha (by decide) (by decide) he hp) fun σ H Q ⟨φ, δ, S, rs, re, h⟩ => rBl_of rs re h
  | sum => exact PE.imp (pe_callB (z_sum hc) hg hm (by decide +kernel) ha (by decide) (by decide) he hp) fun σ H Q ⟨φ, δ, S, rs, re, h⟩ => rBl_of rs re h
  | min => exact PE.imp (pe_callB (z_min hc) hg hm (by decide +kernel) ha (by decide) (by decide) he hp) fun σ H Q ⟨φ, δ, S, rs, re, h⟩ => rBl_of rs re h
  | max => exact PE.imp (pe_callB (z_max hc) hg hm (by decide +kernel) ha (by decide) (by decide) he hp) fun σ H Q ⟨φ, δ, S, rs, re, h⟩ => rBl_of rs re h
  | int => exact PE.imp (pe_callTy z_int hg hm (by decide +kernel) ha (by decide) (by decide) he hp) fun σ H Q ⟨φ, δ, S, rs, re, h⟩ => rBl_of rs re h
  | str => exact PE.imp (pe_callTy z_str hg hm (by decide +kernel) ha (by decide) (by decide) he hp) fun σ H Q ⟨φ, δ, S, rs, re, h⟩ => rBl_of rs re h
  | tuple => exact PE.imp (pe_callTy z_tuple hg hm (by decide +kernel) ha (by decide) (by decide) he hp) fun σ H Q ⟨φ, δ, S, rs, re, h⟩ => rBl_of rs re h
  | list => exact PE.imp (pe_callTy z_list hg hm (by decide +kernel) ha (by decide) (by decide) he hp) fun σ H Q ⟨φ, δ, S, rs, re, h⟩ => rBl_of rs re h
  | sorted => exact PE.imp (pe_callB (z_sorted hc) hg hm (by decide +kernel) ha (by decide) (by decide) he hp) fun σ H Q ⟨φ, δ, S, rs, re, h⟩ => rBl_of rs re h
  | repr => cases ok
/-! ### isinstance(e, T) -/
def tyStr : Ty → Str
  | .int => "int" | .bool => "bool" | .str => "str" | .tup => "tuple" | .lst => "list" | .dict => "dict" | .own _ => ""
theorem g_isi {t : Ty} {p2 : Pos} (ht : ∀ c, t ≠ .own c) (hg : Gl X "isinstance") (hm : X.mg "isinstance" = none) (hg2 : Gl X (tyStr t)) (hm2 : X.mg (tyStr t) = none) (hs : noStar e = true) (he : GE X ec F W e ce) :
    GE X ec F W (.Call (.Name "isinstance" p) [e, .Name (tyStr t) p2] [] pos) (.isi ce t) := by
  have hb : bootBuiltins (tyStr t) = some (.type (tyName t)) := by
    cases t with
    | own c => exact absurd rfl (ht c)
    | _ => decide +kernel
  have hty : PE X (.Name (tyStr t) p2) (tC (.ty (tyName t))) := by
    cases t with
    | own c => exact absurd rfl (ht c)
    | _ => exact pe_bltn hg2 hm2 hb rfl (by decide) (by decide)
  have ha : PA X [e, .Name (tyStr t) p2] (tCons (rdE X.K ec F W ce) (tCons (tC (.ty (tyName t))) tNil)) := pa_cons he (pa_cons hty pa_nil) (starEach_of e _ X.env (noStar_of hs))
  refine PE.imp (pe_callB (z_isi t ht) hg hm (by decide +kernel) ha (by decide) (by decide) (starEach_of e _ X.env (noStar_of hs)) rfl) fun σ H Q ⟨φ, δ, S, rs, re, h⟩ => ?_
  unfold ev at h
  refine ⟨φ, δ, S, rs, re, h.bind.mono fun v H1 ⟨φ1, x, S1, e1, rs1, r1, h1⟩ => ?_⟩
  cases e2 : isiEv x t S1 with
  | none => rw [e2] at h1; exact h1.elim
  | some r =>
    rw [e2] at h1
    exact ⟨φ1, S1, x, v, r, rs1, rfl, r1, e2, out_ok h1 rs1 (.bl _)⟩
/-- isinstance(e, X), X a class of what is refused or of the library: e may be an exception -/
structure IsC (K : PySem.W.Frag) (cv : Value) (k : Nat) : Prop where
  exc : ∀ c, c < excNames.length → ∃ C, clsK K c = .ref C ∧ ExcC K C ∧ PySem.W.kitOne K (.ref C) cv = some (decide (k = 0 ∨ k = 99 ∨ k = c))
  non : PySem.W.kitOne K (.type "NoneType") cv = some false
theorem g_isiX {k : Nat} {x : Str} {cv : Value} {v : V} {p2 : Pos} (hC : IsC X.K cv k) (hv : RelV v cv) (hu : ∀ u, RelV v u → u = cv) (hcv : ClsV v cv) (hx : PE X (.Name x p2) (tC v)) (hg : Gl X "isinstance") (hm : X.mg "isinstance" = none) (hs : noStar e = true) (he : GE X ec F W e ce) :
    GE X ec F W (.Call (.Name "isinstance" p) [e, .Name x p2] [] pos) (.isi ce (.own k)) := by
  have ha : PA X [e, .Name x p2] (tCons (rdE X.K ec F W ce) (tCons (tC v) tNil)) := pa_cons he (pa_cons hx pa_nil) (starEach_of e _ X.env (noStar_of hs))
  have both : CallR X (.builtin "isinstance") fun xs H Q => rIsX X.K xs H Q ∨ rIsi X.K xs H Q := by
    intro pins s σ H xs us Q I r h
    rcases h with h | h
    · exact call_isX pins s σ H xs us Q I r h
    · exact call_isi pins s σ H xs us Q I r h
  refine PE.imp (pe_callB both hg hm (by decide +kernel) ha (by decide) (by decide) (starEach_of e _ X.env (noStar_of hs)) rfl) fun σ H Q ⟨φ, δ, S, rs, re, h⟩ => ?_
  unfold ev at h
  refine ⟨φ, δ, S, rs, re, h.bind.mono fun w H1 ⟨φ1, d, S1, e1, rs1, r1, h1⟩ => ?_⟩
  cases r1 with
  | @exc a c hc g1 g2 =>
    obtain ⟨C, q1, q2, q3⟩ := hC.exc c hc
    rw [q1] at g1
    exact .inl ⟨a, C, v, cv, _, rfl, g1, q2, hu, q3, out_ok h1 rs1 (.bl _)⟩
  | non => exact .inr ⟨.non, v, .type "NoneType", cv, false, rfl, hcv, .base .non, hC.non, out_ok h1 rs1 (.bl _)⟩
  | _ => exact (show False from h1).elim
/-! ### calls of defs -/
/-- a def's promise by its run -/
def spF (K : PySem.W.Frag) (ec : Nat → Value) (F : Fn) (i : Nat) : Sp := fun vs H Q E => ∃ φ S ds, Rs K φ S H ∧ Rvs K φ H vs ds ∧ OutG (Rv K) K ec (fun cls d _ H' => E cls d H') [] φ H (F i ds S) Q
structure Callee (X : Cx) (ec : Nat → Value) (F : Fn) (n : Nat) (x : Str) (i : Nat) : Prop where
  ok : ∃ f fd ps, X.mg x = some (.ref f) ∧ PySem.W.keepIn X.K (.ref f) = true ∧ Binds X.K fd ps [] ∧ FnOk X.prog X.w X.K X.mg X.base (L2N.CX X.prog X.w) n f fd ps (spF X.K ec F i)
theorem out_W {K : PySem.W.Frag} {σ : St} {φ : Phi} {H : Hp} {r : R D} {Q : VK} (h : OutG (Rv K) K ec W σ φ H r Q) : OutG (Rv K) K ec (fun cls d _ H' => WE W σ cls d H') [] φ H r Q := by
  cases r with
  | ok d S => exact h
  | exc c a S => exact h
  | stuck => exact h
theorem g_call {n : Nat} {x : Str} {i : Nat} (C : Callee X ec F n x i) (hr : Room n X.A) (tk : L2N.Takes X W) (hg : Gl X x) (hd : (x == ("__debug__" : Str)) = false) (hs : noStars (e :: es) = true) (ha : GA X ec F W (e :: es) ca) :
    GE X ec F W (.Call (.Name x p) (e :: es) [] pos) (.call i ca) := by
  obtain ⟨f, fd, ps, hm, hk, hb, G⟩ := C.ok
  have h' : (noStar e && noStars es) = true := hs
  rw [Bool.and_eq_true] at h'
  refine PE.imp (pe_callS (E := WE W) G hr hg hm hk hb (L2N.passAt tk) ha hd (starEach_of e es X.env (noStar_of h'.1)) (plain_any X.env pos h'.2)) fun σ H Q ⟨φ, δ, S, rs, re, h⟩ => ?_
  unfold ev at h
  refine ⟨φ, δ, S, rs, re, h.bind.mono fun v H1 ⟨φ1, x, S1, e1, rs1, r1, h1⟩ => ?_⟩
  exact ⟨φ1, S1, x, rs1, r1, out_W h1⟩
theorem run_fnS0 {CX : CXT} {k : Nat} {f : Addr} {fd : FuncData} {ps : List Str} {sp : Sp} {E : L2.St → XK} {x : Str} (G : FnOk X.prog X.w X.K X.mg X.base CX k f fd ps sp) (hr : Room k X.A) (hg : Gl X x) (hm : X.mg x = some (.ref f)) (hk : PySem.W.keepIn X.K (.ref f) = true) (hb : Binds X.K fd ps []) (hx : ∀ σ, PassesAt CX X σ (E σ))
    (hdb : (x == ("__debug__" : Str)) = false) : PE X (.Call (.Name x p) [] [] pos) (tCallS sp E tNil) := by
  refine ⟨fun pins s σ H Q I h => ?_⟩
  refine wpAny_Call_Name_kw (ld_glob I hg hm ?_ hdb)
  exact PySem.W.callWith_K0 I.kIn hk (run_fnS (us := []) G hr hb (hx σ) I .nil h)
theorem g_call0 {n : Nat} {x : Str} {i : Nat} (C : Callee X ec F n x i) (hr : Room n X.A) (tk : L2N.Takes X W) (hg : Gl X x) (hd : (x == ("__debug__" : Str)) = false) : GE X ec F W (.Call (.Name x p) [] [] pos) (.call i .nil) := by
  obtain ⟨f, fd, ps, hm, hk, hb, G⟩ := C.ok
  refine PE.imp (run_fnS0 (E := WE W) G hr hg hm hk hb (L2N.passAt tk) hd) fun σ H Q ⟨φ, δ, S, rs, re, h⟩ => ?_
  unfold ev evs at h
  rw [R.bind_ok] at h
  exact ⟨φ, S, [], rs, .nil, out_W h⟩
/-! ### calls of quiet defs, where an exception may be handled -/
abbrev WF : WX := fun _ _ _ _ => False
def spQ (K : PySem.W.Frag) (ec : Nat → Value) (F : Fn) (i : Nat) : List V → Hp → VK → Prop := fun vs H Q => ∃ φ S ds, Rs K φ S H ∧ Rvs K φ H vs ds ∧ OutG (Rv K) K ec WF [] φ H (F i ds S) Q
structure CalleeQ (X : Cx) (ec : Nat → Value) (F : Fn) (n : Nat) (x : Str) (i : Nat) : Prop where
  ok : ∃ f fd ps, X.mg x = some (.ref f) ∧ PySem.W.keepIn X.K (.ref f) = true ∧ Binds X.K fd ps [] ∧ FnQ X.prog X.w X.K X.mg X.base n f fd ps (spQ X.K ec F i)
theorem g_callQ {n : Nat} {x : Str} {i : Nat} (C : CalleeQ X ec F n x i) (hr : L2H.RoomH n X.A) (hg : Gl X x) (hd : (x == ("__debug__" : Str)) = false) (hs : noStars (e :: es) = true) (ha : GA X ec F WF (e :: es) ca) :
    GE X ec F WF (.Call (.Name x p) (e :: es) [] pos) (.call i ca) := by
  obtain ⟨f, fd, ps, hm, hk, hb, G⟩ := C.ok
  have h' : (noStar e && noStars es) = true := hs
  rw [Bool.and_eq_true] at h'
  refine PE.imp (pe_callQ G hr hg hm hk hb ha hd (starEach_of e es X.env (noStar_of h'.1)) (plain_any X.env pos h'.2)) fun σ H Q ⟨φ, δ, S, rs, re, h⟩ => ?_
  unfold ev at h
  refine ⟨φ, δ, S, rs, re, h.bind.mono fun v H1 ⟨φ1, x, S1, e1, rs1, r1, h1⟩ => ⟨φ1, S1, x, rs1, r1, ?_⟩⟩
  cases q : F i x S1 with
  | ok d S2 => rw [q] at h1; exact h1
  | exc c a S2 => rw [q] at h1; exact h1
  | stuck => rw [q] at h1; exact h1
theorem g_call0q {n : Nat} {x : Str} {i : Nat} (C : CalleeQ X ec F n x i) (hr : L2H.RoomH n X.A) (hg : Gl X x) (hd : (x == ("__debug__" : Str)) = false) : GE X ec F WF (.Call (.Name x p) [] [] pos) (.call i .nil) := by
  obtain ⟨f, fd, ps, hm, hk, hb, G⟩ := C.ok
  refine PE.imp (pe_callQ0 G hr hg hm hk hb hd) fun σ H Q ⟨φ, δ, S, rs, re, h⟩ => ⟨φ, S, [], rs, .nil, ?_⟩
  unfold ev evs at h
  rw [R.bind_ok] at h
  cases q : F i [] S with
  | ok d S2 => rw [q] at h; exact h
  | exc c a S2 => rw [q] at h; exact h
  | stuck => rw [q] at h; exact h
/-! ### methods of lists -/
def mthName : Mth → Str
  | .append => "append" | .reverse => "reverse" | .pop => "pop" | .count => "count" | .index => "index" | .insert => "insert" | .extend => "extend" | .cat => ""
def plainBase : Expr → Bool
  | .Call _ _ _ _ => false
  | _ => true
theorem base_plain (f : Str) (env : PySem.Env) (w : Sem Value) {o : Expr} (h : plainBase o = true) : attributeBase o f env w = w := by
  cases o <;> first | rfl | cases h
theorem few_one (env : PySem.Env) (hs : noStar e = true) : ((backTo pos (starEach [e] env)).all (fun x => !x.1) && (backToKw pos (keywordEach [] env)).all (fun x => x.1.isSome) && decide ([e].length + ([] : List Keyword).length + (if ([] : List Keyword).isEmpty then 0 else 1) < 30)) = true := by
  rw [plain_all env pos (show noStars [e] = true by unfold noStars; simp [hs])]
  rfl
theorem rMt_of {K : PySem.W.Frag} {σ : St} {φ : Phi} {H : Hp} {δ : Env} {S : Store} {Q : VK} {m : Mth} (rs : Rs K φ S H) (re : RE K φ H δ σ) (h : OutG (Rv K) K ec W σ φ H (ev F (.mth m co ca) δ S) Q) :
    tBM K "list" (rMt K m) (rdE K ec F W co) (rdA K ec F W ca) σ H Q := by
  unfold ev at h
  refine ⟨φ, δ, S, rs, re, h.bind.mono fun v H1 ⟨φ1, x, S1, e1, rs1, r1, h1⟩ => ?_⟩
  cases e2 : seqL S1 x with
  | none => simp only [e2] at h1; exact h1.elim
  | some ls =>
    simp only [e2] at h1
    obtain ⟨q, ys, rfl, hq, _⟩ := seqL_at rs1 r1 e2
    refine ⟨.inl ⟨rfl, ys, SqL.of hq⟩, φ1, δ, S1, rs1, re.ext e1, h1.bind.mono fun us H2 ⟨φ2, ds, S2, e3, rs2, r2, h2⟩ => ?_⟩
    refine ⟨φ2, S2, x, ds, rs2, r1.ext e3, r2, ?_⟩
    cases e4 : mthEv m x ds S2 with
    | none => rw [e4] at h2; exact h2.elim
    | some o =>
      obtain ⟨d, S'⟩ := o
      rw [e4] at h2
      exact fun v H' ex rs' r' => h2 φ2 v H' ex rs' r'
theorem g_append (hb : plainBase o = true) (hl : (apos.endLine == pos.line) = true) (hs : noStar e = true) (ho : GE X ec F W o co) (ha : GA X ec F W [e] ca) : GE X ec F W (.Call (.Attribute o "append" apos) [e] [] pos) (.mth .append co ca) :=
  PE.imp (pe_bm PySem.F.plainAttrs_list PySem.F.slot_list_append PySem.F.type_list_append z_append ho ha (base_plain _ _ _ hb) (few_one X.env hs) hl (starEach_of e [] X.env (noStar_of hs)) rfl) fun σ H Q ⟨φ, δ, S, rs, re, h⟩ => rMt_of rs re h
theorem rMt0_of {K : PySem.W.Frag} {σ : St} {φ : Phi} {H : Hp} {δ : Env} {S : Store} {Q : VK} {m : Mth} (rs : Rs K φ S H) (re : RE K φ H δ σ) (h : OutG (Rv K) K ec W σ φ H (ev F (.mth m co .nil) δ S) Q) :
    tBM0 K "list" (rMt K m) (rdE K ec F W co) σ H Q := by
  unfold ev at h
  refine ⟨φ, δ, S, rs, re, h.bind.mono fun v H1 ⟨φ1, x, S1, e1, rs1, r1, h1⟩ => ?_⟩
  cases e2 : seqL S1 x with
  | none => simp only [e2] at h1; exact h1.elim
  | some ls =>
    simp only [e2] at h1
    unfold evs at h1
    rw [R.bind_ok] at h1
    obtain ⟨q, ys, rfl, hq, _⟩ := seqL_at rs1 r1 e2
    refine ⟨.inl ⟨rfl, ys, SqL.of hq⟩, φ1, S1, x, [], rs1, r1, .nil, ?_⟩
    cases e4 : mthEv m x [] S1 with
    | none => rw [e4] at h1; exact h1.elim
    | some o =>
      obtain ⟨d, S'⟩ := o
      rw [e4] at h1
      exact fun v H' ex rs' r' => h1 φ1 v H' ex rs' r'
theorem g_reverse (hb : plainBase o = true) (hl : (apos.endLine == pos.line) = true) (ho : GE X ec F W o co) : GE X ec F W (.Call (.Attribute o "reverse" apos) [] [] pos) (.mth .reverse co .nil) :=
  PE.imp (pe_bm0 PySem.F.plainAttrs_list PySem.F.slot_list_reverse PySem.F.type_list_reverse z_reverse ho (base_plain _ _ _ hb) hl) fun σ H Q ⟨φ, δ, S, rs, re, h⟩ => rMt0_of rs re h
theorem g_pop (hb : plainBase o = true) (hl : (apos.endLine == pos.line) = true) (ho : GE X ec F W o co) : GE X ec F W (.Call (.Attribute o "pop" apos) [] [] pos) (.mth .pop co .nil) :=
  PE.imp (pe_bm0 PySem.F.plainAttrs_list PySem.F.slot_list_pop PySem.F.type_list_pop z_pop ho (base_plain _ _ _ hb) hl) fun σ H Q ⟨φ, δ, S, rs, re, h⟩ => rMt0_of rs re h
theorem g_mth1 {m : Mth} {n : Str} (hn : n = mthName m) (hm : m = .count ∨ m = .index) (hb : plainBase o = true) (hl : (apos.endLine == pos.line) = true) (hs : noStar e = true) (ho : GE X ec F W o co) (ha : GA X ec F W [e] ca) : GE X ec F W (.Call (.Attribute o n apos) [e] [] pos) (.mth m co ca) := by
  rcases hm with rfl | rfl
  · subst hn
    exact PE.imp (pe_bm PySem.F.plainAttrs_list PySem.F.slot_list_count PySem.F.type_list_count z_count ho ha (base_plain _ _ _ hb) (few_one X.env hs) hl (starEach_of e [] X.env (noStar_of hs)) rfl) fun σ H Q ⟨φ, δ, S, rs, re, h⟩ => rMt_of rs re h
  · subst hn
    exact PE.imp (pe_bm PySem.F.plainAttrs_list PySem.F.slot_list_index PySem.F.type_list_index z_index ho ha (base_plain _ _ _ hb) (few_one X.env hs) hl (starEach_of e [] X.env (noStar_of hs)) rfl) fun σ H Q ⟨φ, δ, S, rs, re, h⟩ => rMt_of rs re h
theorem few_two (env : PySem.Env) (hs : noStars [e, a] = true) : ((backTo pos (starEach [e, a] env)).all (fun x => !x.1) && (backToKw pos (keywordEach [] env)).all (fun x => x.1.isSome) && decide ([e, a].length + ([] : List Keyword).length + (if ([] : List Keyword).isEmpty then 0 else 1) < 30)) = true := by
  rw [plain_all env pos hs]
  rfl
theorem g_insert (hb : plainBase o = true) (hl : (apos.endLine == pos.line) = true) (hs : noStars [e, a] = true) (ho : GE X ec F W o co) (ha : GA X ec F W [e, a] ca) : GE X ec F W (.Call (.Attribute o "insert" apos) [e, a] [] pos) (.mth .insert co ca) := by
  have h' : (noStar e && (noStar a && true)) = true := hs
  simp only [Bool.and_true, Bool.and_eq_true] at h'
  have s1 := starEach_of e [a] X.env (noStar_of h'.1)
  have s2 := starEach_of a [] X.env (noStar_of h'.2)
  exact PE.imp (pe_bm PySem.F.plainAttrs_list PySem.F.slot_list_insert PySem.F.type_list_insert z_insert ho ha (base_plain _ _ _ hb) (few_two X.env hs) hl s1 (by rw [s2]; rfl)) fun σ H Q ⟨φ, δ, S, rs, re, h⟩ => rMt_of rs re h
/-! list(range(..)) -/
theorem rgV_rv {K : PySem.W.Frag} {φ : Phi} {H : Hp} (i j : Int) : Rvs K φ H (rgV i j) (rngD i j) := by
  unfold rgV rngD
  generalize (j - i).toNat = n
  have key : ∀ ks : List Nat, Rvs K φ H (ks.map fun k : Nat => V.int (i + (k : Int))) (ks.map fun k : Nat => D.int (i + (k : Int))) := fun ks => by
    induction ks with
    | nil => exact .nil
    | cons k ks ih => exact .cons (.int _) ih
  exact key _
theorem g_rgl2 {p p2 pos2 : Pos} (hc : X.calm = true) (hs : noStars [a, b] = true) (hg : Gl X "range") (hm : X.mg "range" = none) (hg2 : Gl X "list") (hm2 : X.mg "list" = none) (ha : GE X ec F W a ca) (hb : GE X ec F W b cb) : GE X ec F W (.Call (.Name "list" p2) [.Call (.Name "range" p) [a, b] [] pos2] [] pos) (.rgl ca cb) := by
  have h' : (noStar a && (noStar b && true)) = true := hs
  simp only [Bool.and_true, Bool.and_eq_true] at h'
  have s1 := starEach_of a [b] X.env (noStar_of h'.1)
  have s2 := starEach_of b [] X.env (noStar_of h'.2)
  refine PE.imp (pe_listRg hc hg2 hm2 (prg_2 hg hm ha hb s1 s2 (by rw [s2]; rfl)) rfl) fun σ H Q ⟨φ, δ, S, rs, re, h⟩ => ?_
  unfold ev at h
  refine ⟨φ, δ, S, rs, re, (OutG.bind (rel := Rv X.K) h).mono fun v H1 ⟨φ1, x, S1, e1, rs1, r1, h1⟩ => ?_⟩
  refine ⟨φ1, δ, S1, rs1, re.ext e1, (OutG.bind (rel := Rv X.K) h1).mono fun u H2 ⟨φ2, y, S2, e2, rs2, r2, h2⟩ => ?_⟩
  cases r1 with
  | int i =>
    cases r2 with
    | int j =>
      by_cases hz : small62 i ∧ small62 j ∧ (j - i).toNat ≤ 2 ^ 24
      · simp only [if_pos hz] at h2
        have h3 : ∀ φ' v H', Ext φ2 H2 φ' H' → Rs X.K φ' S2 H' → Rv X.K φ' H' v (.lst (rngD i j)) → Q v H' := h2
        exact ⟨i, j, rfl, rfl, ⟨hz.1.1, hz.1.2, hz.2.1.1, hz.2.1.2, hz.2.2⟩, fun q hq => h3 φ2 _ _ (Ext.fresh hq) (rs2.fresh hq) (.lst upd_same (rs2.free hq) ((rgV_rv i j).ext (Ext.fresh hq)))⟩
      · simp only [if_neg hz] at h2
        exact (show False from h2).elim
    | _ => exact (show False from h2).elim
  | _ => exact (show False from h2).elim
theorem setd_m {o a b : Expr} {apos : Pos} {m : Str} (h1 : plainBase o = true) (h2 : (apos.endLine == pos.line) = true) (hs : noStars [a, b] = true) : M2 X o m apos a b pos := by
  have h' : (noStar a && (noStar b && true)) = true := hs
  simp only [Bool.and_true, Bool.and_eq_true] at h'
  have s1 := starEach_of a [b] X.env (noStar_of h'.1)
  have s2 := starEach_of b [] X.env (noStar_of h'.2)
  refine ⟨base_plain _ _ _ h1, ?_, h2, ?_⟩
  · rw [plain_all X.env pos hs]
    rfl
  · rw [s1, s2]
    rfl
theorem g_setd {o e f : Expr} {co ce cf : CE} {apos : Pos} (m : M2 X o "setdefault" apos e f pos) (ho : GE X ec F W o co) (he : GE X ec F W e ce) (hf : GE X ec F W f cf) : GE X ec F W (.Call (.Attribute o "setdefault" apos) [e, f] [] pos) (.setd co ce cf) := by
  refine PE.imp (pe_dsetd ho he hf m) fun σ H Q ⟨φ, δ, S, rs, re, h⟩ => ?_
  unfold ev at h
  refine ⟨φ, δ, S, rs, re, (OutG.bind (rel := Rv X.K) h).mono fun v H1 ⟨φ1, x, S1, e1, rs1, r1, h1⟩ => ?_⟩
  cases d1 : dkOf S1 x with
  | none => simp only [d1] at h1; exact (show False from h1).elim
  | some kvs0 =>
    simp only [d1] at h1
    obtain ⟨p, a, xs0, rfl, rfl, _, _, ha0, _, _⟩ := dk_at rs1 r1 d1
    refine ⟨a, rfl, .inl ⟨xs0, .inl ha0⟩, φ1, δ, S1, rs1, re.ext e1, (OutG.bind (rel := Rv X.K) h1).mono fun u H2 ⟨φ2, y, S2, e2, rs2, r2, h2⟩ => ?_⟩
    refine ⟨φ2, δ, S2, rs2, (re.ext e1).ext e2, (OutG.bind (rel := Rv X.K) h2).mono fun w H3 ⟨φ3, z, S3, e3, rs3, r3, h3⟩ => ?_⟩
    have ra := (r1.ext e2).ext e3
    have ry := r2.ext e3
    unfold setdEv at h3
    cases c1 : S3[p]? with
    | none => simp only [c1] at h3; exact (show False from h3).elim
    | some cl =>
      cases cl with
      | dk kvs =>
        simp only [c1] at h3
        obtain ⟨p', a', xs, q1, q2, q3, q4, q5, q6, q7⟩ := dk_at (kvs := kvs) rs3 ra (by unfold dkOf; simp [c1])
        cases q1
        cases q2
        cases ek : keyOf y with
        | none => simp only [ek] at h3; exact (show False from h3).elim
        | some k =>
          simp only [ek] at h3
          by_cases hl : kvs.length < sizeLine
          · rw [if_pos hl] at h3
            have hlen : xs.length = kvs.length := by simpa using congrArg List.length q6
            obtain ⟨v1, v2⟩ := val_at (k := k) q6 q7
            refine ⟨xs, k, q5, key_at ry ek, by rw [hlen]; exact hl, fun v hv => ?_, fun hv => ?_⟩
            · cases ev0 : valD kvs k with
              | none => rw [hv, ev0] at v2; cases v2
              | some d =>
                simp only [ev0] at h3
                obtain ⟨v', hv', rv'⟩ := v1 d ev0
                rw [hv] at hv'
                cases hv'
                have h4 : ∀ φ' v H', Ext φ3 H3 φ' H' → Rs X.K φ' S3 H' → Rv X.K φ' H' v d → Q v H' := h3
                exact h4 φ3 _ H3 (Ext.refl _ _) rs3 rv'
            · cases ev0 : valD kvs k with
              | some d => rw [hv, ev0] at v2; cases v2
              | none =>
                simp only [ev0] at h3
                have h4 : ∀ φ' v H', Ext φ3 H3 φ' H' → Rs X.K φ' (S3.set p (.dk (putD kvs k z))) H' → Rv X.K φ' H' v z → Q v H' := h3
                obtain ⟨m1, m2⟩ := put_at (k := k) (r3.ext (Ext.write (o := .dK (putK xs k w)) rs3 q4)) q6 (q7.ext (Ext.write (o := .dK (putK xs k w)) rs3 q4))
                exact h4 φ3 w _ (Ext.write rs3 q4) (rs3.write q4 ⟨a, _, rfl, upd_same, m1, m2⟩) (r3.ext (Ext.write rs3 q4))
          · rw [if_neg hl] at h3
            exact (show False from h3).elim
      | lst _ => simp only [c1] at h3; exact (show False from h3).elim
      | dt _ => simp only [c1] at h3; exact (show False from h3).elim
      | gone => simp only [c1] at h3; exact (show False from h3).elim
/-! ### targets -/
def ctSlots : CT → List Nat
  | .nm i => [i]
  | .nil => []
  | .cons t ts => ctSlots t ++ ctSlots ts
  | .tp ts => ctSlots ts
/-- the slots but some are as they were -/
def Off (l : List Nat) (σ σ' : St) : Prop := σ'.length = σ.length ∧ ∀ j, j ∉ l → σ'[j]? = σ[j]?
theorem Off.set {l : List Nat} {σ σ' : St} {i : Nat} {v : Option V} (h : Off l σ σ') (hi : i ∈ l) : Off l σ (σ'.set i v) := ⟨by rw [List.length_set]; exact h.1, fun j hj => by
  rw [List.getElem?_set_ne (fun z => by subst z; exact hj hi)]
  exact h.2 j hj⟩
theorem Off.wipe {σ σ' : St} : ∀ {l own : List Nat}, Off l σ σ' → (∀ i ∈ l, i ∈ own) → L2.wipe σ' own = L2.wipe σ own := fun {l own} h k => by
  apply List.ext_getElem?
  intro j
  have go : ∀ (own : List Nat) (σ : St), (L2.wipe σ own)[j]? = if j ∈ own ∧ j < σ.length then some none else σ[j]? := fun own => by
    induction own with
    | nil => intro σ; simp [L2.wipe]
    | cons v vs ih =>
      intro σ
      unfold L2.wipe
      by_cases e : v = j
      · subst e
        by_cases hl : v < σ.length
        · rw [List.getElem?_set_self (by rw [L2.wipe_length]; exact hl), if_pos ⟨List.mem_cons_self, hl⟩]
        · rw [List.getElem?_eq_none (by rw [List.length_set, L2.wipe_length]; omega), if_neg (fun z => hl z.2), List.getElem?_eq_none (by omega)]
      · rw [List.getElem?_set_ne e, ih σ]
        simp [List.mem_cons, Ne.symm e]
  rw [go, go, h.1]
  by_cases hj : j ∈ own
  · by_cases hl : j < σ.length
    · rw [if_pos ⟨hj, hl⟩, if_pos ⟨hj, hl⟩]
    · rw [if_neg (fun z => hl z.2), if_neg (fun z => hl z.2), List.getElem?_eq_none (by rw [h.1]; omega), List.getElem?_eq_none (by omega)]
  · rw [if_neg (fun z => hj z.1), if_neg (fun z => hj z.1)]
    exact h.2 j (fun z => hj (k j z))
def rdG (K : PySem.W.Frag) (t : CT) : TG := fun v σ H Q => ∃ φ S d δ δ1, Rs K φ S H ∧ Rv K φ H v d ∧ RE K φ H δ σ ∧ stepT t d δ = some δ1 ∧ ∀ σ', RE K φ H δ1 σ' → Off (ctSlots t) σ σ' → Q σ' H
def GG (X : Cx) (tg : Expr) (t : CT) : Prop := PG X tg (rdG X.K t)
theorem PG.imp {tg : Expr} {t t' : TG} (h : PG X tg t) (k : ∀ v σ H Q, t' v σ H Q → t v σ H Q) : PG X tg t' := ⟨fun pins s σ H v u Q I r q => h.run pins s σ H v u Q I r (k v σ H Q q)⟩
theorem t_nm {i : Nat} {x : Str} (hN : X.N.Nodup) (hi : X.N[i]? = some x) (hx : Loc X.env.scope x) (hf : X.fn x = true ∨ X.env.scope.names.lookup x = some .local) : GG X (.Name x pos) (.nm i) := by
  refine PG.imp (pg_name hN hi hx hf) fun v σ H Q ⟨φ, S, d, δ, δ1, rs, r, re, h, k⟩ => ?_
  by_cases hl : i < δ.length
  · simp only [stepT, if_pos hl, Option.some.injEq] at h
    subst h
    exact k _ (re.set r) (Off.set ⟨rfl, fun _ _ => rfl⟩ (by simp [ctSlots]))
  · simp only [stepT, if_neg hl] at h
    cases h
/-- the parts of a tuple target -/
def rdGs (K : PySem.W.Frag) (t : CT) : TGs := fun vs σ H Q => ∃ φ S ds δ δ1, Rs K φ S H ∧ Rvs K φ H vs ds ∧ RE K φ H δ σ ∧ stepT.go t ds δ = some δ1 ∧ ∀ σ', RE K φ H δ1 σ' → Off (ctSlots t) σ σ' → Q σ' H
def GGs (X : Cx) (ts : List Expr) (t : CT) : Prop := PGs X ts (rdGs X.K t)
theorem PGs.imp {tg : List Expr} {t t' : TGs} (h : PGs X tg t) (k : ∀ v σ H Q, t' v σ H Q → t v σ H Q) : PGs X tg t' := ⟨fun pins s σ H v u Q I r q => h.run pins s σ H v u Q I r (k v σ H Q q)⟩
theorem ts_nil : GGs X [] .nil := PGs.imp pgs_nil fun vs σ H Q ⟨φ, S, ds, δ, δ1, rs, r, re, h, k⟩ => by
  cases r with
  | nil =>
    have h' : some δ = some δ1 := by simpa [stepT.go] using h
    cases h'
    exact ⟨rfl, k σ re ⟨rfl, fun _ _ => rfl⟩⟩
  | cons r rs => simp [stepT.go] at h
theorem assignEach_of (e : Expr) (es : List Expr) (env : PySem.Env) (h : ∀ x p, e ≠ .Starred x p) : assignEach (e :: es) env = (false, assign e env) :: assignEach es env := by
  cases e <;> first | rfl | exact absurd rfl (h _ _)
theorem ts_cons {i : Nat} {x : Str} {px : Pos} {ts : List Expr} {cts : CT} (h1 : GG X (.Name x px) (.nm i)) (h2 : GGs X ts cts) : GGs X (.Name x px :: ts) (.cons (.nm i) cts) := by
  refine PGs.imp (pgs_cons h1 h2 rfl) fun vs σ H Q ⟨φ, S, ds, δ, δ1, rs, r, re, h, k⟩ => ?_
  cases r with
  | nil => simp [stepT.go] at h
  | @cons v vs d ds r rr =>
    by_cases hl : i < δ.length
    · have h' : stepT.go cts ds (δ.set i (some d)) = some δ1 := by simpa [stepT.go, hl] using h
      refine ⟨v, vs, rfl, φ, S, d, δ, δ.set i (some d), rs, r, re, by simp [stepT, hl], fun σ' re' off => ?_⟩
      refine ⟨φ, S, ds, _, δ1, rs, rr, re', h', fun σ2 re2 off2 => k σ2 re2 ⟨off2.1.trans off.1, fun j hj => ?_⟩⟩
      have hj' : j ∉ ctSlots (.nm i) ∧ j ∉ ctSlots cts := by simpa [ctSlots] using hj
      rw [off2.2 j hj'.2, off.2 j hj'.1]
    · simp [stepT.go, hl] at h
def ctLen : CT → Nat
  | .cons _ ts => ctLen ts + 1
  | _ => 0
theorem go_len : ∀ {t : CT} {ds : List D} {δ δ1 : Env}, stepT.go t ds δ = some δ1 → ds.length = ctLen t
  | .nil, [], _, _, _ => rfl
  | .nil, _ :: _, _, _, h => by simp [stepT.go] at h
  | .nm _, [], _, _, h => by simp [stepT.go] at h
  | .nm _, _ :: _, _, _, h => by simp [stepT.go] at h
  | .tp _, [], _, _, h => by simp [stepT.go] at h
  | .tp _, _ :: _, _, _, h => by simp [stepT.go] at h
  | .cons _ _, [], _, _, h => by simp [stepT.go] at h
  | .cons (.nm i) ts, d :: ds, δ, δ1, h => by
    by_cases hl : i < δ.length
    · have h' : stepT.go ts ds (δ.set i (some d)) = some δ1 := by simpa [stepT.go, hl] using h
      rw [List.length_cons, go_len h']
      rfl
    · simp [stepT.go, hl] at h
  | .cons .nil _, _ :: _, _, _, h => by simp [stepT.go] at h
  | .cons (.cons _ _) _, _ :: _, _, _, h => by simp [stepT.go] at h
  | .cons (.tp _) _, _ :: _, _, _, h => by simp [stepT.go] at h
theorem t_tp {ts : List Expr} {cts : CT} {k : Nat} (hc : X.calm = true) (h : GGs X ts cts) (hn : (assignEach ts X.env).length = ctLen cts) (hst : (assignEach ts X.env).findIdx? (·.1) = none) : GG X (.Tuple ts k pos) (.tp cts) := by
  refine ⟨fun pins s σ H v u Q I rr ⟨φ, S, d, δ, δ1, rs, r, re, e, kk⟩ => ?_⟩
  cases r with
  | @tup a xs ds t r =>
    have h' : stepT.go cts ds δ = some δ1 := by simpa [stepT] using e
    exact (pg_tup hc h hn hst).run pins s σ H _ u Q I rr ⟨a, xs, rfl, t.sq, by rw [r.len, go_len h'], φ, S, ds, δ, δ1, rs, r, re, h', fun σ' re' off => kk σ' re' off⟩
  | @lst a xs ds t f r =>
    have h' : stepT.go cts ds δ = some δ1 := by simpa [stepT] using e
    exact (pg_unl hc h hn hst).run pins s σ H _ u Q I rr ⟨a, xs, rfl, .inl (.inl t), by rw [r.len, go_len h'], φ, S, ds, δ, δ1, rs, r, re, h', fun σ' re' off => kk σ' re' off⟩
  | _ => simp [stepT] at e
end
end Z

/-! Z, part G: what is walked; comprehensions; statements. -/
namespace Z
open PySem PySem.Spec PyProof.Rows L2 Classical
/-- the iterator J walks w as long as it stands -/
def WalkJ (K : PySem.W.Frag) (φ : Phi) (H : Hp) (J : It) (w : Wk) : Prop :=
  ∀ φ' S' H', Ext φ H φ' H' → Rs K φ' S' H' → w.At S' →
    (∀ (i : Nat) (d : D), w.items[i]? = some d → J.go i H' ∧ ∀ x H'', J.yld i H' x H'' → H'' = H' ∧ Rv K φ' H' x d) ∧ J.stop w.items.length H'
section
variable {X : Cx} {ec : Nat → Value} {F : Fn} {W : WX} {a b c e o tg it elt : Expr} {es rest : List Expr} {ca cb cc ce co : CE} {pos p apos : Pos}
def rdI (K : PySem.W.Frag) (ec : Nat → Value) (F : Fn) (W : WX) (c : CE) : TI := fun σ H R => ∃ φ δ S, Rs K φ S H ∧ RE K φ H δ σ ∧ OutG (fun φ H J w => WalkJ K φ H J w) K ec W σ φ H (evI F c δ S) R
def GI (X : Cx) (ec : Nat → Value) (F : Fn) (W : WX) (tg it : Expr) (c : CE) : Prop := PI X tg it (rdI X.K ec F W c)
theorem PI.imp {t t' : TI} (h : PI X tg it t) (k : ∀ σ H R, t' σ H R → t σ H R) : PI X tg it t' := ⟨fun pins s σ H R I q => h.run pins s σ H R I (k σ H R q)⟩
theorem PI.or {t t' : TI} (h : PI X tg it t) (h' : PI X tg it t') : PI X tg it (fun σ H R => t σ H R ∨ t' σ H R) := ⟨fun pins s σ H R I q => by
  rcases q with q | q
  · exact h.run pins s σ H R I q
  · exact h'.run pins s σ H R I q⟩
theorem walk_lst {K : PySem.W.Frag} {φ : Phi} {H : Hp} {a : Addr} {xs : List V} {ds : List D} {w : Wk} (hi : w.items = ds) (h : ∀ φ' S' H', Ext φ H φ' H' → Rs K φ' S' H' → w.At S' → H' a = some (.lst xs) ∧ Rvs K φ' H' xs ds) : WalkJ K φ H (Itl K a) w := fun φ' S' H' e rs at' => by
  obtain ⟨h1, h2⟩ := h φ' S' H' e rs at'
  rw [hi]
  refine ⟨fun i d hd => ?_, xs, SqL.of h1, by rw [h2.len]; exact Nat.le_refl _⟩
  obtain ⟨v, hv, rv⟩ := h2.get hd
  refine ⟨⟨xs, v, SqL.of h1, hv⟩, fun x H'' ⟨e1, k⟩ => ⟨e1, ?_⟩⟩
  have := k xs (SqL.of h1)
  rw [hv] at this
  cases this
  exact rv
theorem walk_tup {K : PySem.W.Frag} {φ : Phi} {H : Hp} {a : Addr} {xs : List V} {ds : List D} (t : TupAt K φ H a xs) (r : Rvs K φ H xs ds) : WalkJ K φ H (Itt K a) (.fix ds) := fun φ' S' H' e rs at' => by
  have t' : TupAt K φ' H' a xs := by
    rcases t with ⟨h, f⟩ | h
    · exact .inl (e.keep _ _ f h)
    · exact .inr h
  have r' := r.ext e
  refine ⟨fun i d hd => ?_, xs, t'.sq, by show xs.length ≤ ds.length; rw [r'.len]; exact Nat.le_refl _⟩
  obtain ⟨v, hv, rv⟩ := r'.get (show ds[i]? = some d from hd)
  refine ⟨⟨xs, v, t'.sq, hv⟩, fun x H'' ⟨e1, k⟩ => ⟨e1, ?_⟩⟩
  have := k xs t'.sq
  rw [hv] at this
  cases this
  exact rv
theorem walk_cel {K : PySem.W.Frag} {φ : Phi} {H : Hp} {a : Addr} {p : Nat} {ds : List D} (hp : φ.c[p]? = some (some a)) : WalkJ K φ H (Itl K a) (.cel p ds) := fun φ' S' H' e rs at' => by
  have at2 : S'[p]? = some (.lst ds) := at'
  obtain ⟨b, ys, f1, f2, f3⟩ := rs.cell p _ at2
  have eb : b = a := by
    rcases e.pre p _ hp with q | q
    · rw [q] at f1
      cases f1
      rfl
    · rw [q] at f1
      cases f1
  subst eb
  refine ⟨fun i d hd => ?_, ys, SqL.of f2, by show ys.length ≤ ds.length; rw [f3.len]; exact Nat.le_refl _⟩
  obtain ⟨v, hv, rv⟩ := f3.get (show ds[i]? = some d from hd)
  refine ⟨⟨ys, v, SqL.of f2, hv⟩, fun x H'' ⟨e1, k⟩ => ⟨e1, ?_⟩⟩
  have := k ys (SqL.of f2)
  rw [hv] at this
  cases this
  exact rv
theorem i_one (he : GE X ec F W it ce) : GI X ec F W tg it (.one ce) := by
  refine PI.imp (PI.or (pi_list he) (PI.or (pi_tup he) (pi_str he))) fun σ H R ⟨φ, δ, S, rs, re, h⟩ => ?_
  unfold evI at h
  cases e1 : ev F ce δ S with
  | stuck => rw [e1] at h; exact h.elim
  | exc c a S' =>
    rw [e1] at h
    refine .inl ⟨φ, δ, S, rs, re, ?_⟩
    rw [e1]
    exact h
  | ok d S' =>
    rw [e1, Z.R.bind_ok] at h
    have tupcase : ∀ ds, d = .tup ds → iTup X.K (rdE X.K ec F W ce) σ H R := fun ds ed => by
      subst ed
      refine ⟨φ, δ, S, rs, re, ?_⟩
      rw [e1]
      intro φ' v H' ex rs' r'
      cases r' with
      | @tup a xs ds t r =>
        exact ⟨a, rfl, ⟨xs, t.sq⟩, (show ∀ φ' J H', Ext φ H φ' H' → Rs X.K φ' S' H' → WalkJ X.K φ' H' J (.fix ds) → R J H' from h) φ' _ H' ex rs' (walk_tup t r)⟩
    cases d with
    | tup ds => exact .inr (.inl (tupcase ds rfl))
    | lst ds =>
      refine .inl ⟨φ, δ, S, rs, re, ?_⟩
      rw [e1]
      intro φ' v H' ex rs' r'
      cases r' with
      | @lst a xs ds h1 h2 r =>
        exact ⟨a, rfl, ⟨xs, SqL.of h1⟩, (show ∀ φ' J H', Ext φ H φ' H' → Rs X.K φ' S' H' → WalkJ X.K φ' H' J (.fix ds) → R J H' from h) φ' _ H' ex rs' (walk_lst rfl fun φ2 S2 H2 e2 rs2 _ => ⟨(e2.keep _ _ h2 h1).1, r.ext e2⟩)⟩
    | ref i =>
      have h0 := h
      unfold walkSeq at h0
      cases e2 : S'[i]? with
      | none => simp only [e2] at h0; exact h0.elim
      | some cl =>
        cases cl with
        | lst ds =>
          simp only [e2] at h0
          refine .inl ⟨φ, δ, S, rs, re, ?_⟩
          rw [e1]
          intro φ' v H' ex rs' r'
          obtain ⟨a, xs, rfl, h1, h2, h3⟩ := cell_at rs' r' e2
          exact ⟨a, rfl, ⟨xs, SqL.of h2⟩, (show ∀ φ' J H', Ext φ H φ' H' → Rs X.K φ' S' H' → WalkJ X.K φ' H' J (.cel i ds) → R J H' from h0) φ' _ H' ex rs' (walk_cel h1)⟩
        | dk _ => simp only [e2] at h0; exact (show False from h0).elim
        | dt _ => simp only [e2] at h0; exact (show False from h0).elim
        | gone => simp only [e2] at h0; exact (show False from h0).elim
    | str x =>
      right; right
      refine ⟨φ, δ, S, rs, re, ?_⟩
      rw [e1]
      intro φ' v H' ex rs' r'
      cases r'
      refine ⟨x, rfl, (show ∀ φ' J H', Ext φ H φ' H' → Rs X.K φ' S' H' → WalkJ X.K φ' H' J (.fix (x.cps.toList.map fun c => .str ⟨#[c]⟩)) → R J H' from h) φ' _ H' ex rs' ?_⟩
      intro φ2 S2 H2 _ _ _
      refine ⟨fun i d hd => ?_, by show x.cps.size ≤ _; simp [Wk.items]⟩
      have hd' : (x.cps.toList.map fun c => D.str ⟨#[c]⟩)[i]? = some d := hd
      rw [List.getElem?_map] at hd'
      obtain ⟨cc, hcc, rfl⟩ := Option.map_eq_some_iff.mp hd'
      have hlt : i < x.cps.size := by
        have := (List.getElem?_eq_some_iff.mp hcc).1
        simpa using this
      refine ⟨hlt, fun y H'' ⟨e4, cd, hcd, ey⟩ => ⟨e4, ?_⟩⟩
      subst ey
      have : x.cps.toList[i]? = some cd := by simpa using hcd
      rw [this] at hcc
      cases hcc
      exact .str _
    | _ => exact h.elim

theorem walk_rng {K : PySem.W.Frag} {φ : Phi} {H : Hp} (lo hi : Int) : WalkJ K φ H (Itr lo (hi - lo).toNat) (.fix (rngD lo hi)) := fun φ' S' H' e rs at' => by
  refine ⟨fun i d hd => ?_, by show (hi - lo).toNat ≤ _; simp [Wk.items, rngD]⟩
  have hd' : (rngD lo hi)[i]? = some d := hd
  unfold rngD at hd'
  rw [List.getElem?_map] at hd'
  obtain ⟨k, hk, rfl⟩ := Option.map_eq_some_iff.mp hd'
  obtain ⟨h1, h2⟩ := List.getElem?_eq_some_iff.mp hk
  rw [List.length_range] at h1
  rw [List.getElem_range] at h2
  subst h2
  exact ⟨h1, fun x H'' ⟨e1, e2⟩ => ⟨e1, by subst e2; exact .int _⟩⟩
theorem i_rng2 (hs : noStars [a, b] = true) (hg : Gl X "range") (hm : X.mg "range" = none) (ha : GE X ec F W a ca) (hb : GE X ec F W b cb) : GI X ec F W tg (.Call (.Name "range" p) [a, b] [] pos) (.rng ca cb) := by
  have h' : (noStar a && (noStar b && true)) = true := hs
  simp only [Bool.and_true, Bool.and_eq_true] at h'
  have s1 := starEach_of a [b] X.env (noStar_of h'.1)
  have s2 := starEach_of b [] X.env (noStar_of h'.2)
  refine PI.imp (pi_range2 hg hm (pa_cons ha (pa_cons hb pa_nil s2) s1) (by rw [s1, s2]; rfl) (by rw [s2]; rfl)) fun σ H R ⟨φ, δ, S, rs, re, h⟩ => ?_
  unfold evI at h
  refine ⟨φ, δ, S, rs, re, (OutG.bind (rel := Rv X.K) h).mono fun v H1 ⟨φ1, x, S1, e1, rs1, r1, h1⟩ => ?_⟩
  refine ⟨φ1, δ, S1, rs1, re.ext e1, (OutG.bind (rel := Rv X.K) h1).mono fun u H2 ⟨φ2, y, S2, e2, rs2, r2, h2⟩ => ?_⟩
  cases r1 with
  | int i =>
    cases r2 with
    | int j =>
      by_cases hz : small62 i ∧ small62 j
      · simp only [if_pos hz] at h2
        exact ⟨i, j, rfl, ⟨hz.1.1, hz.1.2, hz.2.1, hz.2.2⟩, h2 φ2 _ H2 (Ext.refl _ _) rs2 (walk_rng i j)⟩
      · simp only [if_neg hz] at h2
        exact (show False from h2).elim
    | _ => exact (show False from h2).elim
  | _ => exact (show False from h2).elim
theorem i_rng1 (hs : noStar b = true) (hg : Gl X "range") (hm : X.mg "range" = none) (hb : GE X ec F W b cb) : GI X ec F W tg (.Call (.Name "range" p) [b] [] pos) (.rng (.con (.int 0)) cb) := by
  have s2 := starEach_of b [] X.env (noStar_of hs)
  refine PI.imp (pi_range1 hg hm (pa_cons hb pa_nil s2) (by rw [s2]; rfl)) fun σ H R ⟨φ, δ, S, rs, re, h⟩ => ?_
  unfold evI at h
  rw [ev_con, Z.R.bind_ok] at h
  refine ⟨φ, δ, S, rs, re, (OutG.bind (rel := Rv X.K) h).mono fun u H2 ⟨φ2, y, S2, e2, rs2, r2, h2⟩ => ?_⟩
  cases r2 with
  | int j =>
    by_cases hz : small62 0 ∧ small62 j
    · simp only [if_pos hz] at h2
      have e0 : j.toNat = (j - 0).toNat := by rw [Int.sub_zero]
      refine ⟨j, rfl, hz.2.1, hz.2.2, ?_⟩
      rw [e0]
      exact h2 φ2 _ H2 (Ext.refl _ _) rs2 (walk_rng 0 j)
    · simp only [if_neg hz] at h2
      exact (show False from h2).elim
  | _ => exact (show False from h2).elim
/-! ### list comprehensions -/
theorem compEv_ok {elt cond : Env → Store → R D} {t : CT} {w : Wk} {δ : Env} {own : List Nat} : ∀ {ds acc : List D} {S : Store}, compEv elt cond t w δ own ds acc S ≠ .stuck → ∃ es S', compEv elt cond t w δ own ds acc S = .ok es S'
  | [], acc, S, h => by
    unfold compEv at h ⊢
    by_cases hw : w.At S
    · rw [if_pos hw]; exact ⟨_, _, rfl⟩
    · rw [if_neg hw] at h; exact absurd rfl h
  | d :: ds, acc, S, h => by
    unfold compEv at h ⊢
    by_cases hw : w.At S
    · simp only [if_pos hw] at h ⊢
      cases e1 : stepT t d (wipeD δ own) with
      | none => simp only [e1] at h; exact absurd rfl h
      | some δ1 =>
        simp only [e1] at h ⊢
        by_cases hz : acc.length < sizeLine
        · simp only [if_pos hz] at h ⊢
          cases e2 : cond δ1 S with
          | stuck => simp only [e2] at h; exact absurd rfl h
          | exc c a S1 => simp only [e2] at h; exact absurd rfl h
          | ok x S1 =>
            cases x with
            | bl b =>
              cases b with
              | true =>
                simp only [e2] at h ⊢
                cases e3 : elt δ1 S1 with
                | stuck => simp only [e3] at h; exact absurd rfl h
                | exc c a S1 => simp only [e3] at h; exact absurd rfl h
                | ok y S2 =>
                  simp only [e3] at h ⊢
                  exact compEv_ok h
              | false =>
                simp only [e2] at h ⊢
                exact compEv_ok h
            | _ => simp only [e2] at h; exact absurd rfl h
        · simp only [if_neg hz] at h
          exact absurd rfl h
    · simp only [if_neg hw] at h
      exact absurd rfl h
/-- no exception leaves a comprehension -/
abbrev W0 : WX := fun _ _ _ _ => False
/-- what a tests' list is -/
def GTs (X : Cx) (ec : Nat → Value) (F : Fn) (W : WX) (ifs : List Expr) (c : CE) : Prop := PTs X ifs (rdT X.K ec F W c)
theorem PTs.imp {ifs : List Expr} {t t' : TT} (h : PTs X ifs t) (k : ∀ σ H Q, t' σ H Q → t σ H Q) : PTs X ifs t' := ⟨fun pins s σ H Q I q => h.run pins s σ H Q I (k σ H Q q)⟩
theorem ifs_nil : GTs X ec F W [] (.con (.bl true)) := PTs.imp pts_nil fun σ H Q ⟨φ, δ, S, rs, re, _, h⟩ => by
  rw [ev_con] at h
  exact h φ true H (Ext.refl _ _) rs rfl
theorem ifs_one (h : GT X ec F W c cc) : GTs X ec F W [c] cc := pts_one h
theorem tLc_of {K : PySem.W.Frag} {ec : Nat → Value} {F : Fn} {W : WX} {ce cc ci : CE} {t : CT} {own : List Nat} {isM : Bool} {σ : St} {H : Hp} {Q : VK} (hsl : ∀ i ∈ ctSlots t, i ∈ own) (h : rdE K ec F W (.comp ce t ci cc own isM) σ H Q) :
    tLc (rdI K ec F W ci) (rdG K t) (rdT K ec F W0 cc) (rdE K ec F W0 ce) own σ H Q := by
  obtain ⟨φ, δ, S, rs, re, h⟩ := h
  unfold ev at h
  refine ⟨φ, δ, S, rs, re, (OutG.bind (rel := fun φ H J w => WalkJ K φ H J w) h).mono fun J H1 ⟨φ1, w, S1, e1, rs1, wj, h1⟩ => ?_⟩
  intro L hL
  have re1 := re.ext e1
  generalize hk : (fun (ds : List D) (S2 : Store) => if isM = true then Z.R.ok (D.ref S2.length) (S2 ++ [Cell.lst ds]) else Z.R.ok (D.lst ds) S2) = k at h1
  -- the list at L is being made
  let Ph : Nat → Hp → Prop := fun i H => ∃ φ' S' acc xs, Ext φ1 H1 φ' H ∧ Rs K φ' S' H ∧ L ∈ φ'.h ∧ H L = some (.lst xs) ∧ Rvs K φ' H xs acc ∧
    OutG (Rv K) K ec W σ φ1 H1 ((compEv (ev F ce) (ev F cc) t w δ own (w.items.drop i) acc S').bind k) Q
  refine ⟨fun i m H => m + i = w.items.length ∧ Ph i H, ⟨w.items.length, by omega, φ1.hide L, S1, [], [], Ext.hide hL, rs1.hide hL, List.mem_cons_self, upd_same, .nil, h1⟩, ?_⟩
  rintro i m H2 ⟨hm, φ2, S2, acc, xs, e2, rs2, lh, lx, racc, h2⟩
  have ns : compEv (ev F ce) (ev F cc) t w δ own (w.items.drop i) acc S2 ≠ .stuck := fun z => by
    rw [z] at h2
    exact h2
  by_cases hi : i < w.items.length
  · right
    have hd : w.items[i]? = some w.items[i] := by simp [hi]
    have hdr : w.items.drop i = w.items[i] :: w.items.drop (i + 1) := List.drop_eq_getElem_cons hi
    rw [hdr] at h2 ns
    generalize w.items[i] = d at hd h2 ns
    unfold compEv at h2 ns
    by_cases hw : w.At S2
    · simp only [if_pos hw] at h2 ns
      obtain ⟨hgo, hyd⟩ := (wj φ2 S2 H2 e2 rs2 hw).1 i d hd
      refine ⟨hgo, Ph (i + 1), fun H' q => ⟨m - 1, by omega, by omega, q⟩, fun x H3 y => ?_⟩
      obtain ⟨rfl, rx⟩ := hyd x H3 y
      cases e3 : stepT t d (wipeD δ own) with
      | none => simp only [e3] at ns; exact absurd rfl ns
      | some δ1 =>
        simp only [e3] at h2 ns
        by_cases hz : acc.length < sizeLine
        · simp only [if_pos hz] at h2 ns
          refine ⟨φ2, S2, d, wipeD δ own, δ1, rs2, rx, (re1.ext e2).wipe, e3, fun σ2 re2 off => ?_⟩
          refine ⟨?_, φ2, δ1, S2, rs2, re2, fun dd S' e => ?_, ?_⟩
          · have q := Off.wipe off hsl
            have ww : ∀ (own own' : List Nat) (σ : St), (∀ i ∈ own', i ∈ own) → L2.wipe (L2.wipe σ own) own' = L2.wipe σ own := fun own own' => by
              induction own' with
              | nil => intro σ _; rfl
              | cons v vs ih =>
                intro σ hs
                show (L2.wipe (L2.wipe σ own) vs).set v none = _
                rw [ih σ fun i hi => hs i (List.mem_cons_of_mem _ hi)]
                have hv := hs v List.mem_cons_self
                have gw : ∀ (own : List Nat), v ∈ own → (L2.wipe σ own).set v none = L2.wipe σ own := fun own => by
                  induction own with
                  | nil => intro z; cases z
                  | cons u us ih =>
                    intro z
                    show ((L2.wipe σ us).set u none).set v none = (L2.wipe σ us).set u none
                    rcases List.mem_cons.mp z with z | z
                    · subst z
                      exact List.set_set ..
                    · by_cases huv : u = v
                      · subst huv
                        exact List.set_set ..
                      · rw [List.set_comm _ _ huv, ih z]
                exact gw own hv
            rw [ww own own σ fun i hi => hi] at q
            exact q
          · rw [e] at ns
            cases dd with
            | bl b => exact ⟨b, rfl⟩
            | _ => exact absurd rfl ns
          · cases e4 : ev F cc δ1 S2 with
            | stuck => simp only [e4] at ns; exact absurd rfl ns
            | exc c a S3 => simp only [e4] at ns; exact absurd rfl ns
            | ok x1 S3 =>
              cases x1 with
              | bl bb =>
                intro φ4 b4 H4 e5 rs4 r4
                cases r4
                obtain ⟨lx4, lh4⟩ := e5.hid L _ lh lx
                cases bb with
                | false =>
                  rw [if_neg Bool.false_ne_true]
                  simp only [e4] at h2
                  exact ⟨φ4, S3, acc, xs, e2.trans e5, rs4, lh4, lx4, racc.ext e5, h2⟩
                | true =>
                  rw [if_pos rfl]
                  simp only [e4] at h2 ns
                  refine ⟨φ4, δ1, S3, rs4, re2.ext e5, ?_⟩
                  cases e6 : ev F ce δ1 S3 with
                  | stuck => simp only [e6] at ns; exact absurd rfl ns
                  | exc c a S3 => simp only [e6] at ns; exact absurd rfl ns
                  | ok y S5 =>
                    simp only [e6] at h2
                    intro φ5 v5 H5 e7 rs5 r5
                    obtain ⟨lx5, lh5⟩ := e7.hid L _ lh4 lx4
                    refine ⟨xs, lx5, by rw [racc.len]; exact hz, ?_⟩
                    refine ⟨φ5, S5, acc ++ [y], xs ++ [v5], ((e2.trans e5).trans e7).hwrite hL, rs5.hwrite lh5, lh5, upd_same, ?_, h2⟩
                    exact (((racc.ext e5).ext e7).app (.cons r5 .nil)).ext0 (Ext0.hwrite lh5)
              | _ => simp only [e4] at ns; exact absurd rfl ns
        · simp only [if_neg hz] at ns
          exact absurd rfl ns
    · simp only [if_neg hw] at ns
      exact absurd rfl ns
  · left
    have ei : i = w.items.length := by omega
    subst ei
    rw [List.drop_length] at h2 ns
    unfold compEv at h2 ns
    by_cases hw : w.At S2
    · simp only [if_pos hw] at h2 ns
      refine ⟨(wj φ2 S2 H2 e2 rs2 hw).2, ?_⟩
      rw [Z.R.bind_ok, ← hk] at h2
      dsimp only at h2
      cases isM with
      | true =>
        rw [if_pos rfl] at h2
        refine h2 (φ2.bareA L) (.ref L) H2 (e2.bareA hL lh) (rs2.bareA lh lx racc) (.ref (o := some L) ?_ (.inr rfl))
        show (φ2.c ++ [some L])[S2.length]? = _
        rw [← rs2.len, List.getElem?_append_right (Nat.le_refl _), Nat.sub_self]
        rfl
      | false =>
        rw [if_neg Bool.false_ne_true] at h2
        exact h2 (φ2.bare L) (.ref L) H2 (e2.bare hL) rs2.bare (.lst lx (free_bare rs2 lh) (racc.ext0 Ext0.bare))
    · simp only [if_neg hw] at ns
      exact absurd rfl ns

theorem g_comp {own : List (Str × Nat)} {ifs : List Expr} {scope : Scope} {t : CT} {isM : Bool} (hc : X.calm = true) (hN : X.N.Nodup) (hi : GI X ec F W tg it ca) (ok : BlkOk X.N X.env.scope scope own)
    (hg : ∀ (s : Shared) (H : Hp) (C : Addr) (cl : List (Str × Addr)) (fp : List Addr), GG (X.blk s H scope (compEnvC scope cl C X.env) fp) tg t)
    (ht : ∀ (s : Shared) (H : Hp) (C : Addr) (cl : List (Str × Addr)) (fp : List Addr), GTs (X.blk s H scope (compEnvC scope cl C X.env) fp) ec F W0 ifs cc)
    (he : ∀ (s : Shared) (H : Hp) (C : Addr) (cl : List (Str × Addr)) (fp : List Addr), GE (X.blk s H scope (compEnvC scope cl C X.env) fp) ec F W0 elt ce) (hs : ∀ x, foldedSetIterable it X.env x = pure x)
    (hsl : ∀ i ∈ ctSlots t, i ∈ own.map (·.2)) : GE X ec F W (.ListComp elt [⟨tg, it, ifs, 0⟩] scope pos) (.comp ce t ca cc (own.map (·.2)) isM) :=
  PE.imp (pe_lc (g := rdG X.K t) (tt := rdT X.K ec F W0 cc) (te := rdE X.K ec F W0 ce) hc hN hi ok hg ht he hs) fun _ _ _ h => tLc_of hsl h
/-! ### statements -/
def OutS (K : PySem.W.Frag) (ec : Nat → Value) (W : WX) (D : Ends) (φ : Phi) (H : Hp) (r : SR) : Prop := match r with
  | .nx δ' S' => ∀ φ' σ' H', Ext φ H φ' H' → Rs K φ' S' H' → RE K φ' H' δ' σ' → D.nx σ' H'
  | .rt d S' => ∀ φ' v H', Ext φ H φ' H' → Rs K φ' S' H' → Rv K φ' H' v d → D.rt v H'
  | .bk δ' S' => ∀ φ' σ' H', Ext φ H φ' H' → Rs K φ' S' H' → RE K φ' H' δ' σ' → D.bk σ' H'
  | .xc c a δ' S' => ∀ φ' σ' H' dd, Ext φ H φ' H' → Rs K φ' S' H' → RE K φ' H' δ' σ' → Xd K φ' H' a dd → W (ec c) dd σ' H'
  | .stuck => False
def rdS (K : PySem.W.Frag) (ec : Nat → Value) (F : Fn) (W : WX) (c : CS) : TS := fun D σ H => ∃ φ δ S, Rs K φ S H ∧ RE K φ H δ σ ∧ OutS K ec W D φ H (run F c δ S)
def GS (X : Cx) (ec : Nat → Value) (F : Fn) (W : WX) (s : Stmt) (c : CS) : Prop := PS X s (rdS X.K ec F W c)
def GSs (X : Cx) (ec : Nat → Value) (F : Fn) (W : WX) (s : List Stmt) (c : CS) : Prop := PSs X s (rdS X.K ec F W c)
section
variable {K : PySem.W.Frag} {D D' : Ends} {φ φ1 : Phi} {H H1 : Hp} {r : SR} {δ : Env} {σ : St}
theorem OutS.ext (e : Ext φ H φ1 H1) (h : OutS K ec W D φ H r) : OutS K ec W D φ1 H1 r := by
  cases r with
  | nx δ' S' => exact fun φ' v H' e' => h φ' v H' (e.trans e')
  | rt δ' S' => exact fun φ' v H' e' => h φ' v H' (e.trans e')
  | bk δ' S' => exact fun φ' v H' e' => h φ' v H' (e.trans e')
  | xc c a δ' S' => exact fun φ' v H' dd e' => h φ' v H' dd (e.trans e')
  | stuck => exact h
theorem OutS.st {α β : Type} {rel : Phi → Hp → β → α → Prop} {r : R α} {k : α → Store → SR} (re : RE K φ H δ σ) (h : OutS K ec W D φ H (r.st δ k)) :
    OutG rel K ec W σ φ H r fun v H1 => ∃ φ1 x S1, Ext φ H φ1 H1 ∧ Rs K φ1 S1 H1 ∧ rel φ1 H1 v x ∧ OutS K ec W D φ1 H1 (k x S1) := by
  cases r with
  | ok d S' => exact fun φ' v H' e' rs rv => ⟨φ', d, S', e', rs, rv, OutS.ext e' h⟩
  | exc c a S' => exact fun φ' H' dd e' rs x => h φ' σ H' dd e' rs (re.ext e') x
  | stuck => exact h
theorem nx_ok {S : Store} (h : OutS K ec W D φ H (.nx δ S)) (rs : Rs K φ S H) (re : RE K φ H δ σ) : D.nx σ H := h φ σ H (Ext.refl _ _) rs re
end
theorem PS.imp {s : Stmt} {t t' : TS} (h : PS X s t) (k : ∀ D σ H, t' D σ H → t D σ H) : PS X s t' := ⟨fun pins s σ H D I q => h.run pins s σ H D I (k D σ H q)⟩
theorem PSs.imp {s : List Stmt} {t t' : TS} (h : PSs X s t) (k : ∀ D σ H, t' D σ H → t D σ H) : PSs X s t' := ⟨fun pins s σ H D I q => h.run pins s σ H D I (k D σ H q)⟩
variable {st : Stmt} {sts body : List Stmt} {cs cr cb' : CS}
theorem s_pass : GS X ec F W (.Pass pos) .skip := PS.imp ps_pass fun D σ H ⟨φ, δ, S, rs, re, h⟩ => nx_ok h rs re
theorem s_doc {x j p'} : GS X ec F W (.Expr (.Constant (.str x) j p') pos) .skip := PS.imp ps_doc fun D σ H ⟨φ, δ, S, rs, re, h⟩ => nx_ok h rs re
theorem s_brk : GS X ec F W (.Break pos) .brk := PS.imp ps_break fun D σ H ⟨φ, δ, S, rs, re, h⟩ => h φ σ H (Ext.refl _ _) rs re
theorem ss_nil : GSs X ec F W [] .skip := PSs.imp pss_nil fun D σ H ⟨φ, δ, S, rs, re, h⟩ => nx_ok h rs re
theorem OutS.bind {K : PySem.W.Frag} {D : Ends} {φ : Phi} {H : Hp} {r : SR} {k : Env → Store → SR} {N : St → Hp → Prop} (h : OutS K ec W D φ H (r.bind k))
    (hN : ∀ φ' σ' H' δ' S', Ext φ H φ' H' → Rs K φ' S' H' → RE K φ' H' δ' σ' → OutS K ec W D φ' H' (k δ' S') → N σ' H') : OutS K ec W { D with nx := N } φ H r := by
  cases r with
  | nx δ' S' => exact fun φ' σ' H' e rs re => hN φ' σ' H' δ' S' e rs re (OutS.ext e h)
  | rt d S' => exact h
  | bk δ' S' => exact h
  | xc c a δ' S' => exact h
  | stuck => exact h
theorem ss_cons (h1 : GS X ec F W st cs) (h2 : GSs X ec F W sts cr) : GSs X ec F W (st :: sts) (.seq cs cr) := PSs.imp (pss_cons h1 h2) fun D σ H ⟨φ, δ, S, rs, re, h⟩ => by
  unfold run at h
  exact ⟨φ, δ, S, rs, re, OutS.bind h fun φ' σ' H' δ' S' e rs re h => ⟨φ', δ', S', rs, re, h⟩⟩
theorem ss_one (h1 : GS X ec F W st cs) : GSs X ec F W [st] cs := pss_one h1
theorem s_expr (he : GE X ec F W e ce) (hs : swapsWith e none pos.line X.env = pure false) : GS X ec F W (.Expr e pos) (.expr ce) := PS.imp (ps_expr he hs) fun D σ H ⟨φ, δ, S, rs, re, h⟩ => by
  unfold run at h
  refine ⟨φ, δ, S, rs, re, (OutS.st (rel := Rv X.K) re h).mono fun v H1 ⟨φ1, x, S1, e1, rs1, r1, h1⟩ => ?_⟩
  exact nx_ok h1 rs1 (re.ext e1)
theorem s_ret (he : GE X ec F W e ce) : GS X ec F W (.Return (some e) pos) (.ret ce) := PS.imp (ps_ret he) fun D σ H ⟨φ, δ, S, rs, re, h⟩ => by
  unfold run at h
  refine ⟨φ, δ, S, rs, re, (OutS.st (rel := Rv X.K) re h).mono fun v H1 ⟨φ1, x, S1, e1, rs1, r1, h1⟩ => ?_⟩
  exact h1 φ1 v H1 (Ext.refl _ _) rs1 r1
theorem s_retN : GS X ec F W (.Return none pos) (.ret (.con .non)) := PS.imp ps_retN fun D σ H ⟨φ, δ, S, rs, re, h⟩ => by
  unfold run at h
  rw [ev_con] at h
  exact h φ .non H (Ext.refl _ _) rs .non
theorem s_retF {i : Nat} {x : Str} {p' : Pos} (hN : X.N[i]? = some x) (hv : Vis X.env.scope x) (hd : (x == ("__debug__" : Str)) = false) (hcd : (x == ("__classdict__" : Str)) = false) : GS X ec F W (.Return (some (.Name x p')) pos) (.retF i) :=
  PS.imp (ps_ret (pe_var hN hv hd hcd)) fun D σ H ⟨φ, δ, S, rs, re, h⟩ => by
    unfold run at h
    cases e : δ[i]? with
    | none => simp only [e] at h; exact h.elim
    | some o =>
      cases o with
      | none => simp only [e] at h; exact h.elim
      | some d =>
        cases d with
        | ref q =>
          simp only [e] at h
          cases e2 : S[q]? with
          | none => simp only [e2] at h; exact h.elim
          | some cl =>
            cases cl with
            | lst ds =>
              simp only [e2] at h
              obtain ⟨v, h1, h2⟩ := re.2 i _ e
              obtain ⟨a, xs, rfl, h3, h4, h5⟩ := cell_at rs h2 e2
              exact ⟨_, h1, h (φ.cut q) (.ref a) H Ext.frz rs.frz (.lst h4 (free_frz rs h3) (h5.ext Ext.frz))⟩
            | dk _ => simp only [e2] at h; exact h.elim
            | dt _ => simp only [e2] at h; exact h.elim
            | gone => simp only [e2] at h; exact h.elim
        | _ => simp only [e] at h; exact h.elim
theorem s_asg {t : CT} (he : GE X ec F W e ce) (hg : GG X tg t) (hs : swapsWithSole [tg] e pos.line X.env = pure false) (hw : swappedStores [tg] e X.env = pure none) (h1 : (assignEach [tg] X.env).map (·.2) = [assign tg X.env]) :
    GS X ec F W (.Assign [tg] e pos) (.asg t ce) := PS.imp (ps_asg he hg hs hw h1) fun D σ H ⟨φ, δ, S, rs, re, h⟩ => by
  unfold run at h
  refine ⟨φ, δ, S, rs, re, (OutS.st (rel := Rv X.K) re h).mono fun v H1 ⟨φ1, x, S1, e1, rs1, r1, h1⟩ => ?_⟩
  cases e2 : stepT t x δ with
  | none => simp only [e2] at h1; exact h1.elim
  | some δ1 =>
    simp only [e2] at h1
    exact ⟨φ1, S1, x, δ, δ1, rs1, r1, re.ext e1, e2, fun σ' re' _ => nx_ok h1 rs1 re'⟩
/-- name = [.. for ..], on one line -/
theorem s_setLc {own : List (Str × Nat)} {ifs : List Expr} {scope : Scope} {t : CT} {isM : Bool} {i : Nat} {y : Str} {py : Pos} (hc : X.calm = true) (hN : X.N.Nodup) (hy : X.N[i]? = some y) (hyl : X.env.scope.names.lookup y = some .local)
    (hsw : swapsWith (.ListComp elt [⟨tg, it, ifs, 0⟩] scope p) (some (.Name y py)) pos.line X.env = pure true) (hi : GI X ec F W tg it ca) (ok : BlkOk X.N X.env.scope scope own)
    (hg : ∀ (s : Shared) (H : Hp) (C : Addr) (cl : List (Str × Addr)) (fp : List Addr), GG (X.blk s H scope (compEnvC scope cl C X.env) fp) tg t)
    (ht : ∀ (s : Shared) (H : Hp) (C : Addr) (cl : List (Str × Addr)) (fp : List Addr), GTs (X.blk s H scope (compEnvC scope cl C X.env) fp) ec F W0 ifs cc)
    (he : ∀ (s : Shared) (H : Hp) (C : Addr) (cl : List (Str × Addr)) (fp : List Addr), GE (X.blk s H scope (compEnvC scope cl C X.env) fp) ec F W0 elt ce) (hs : ∀ x, foldedSetIterable it X.env x = pure x)
    (hsl : ∀ i ∈ ctSlots t, i ∈ own.map (·.2)) : GS X ec F W (.Assign [.Name y py] (.ListComp elt [⟨tg, it, ifs, 0⟩] scope p) pos) (.asg (.nm i) (.comp ce t ca cc (own.map (·.2)) isM)) :=
  PS.imp (ps_setLc (g := rdG X.K t) (tt := rdT X.K ec F W0 cc) (te := rdE X.K ec F W0 ce) hc hN hy hyl hsw hi ok hg ht he hs) fun D σ H ⟨φ, δ, S, rs, re, h⟩ => by
    unfold run at h
    refine tLc_of (F := F) (ec := ec) (W := W) (isM := isM) hsl ⟨φ, δ, S, rs, re, (OutS.st (rel := Rv X.K) re h).mono fun v H1 ⟨φ1, x, S1, e1, rs1, r1, h1⟩ => ?_⟩
    by_cases hl : i < δ.length
    · simp only [stepT, if_pos hl] at h1
      exact nx_ok h1 rs1 ((re.ext e1).set r1)
    · simp only [stepT, if_neg hl] at h1
      exact h1.elim
/-- a, b = x, y with plain local names -/
theorem s_par {i j : Nat} {x y : Str} {px py pt : Pos} {kt k2 pt2} (hc : X.calm = true) (hN : X.N.Nodup) (hi : X.N[i]? = some x) (hj : X.N[j]? = some y) (hij : i ≠ j)
    (hx : X.env.scope.names.lookup x = some .local) (hy : X.env.scope.names.lookup y = some .local) (ha : GA X ec F W [a, b] ca)
    (hw : swappedStores [.Tuple [.Name x px, .Name y py] kt pt] (.Tuple [a, b] k2 pt2) X.env = pure (some [x, y])) (hs : swapsWithSole [.Tuple [.Name x px, .Name y py] kt pt] (.Tuple [a, b] k2 pt2) pos.line X.env = pure false) :
    GS X ec F W (.Assign [.Tuple [.Name x px, .Name y py] kt pt] (.Tuple [a, b] k2 pt2) pos) (.asg (.tp (.cons (.nm i) (.cons (.nm j) .nil))) (.tup ca)) :=
  PS.imp (ps_par hc hN hi hj hij hx hy ha hw hs) fun D σ H ⟨φ, δ, S, rs, re, h⟩ => by
    unfold run ev at h
    refine ⟨φ, δ, S, rs, re, ?_⟩
    cases e1 : evs F ca δ S with
    | stuck => rw [e1] at h; exact h
    | exc c a S1 => rw [e1] at h; exact fun φ' H' dd e' rs x => h φ' σ H' dd e' rs (re.ext e') x
    | ok ds S1 =>
      rw [e1, R.bind_ok, R.st_ok] at h
      intro φ1 vs H1 ex rs1 r1
      cases e2 : stepT (.tp (.cons (.nm i) (.cons (.nm j) .nil))) (.tup ds) δ with
      | none => rw [e2] at h; exact h.elim
      | some δ1 =>
        rw [e2] at h
        match ds, r1, e2 with
        | [d1, d2], r0, e2 =>
          obtain ⟨v, w, rfl, q1, q2⟩ := Rvs.two r0
          by_cases hl : i < δ.length
          · by_cases hl2 : j < δ.length
            · simp [stepT, stepT.go, hl, hl2] at e2
              subst e2
              exact ⟨v, w, rfl, h φ1 _ H1 ex rs1 (((re.ext ex).set q1).set q2)⟩
            · simp [stepT, stepT.go, hl, hl2] at e2
          · simp [stepT, stepT.go, hl] at e2
        | [], r0, e2 => simp [stepT, stepT.go] at e2
        | [d1], r0, e2 =>
          by_cases hl : i < δ.length <;> simp [stepT, stepT.go, hl] at e2
        | d1 :: d2 :: d3 :: dr, r0, e2 =>
          by_cases hl : i < δ.length <;> by_cases hl2 : j < δ.length <;> simp [stepT, stepT.go, hl, hl2] at e2
theorem Rvs.three {K : PySem.W.Frag} {φ : Phi} {H : Hp} {vs : List V} {a b c : D} (r : Rvs K φ H vs [a, b, c]) : ∃ u v w, vs = [u, v, w] ∧ Rv K φ H u a ∧ Rv K φ H v b ∧ Rv K φ H w c := by
  cases r with
  | cons r1 r => cases r with
    | cons r2 r => cases r with
      | cons r3 r => cases r with
        | nil => exact ⟨_, _, _, rfl, r1, r2, r3⟩
/-- a, b, c = x, y, z with plain local names -/
theorem s_par3 {i j l : Nat} {x y z : Str} {c : Expr} {px py pz pt : Pos} {kt k2 pt2} (hc : X.calm = true) (hN : X.N.Nodup) (hi : X.N[i]? = some x) (hj : X.N[j]? = some y) (hl : X.N[l]? = some z) (hij : i ≠ j) (hil : i ≠ l) (hjl : j ≠ l)
    (hx : X.env.scope.names.lookup x = some .local) (hy : X.env.scope.names.lookup y = some .local) (hz : X.env.scope.names.lookup z = some .local) (ha : GA X ec F W [a, b, c] ca)
    (hw : swappedStores [.Tuple [.Name x px, .Name y py, .Name z pz] kt pt] (.Tuple [a, b, c] k2 pt2) X.env = pure (some [x, y, z])) (hs : swapsWithSole [.Tuple [.Name x px, .Name y py, .Name z pz] kt pt] (.Tuple [a, b, c] k2 pt2) pos.line X.env = pure false) :
    GS X ec F W (.Assign [.Tuple [.Name x px, .Name y py, .Name z pz] kt pt] (.Tuple [a, b, c] k2 pt2) pos) (.asg (.tp (.cons (.nm i) (.cons (.nm j) (.cons (.nm l) .nil)))) (.tup ca)) :=
  PS.imp (ps_par3 hc hN hi hj hl hij hil hjl hx hy hz ha hw hs) fun D σ H ⟨φ, δ, S, rs, re, h⟩ => by
    unfold run ev at h
    refine ⟨φ, δ, S, rs, re, ?_⟩
    cases e1 : evs F ca δ S with
    | stuck => rw [e1] at h; exact h
    | exc c a S1 => rw [e1] at h; exact fun φ' H' dd e' rs x => h φ' σ H' dd e' rs (re.ext e') x
    | ok ds S1 =>
      rw [e1, R.bind_ok, R.st_ok] at h
      intro φ1 vs H1 ex rs1 r1
      cases e2 : stepT (.tp (.cons (.nm i) (.cons (.nm j) (.cons (.nm l) .nil)))) (.tup ds) δ with
      | none => rw [e2] at h; exact h.elim
      | some δ1 =>
        rw [e2] at h
        have e2' : stepT.go (.cons (.nm i) (.cons (.nm j) (.cons (.nm l) .nil))) ds δ = some δ1 := by simpa [stepT] using e2
        have hlen := go_len e2'
        match ds, r1, e2', hlen with
        | [d1, d2, d3], r0, e2, _ =>
          obtain ⟨v, w, u, rfl, q1, q2, q3⟩ := Rvs.three r0
          by_cases hl : i < δ.length
          · by_cases hl2 : j < δ.length
            · by_cases hl3 : l < δ.length
              · simp [stepT.go, hl, hl2, hl3] at e2
                subst e2
                exact ⟨v, w, u, rfl, h φ1 _ H1 ex rs1 ((((re.ext ex).set q1).set q2).set q3)⟩
              · simp [stepT.go, hl, hl2, hl3] at e2
            · simp [stepT.go, hl, hl2] at e2
          · simp [stepT.go, hl] at e2
/-- o[i] = e -/
theorem s_sub (hu : X.A.units + 65 < cLine) {i : Expr} {ci : CE} {p' : Pos} (he : GE X ec F W e ce) (ho : GE X ec F W o co) (hi : GE X ec F W i ci)
    (ha : ∀ v, assign (.Subscript o i p') X.env v = (do
      let ov ← holding [v] (eval o X.env)
      let iv ← holding [v, ov] (eval i X.env)
      standAt p'
      holding [v, ov, iv] (setItem ov iv v)
      release [v, ov, iv] [])) (hs : swapsWithSole [.Subscript o i p'] e pos.line X.env = pure false) (hw : swappedStores [.Subscript o i p'] e X.env = pure none) (h1 : (assignEach [.Subscript o i p'] X.env).map (·.2) = [assign (.Subscript o i p') X.env]) :
    GS X ec F W (.Assign [.Subscript o i p'] e pos) (.set co ci ce) := PS.imp (ps_asg he (pg_sub ho hi (z_set (by omega)) ha) hs hw h1) fun D σ H ⟨φ, δ, S, rs, re, h⟩ => by
  unfold run at h
  refine ⟨φ, δ, S, rs, re, (OutS.st (rel := Rv X.K) re h).mono fun v H1 ⟨φ1, x, S1, e1, rs1, r1, h1⟩ => ?_⟩
  refine ⟨φ1, δ, S1, rs1, re.ext e1, (OutS.st (rel := Rv X.K) (re.ext e1) h1).mono fun ov H2 ⟨φ2, y, S2, e2, rs2, r2, h2⟩ => ?_⟩
  refine ⟨φ2, δ, S2, rs2, (re.ext e1).ext e2, (OutS.st (rel := Rv X.K) ((re.ext e1).ext e2) h2).mono fun iv H3 ⟨φ3, z, S3, e3, rs3, r3, h3⟩ => ?_⟩
  refine ⟨φ3, S3, y, z, x, rs3, r2.ext e3, r3, r1.ext (e2.trans e3), ?_⟩
  cases e4 : setEv y z x S3 with
  | none => simp only [e4] at h3; exact h3.elim
  | some S4 =>
    simp only [e4] at h3
    exact fun H' ex rs' => h3 φ3 σ H' ex rs' ((((re.ext e1).ext e2).ext e3).ext ex)
theorem rdT_of {K : PySem.W.Frag} {φ : Phi} {H : Hp} {δ : Env} {S : Store} {σ : St} {D : Ends} {c : CE} {k1 k2 : Store → SR} (rs : Rs K φ S H) (re : RE K φ H δ σ) (h : OutS K ec W D φ H ((ev F c δ S).st δ fun x S1 => match x with
    | .bl true => k1 S1
    | .bl false => k2 S1
    | _ => .stuck)) : rdT K ec F W c σ H fun b H1 => ∃ φ1 S1, Rs K φ1 S1 H1 ∧ RE K φ1 H1 δ σ ∧ OutS K ec W D φ1 H1 (if b = true then k1 S1 else k2 S1) := by
  refine ⟨φ, δ, S, rs, re, fun d S' e => ?_, ?_⟩
  · rw [e, R.st_ok] at h
    cases d with
    | bl b => exact ⟨b, rfl⟩
    | _ => exact h.elim
  · refine (OutS.st (rel := relB) re h).mono fun v H1 ⟨φ1, x, S1, e1, rs1, r1, h1⟩ => ?_
    cases r1
    refine ⟨φ1, S1, rs1, re.ext e1, ?_⟩
    cases v with
    | true => rw [if_pos rfl]; exact h1
    | false => rw [if_neg Bool.false_ne_true]; exact h1
theorem s_if (hc : GT X ec F W c cc) (ha : GSs X ec F W sts cs) (hb : GSs X ec F W body cr) : GS X ec F W (.If c sts body pos) (.ife cc cs cr) := PS.imp (ps_if hc ha hb) fun D σ H ⟨φ, δ, S, rs, re, h⟩ => by
  unfold run at h
  obtain ⟨φ0, δ0, S0, q1, q2, q3, q4⟩ := rdT_of (k1 := fun S1 => run F cs δ S1) (k2 := fun S1 => run F cr δ S1) rs re h
  refine ⟨φ0, δ0, S0, q1, q2, q3, q4.mono fun b H1 ⟨φ1, S1, rs1, re1, h1⟩ => ?_⟩
  cases b with
  | true => rw [if_pos rfl] at h1 ⊢; exact ⟨φ1, δ, S1, rs1, re1, h1⟩
  | false => rw [if_neg Bool.false_ne_true] at h1 ⊢; exact ⟨φ1, δ, S1, rs1, re1, h1⟩
theorem s_while (hp : PassesOwn (model X.prog X.w) X.A X.env X.xe) (hc : GT X ec F W c cc) (hb : GSs X ec F W body cs) : GS X ec F W (.While c body [] pos) (.whl cc cs) := PS.imp (ps_while hp hc hb) fun D σ H ⟨φ, δ, S, rs, re, h⟩ => by
  unfold run at h
  have ns : loopW (wstep (ev F cc) (run F cs)) (δ, S) ≠ .stuck := fun z => by
    rw [z] at h
    exact h
  obtain ⟨n, hn⟩ := loopW_ended ns
  refine ⟨fun m σ' H' => ∃ φ' δ' S' r, Rs X.K φ' S' H' ∧ RE X.K φ' H' δ' σ' ∧ iterW (wstep (ev F cc) (run F cs)) m (δ', S') = some r ∧ OutS X.K ec W D φ' H' r, ⟨n, φ, δ, S, _, rs, re, hn, h⟩, ?_⟩
  rintro m σ1 H1 ⟨φ1, δ1, S1, r, rs1, re1, hm, h1⟩
  cases m with
  | zero => cases hm
  | succ m =>
    unfold iterW wstep at hm
    have bad : r ≠ .stuck := fun z => by
      subst z
      exact h1
    dsimp only at hm
    refine ⟨φ1, δ1, S1, rs1, re1, fun d S' e => ?_, ?_⟩
    · rw [e] at hm
      cases d with
      | bl b => exact ⟨b, rfl⟩
      | _ => cases hm; exact absurd rfl bad
    · cases e2 : ev F cc δ1 S1 with
      | stuck => rw [e2] at hm; cases hm; exact absurd rfl bad
      | exc c a S2 =>
        rw [e2] at hm
        cases hm
        exact fun φ' H' dd e' rs x => h1 φ' σ1 H' dd e' rs (re1.ext e') x
      | ok d S2 =>
        rw [e2] at hm
        intro φ2 b H2 ex2 rs2 r2
        cases r2
        have re2 := re1.ext ex2
        have h2 := OutS.ext ex2 h1
        cases b with
        | false =>
          rw [if_neg Bool.false_ne_true]
          cases hm
          exact nx_ok h2 rs2 re2
        | true =>
          rw [if_pos rfl]
          dsimp only at hm
          refine ⟨fun σ' H' => ∃ φ' δ' S', Rs X.K φ' S' H' ∧ RE X.K φ' H' δ' σ' ∧ iterW (wstep (ev F cc) (run F cs)) m (δ', S') = some r ∧ OutS X.K ec W D φ' H' r, fun σ' H' ⟨φ', δ', S', a1, a2, a3, a4⟩ => ⟨m, Nat.lt_succ_self m, φ', δ', S', r, a1, a2, a3, a4⟩, φ2, δ1, S2, rs2, re2, ?_⟩
          cases e3 : run F cs δ1 S2 with
          | nx δ3 S3 =>
            rw [e3] at hm
            exact fun φ' σ' H' e' rs' re' => ⟨φ', δ3, S3, rs', re', hm, OutS.ext e' h2⟩
          | bk δ3 S3 => rw [e3] at hm; cases hm; exact h2
          | rt d S3 => rw [e3] at hm; cases hm; exact h2
          | xc c a δ3 S3 => rw [e3] at hm; cases hm; exact h2
          | stuck => rw [e3] at hm; cases hm; exact absurd rfl bad
theorem s_for {t : CT} (hp : PassesOwn (model X.prog X.w) X.A X.env X.xe) (hc : X.calm = true) (hi : GI X ec F W tg it ca) (hg : GG X tg t) (hb : GSs X ec F W body cs) (hs : ∀ x, foldedSetIterable it X.env x = pure x) :
    GS X ec F W (.For tg it body [] pos) (.fr t ca cs) := PS.imp (ps_for hp hc hi hg hb hs) fun D σ H ⟨φ, δ, S, rs, re, h⟩ => by
  unfold run at h
  refine ⟨φ, δ, S, rs, re, (OutS.st (rel := fun φ H J w => WalkJ X.K φ H J w) re h).mono fun J H1 ⟨φ1, w, S1, e1, rs1, wj, h1⟩ => ?_⟩
  let Ph : Nat → St → Hp → Prop := fun i σ' H' => ∃ φ' δ' S', Ext φ1 H1 φ' H' ∧ Rs X.K φ' S' H' ∧ RE X.K φ' H' δ' σ' ∧ OutS X.K ec W D φ' H' (forEv (run F cs) t w (w.items.drop i) δ' S')
  refine ⟨fun i m σ' H' => m + i = w.items.length ∧ Ph i σ' H', ⟨w.items.length, by omega, φ1, δ, S1, Ext.refl _ _, rs1, re.ext e1, h1⟩, ?_⟩
  rintro i m σ2 H2 ⟨hm, φ2, δ2, S2, e2, rs2, re2, h2⟩
  have ns : forEv (run F cs) t w (w.items.drop i) δ2 S2 ≠ .stuck := fun z => by
    rw [z] at h2
    exact h2
  by_cases hi : i < w.items.length
  · right
    have hd : w.items[i]? = some w.items[i] := by simp [hi]
    have hdr : w.items.drop i = w.items[i] :: w.items.drop (i + 1) := List.drop_eq_getElem_cons hi
    rw [hdr] at h2 ns
    generalize w.items[i] = d at hd h2 ns
    unfold forEv at h2 ns
    by_cases hw : w.At S2
    · simp only [if_pos hw] at h2 ns
      obtain ⟨hgo, hyd⟩ := (wj φ2 S2 H2 e2 rs2 hw).1 i d hd
      refine ⟨hgo, Ph (i + 1), fun σ' H' q => ⟨m - 1, by omega, by omega, q⟩, fun x H3 y => ?_⟩
      obtain ⟨rfl, rx⟩ := hyd x H3 y
      cases e3 : stepT t d δ2 with
      | none => simp only [e3] at ns; exact absurd rfl ns
      | some δ3 =>
        simp only [e3] at h2 ns
        refine ⟨φ2, S2, d, δ2, δ3, rs2, rx, re2, e3, fun σ3 re3 off => ?_⟩
        refine ⟨φ2, δ3, S2, rs2, re3, ?_⟩
        cases e4 : run F cs δ3 S2 with
        | nx δ4 S4 =>
          simp only [e4] at h2
          exact fun φ' σ' H' e' rs' re' => ⟨φ', δ4, S4, e2.trans e', rs', re', OutS.ext e' h2⟩
        | bk δ4 S4 => simp only [e4] at h2; exact h2
        | rt d S4 => simp only [e4] at h2; exact h2
        | xc c a δ4 S4 => simp only [e4] at h2; exact h2
        | stuck => simp only [e4] at ns; exact absurd rfl ns
    · simp only [if_neg hw] at ns
      exact absurd rfl ns
  · left
    have ei : i = w.items.length := by omega
    subst ei
    rw [List.drop_length] at h2 ns
    unfold forEv at h2 ns
    by_cases hw : w.At S2
    · simp only [if_pos hw] at h2 ns
      exact ⟨(wj φ2 S2 H2 e2 rs2 hw).2, nx_ok h2 rs2 re2⟩
    · simp only [if_neg hw] at ns
      exact absurd rfl ns
/-! ### raise, try -/
/-- a class whose instances are raised -/
structure RaC (X : Cx) (ec : Nat → Value) (x : Str) (c : Nat) : Prop where
  ok : ∃ C, X.mg x = some (.ref C) ∧ ec c = .ref C ∧ PySem.W.excIn X.K C [.type "ValueError", .type "Exception", .type "BaseException", .type "object"] "ValueError.__new__" = true ∧ PySem.W.keepIn X.K (.ref C) = true ∧
    PySem.W.subIn X.K (.ref C) (.type "BaseException") = some true ∧ PySem.W.typeIn X.K (.ref C) = some (.type "type")
theorem s_raise {x m : Str} {j : Nat} {k : Nat} {p1 p2 p3 : Pos} (hc : X.calm = true) (tk : L2N.Takes X W) (hg : Gl X x) (hd : (x == ("__debug__" : Str)) = false) (C : RaC X ec x k) :
    GS X ec F W (.Raise (some (.Call (.Name x p1) [.Constant (.str m) j p2] [] p3)) none pos) (.rais k (.con .non)) := by
  obtain ⟨C, h1, h2, h3, h4, h5, h6⟩ := C.ok
  refine PS.imp (L2N.ps_raise hc tk (L2N.pmk_own PySem.F.excBase_ValueError h3 h1 h4 (raises_own h5 h6) hg hd)) fun D σ H ⟨φ, δ, S, rs, re, h⟩ => ?_
  unfold run ev at h
  have z := h φ σ H none (Ext.refl _ _) rs re rfl
  rw [h2] at z
  exact z
/-- a clause's class -/
structure TrC (X : Cx) (x : Str) (k : Nat) : Prop where
  ok : ∃ cv, Names X x cv ∧ ∀ c, c < excNames.length → PySem.W.exmOne X.K (clsK X.K c) cv = some (decide (k = 0 ∨ k = c))
theorem RE.set1 {K : PySem.W.Frag} {φ : Phi} {H : Hp} {δ : Env} {σ : St} {i : Nat} {v : V} {d : D} (re : RE K φ H δ σ) (r : Rv K φ H v d) : RE K φ H (δ.set i (some d)) (σ.set i (some v)) := by
  refine ⟨by rw [List.length_set, List.length_set]; exact re.1, fun j x h => ?_⟩
  rw [List.getElem?_set] at h ⊢
  split at h
  · rename_i e
    subst e
    split at h
    · rename_i hl
      cases h
      rw [if_pos rfl, if_pos (by rw [← re.1]; exact hl)]
      exact ⟨v, rfl, r⟩
    · cases h
  · rename_i e
    rw [if_neg e]
    exact re.2 j x h
theorem RE.set0 {K : PySem.W.Frag} {φ : Phi} {H : Hp} {δ : Env} {σ : St} {i : Nat} (re : RE K φ H δ σ) : RE K φ H (δ.set i none) (σ.set i none) := by
  refine ⟨by rw [List.length_set, List.length_set]; exact re.1, fun j x h => ?_⟩
  rw [List.getElem?_set] at h ⊢
  split at h
  · split at h <;> cases h
  · rename_i e
    rw [if_neg e]
    exact re.2 j x h
theorem s_try {x n : Str} {i k : Nat} (hk0 : k < 100) {b₀ : Stmt} {suite : List Stmt} {np pos' : Pos} (he : ec = clsK X.K) (hs : X.stack = X.env :: X.outer) (hf : X.env.frame = some X.env.locals) (hN : X.N.Nodup) (hi : X.N[i]? = some n) (hln : X.env.kindOf n = some .local) (C : TrC X x k) (tk : L2N.Takes X W)
    (hb : ∀ (W' : WX) (pn : List (Addr × Obj)) (xe : Value → Shared → Prop), L2N.Takes (X.tr pn xe) W' → PassesOwn (model X.prog X.w) X.A X.env xe → GSs (X.tr pn xe) ec F W' body cs)
    (hsu : ∀ (a : Addr) (pn : List (Addr × Obj)), GSs (X.suite a pn) ec F WF (b₀ :: suite) cr) :
    GS X ec F W (.Try body [.ExceptHandler (some (.Name x np)) (some n) (b₀ :: suite) pos'] [] [] pos) (.tr cs k i cr) := by
  subst he
  obtain ⟨cv, hc, hx⟩ := C.ok
  refine PS.imp (try_x (tb := fun W' => rdS X.K (clsK X.K) F W' cs) (ts := rdS X.K (clsK X.K) F WF cr) hs hf hN hi hln hc tk hb hsu) fun D σ H ⟨φ, δ, S, rs, re, h⟩ => ⟨φ, δ, S, rs, re, ?_⟩
  unfold run at h
  cases q : run F cs δ S with
  | nx δ1 S1 => rw [q] at h; exact h
  | rt d S1 => rw [q] at h; exact h
  | bk δ1 S1 => rw [q] at h; exact h
  | stuck => rw [q] at h; exact h
  | xc c a δ1 S1 =>
    rw [q] at h
    simp only at h
    by_cases hl : c < excNames.length
    · rw [if_pos hl, if_pos hk0] at h
      by_cases hk : k = 0 ∨ k = c
      · rw [if_pos hk] at h
        cases a with
        | non =>
          intro φ1 σ1 H1 dd e1 rs1 re1 xd
          refine ⟨true, by rw [hx c hl, decide_eq_true hk], fun _ => ⟨xd, fun p hp => ?_⟩, fun z => Bool.noConfusion z⟩
          have e2 : Ext φ1 H1 φ1 (upd H1 p (XO (clsK X.K c) p)) := Ext.fresh hp
          have rv : Rv X.K φ1 (upd H1 p (XO (clsK X.K c) p)) (.ref p) (.exc c .non) := .exc hl upd_same (rs1.free hp)
          refine ⟨φ1, δ1.set i (some (.exc c .non)), S1, rs1.fresh hp, (re1.ext e2).set1 rv, ?_⟩
          simp only at h
          cases q2 : run F cr (δ1.set i (some (.exc c .non))) S1 with
          | nx δ2 S2 =>
            rw [q2] at h
            exact fun φ3 σ3 H3 e3 rs3 re3 => h φ3 (σ3.set i none) H3 ((e1.trans e2).trans e3) rs3 re3.set0
          | rt d S2 =>
            rw [q2] at h
            exact fun φ3 v H3 e3 rs3 rv3 => h φ3 v H3 ((e1.trans e2).trans e3) rs3 rv3
          | bk δ2 S2 => rw [q2] at h; exact h.elim
          | xc c2 a2 δ2 S2 => rw [q2] at h; exact h.elim
          | stuck => rw [q2] at h; exact h.elim
        | _ => exact h.elim
      · rw [if_neg hk] at h
        intro φ1 σ1 H1 dd e1 rs1 re1 xd
        exact ⟨false, by rw [hx c hl, decide_eq_false hk], fun z => Bool.noConfusion z, fun _ => h φ1 σ1 H1 dd e1 rs1 re1 xd⟩
    · rw [if_neg hl] at h
      exact h.elim
theorem s_try0 {x : Str} {k : Nat} {b₀ : Stmt} {suite : List Stmt} {np pos' : Pos} (he : ec = clsK X.K) (hs : X.stack = X.env :: X.outer) (hf : X.env.frame = some X.env.locals) (C : TrC X x k) (tk : L2N.Takes X W)
    (hb : ∀ (W' : WX) (pn : List (Addr × Obj)) (xe : Value → Shared → Prop), L2N.Takes (X.tr pn xe) W' → PassesOwn (model X.prog X.w) X.A X.env xe → GSs (X.tr pn xe) ec F W' body cs)
    (hsu : ∀ (a : Addr) (pn : List (Addr × Obj)), GSs (X.suite a pn) ec F WF (b₀ :: suite) cr) :
    GS X ec F W (.Try body [.ExceptHandler (some (.Name x np)) none (b₀ :: suite) pos'] [] [] pos) (.tr cs (100 + k) 0 cr) := by
  subst he
  obtain ⟨cv, hc, hx⟩ := C.ok
  refine PS.imp (L2N.ps_try_many (tb := fun W' => rdS X.K (clsK X.K) F W' cs) hs hf tk hb (.cons (ts := fun _ _ _ => rdS X.K (clsK X.K) F WF cr) hc (fun a oe cls d pn _ _ => hsu a ((a, oe) :: pn)) .nil)) fun D σ H ⟨φ, δ, S, rs, re, h⟩ => ⟨φ, δ, S, rs, re, ?_⟩
  unfold run at h
  cases q : run F cs δ S with
  | nx δ1 S1 => rw [q] at h; exact h
  | rt d S1 => rw [q] at h; exact h
  | bk δ1 S1 => rw [q] at h; exact h
  | stuck => rw [q] at h; exact h
  | xc c a δ1 S1 =>
    rw [q] at h
    simp only at h
    have hk0 : ¬ (100 + k < 100) := by omega
    by_cases hl : c < excNames.length
    · rw [if_pos hl, if_neg hk0] at h
      intro φ1 σ1 H1 dd e1 rs1 re1 xd
      by_cases hk : k = 0 ∨ k = c
      · rw [if_pos (by omega)] at h
        refine ⟨true, by rw [hx c hl, decide_eq_true hk], fun _ p hp => ⟨φ1, δ1, S1, rs1, re1, ?_⟩, fun z => Bool.noConfusion z⟩
        cases q2 : run F cr δ1 S1 with
        | nx δ2 S2 => rw [q2] at h; exact fun φ3 σ3 H3 e3 rs3 re3 => h φ3 σ3 H3 (e1.trans e3) rs3 re3
        | rt d S2 => rw [q2] at h; exact fun φ3 v H3 e3 rs3 rv3 => h φ3 v H3 (e1.trans e3) rs3 rv3
        | bk δ2 S2 => rw [q2] at h; exact h.elim
        | xc c2 a2 δ2 S2 => rw [q2] at h; exact h.elim
        | stuck => rw [q2] at h; exact h.elim
      · rw [if_neg (by omega)] at h
        exact ⟨false, by rw [hx c hl, decide_eq_false hk], fun z => Bool.noConfusion z, fun _ => h φ1 σ1 H1 dd e1 rs1 re1 xd⟩
    · rw [if_neg hl] at h
      exact h.elim
end
end Z

/-! Z, part H: from the program's text to the small language. -/
namespace Z
open PySem PySem.Spec PyProof.Rows L2
/-! ### what is known of the names -/
structure Sc where
  N : List Str
  sc : Scope
  fn : Str → Bool
  mv : List Nat
  rm : Bool
  calm : Bool
structure Tab where
  fns : List (Str × Nat)
  cons : List (Str × D)
  bl : List Str
  ex : List (Str × Nat)
  hot : List Str
  full : Bool
def visB (sc : Scope) (x : Str) : Bool := match sc.names.lookup x with
  | some .local => true
  | some .cell => true
  | some .free => true
  | _ => false
def locB (s : Sc) (x : Str) : Bool := match s.sc.names.lookup x with
  | some .local => true
  | some .cell => s.fn x
  | _ => false
def glB (sc : Scope) (x : Str) : Bool := match sc.names.lookup x with
  | some .globalImplicit => true
  | _ => false
def okName (x : Str) : Bool := !(x == ("__debug__" : Str)) && !(x == ("__classdict__" : Str))
def ixOf (N : List Str) (x : Str) : Option Nat := N.findIdx? (· == x)
theorem ixOf_at {N : List Str} {x : Str} {i : Nat} (h : ixOf N x = some i) : N[i]? = some x := by
  unfold ixOf at h
  rw [List.findIdx?_eq_some_iff_getElem] at h
  obtain ⟨hi, h1, _⟩ := h
  rw [List.getElem?_eq_getElem hi]
  exact congrArg some (beq_iff_eq.mp h1)
def unBop : Operator → Option Bop
  | .Add => some .add
  | .Sub => some .sub
  | .Mult => some .mul
  | .FloorDiv => some .fdiv
  | .Mod => some .mod
  | .Pow => some .pow
  | _ => none
theorem unBop_of {op : Operator} {b : Bop} (h : unBop op = some b) : op = bopOp b := by
  cases op <;> cases h <;> rfl
def unCop : CmpOp → Cop
  | .Eq => .eq | .NotEq => .ne | .Lt => .lt | .LtE => .le | .Gt => .gt | .GtE => .ge | .Is => .is | .IsNot => .isnot | .In => .isin | .NotIn => .notin
theorem unCop_of (op : CmpOp) : op = copOp (unCop op) := by cases op <;> rfl
def notSet : Expr → Bool
  | .Set _ _ _ => false
  | _ => true
theorem marks_of {op : CmpOp} {b : Expr} (h : notSet b = true) : behindInMarks op b = false := by
  cases b <;> first | rfl | cases h
theorem folded_of {e : Expr} (env : PySem.Env) (h : notSet e = true) : ∀ x, foldedSetIterable e env x = pure x := by
  intro x
  cases e <;> first | rfl | cases h
def plainIx : Expr → Bool
  | .Slice _ _ _ _ => false
  | _ => true
theorem plainIx_of {e : Expr} (h : plainIx e = true) : PlainIx e := fun o i => by
  cases e <;> first | rfl | cases h
def bltTab : List (Str × Blt) := [("len", .len), ("abs", .abs), ("int", .int), ("str", .str), ("tuple", .tuple), ("list", .list), ("all", .all), ("any", .any), ("sum", .sum), ("min", .min), ("max", .max), ("sorted", .sorted)]
def bltOf (x : Str) : Option Blt := bltTab.lookup x
theorem bltTab_ok : ∀ q ∈ bltTab, q.1 = bltName q.2 ∧ bltOk q.2 = true := by
  unfold bltTab
  repeat (refine List.forall_mem_cons.mpr ⟨⟨rfl, rfl⟩, ?_⟩)
  exact fun q h => by cases h
theorem bltOf_ok {x : Str} {b : Blt} (h : bltOf x = some b) : x = bltName b ∧ bltOk b = true := bltTab_ok (x, b) (PySem.mem_of_lookup h)
def tyOf (x : Str) : Option Ty :=
  if x == ("int" : Str) then some .int else if x == ("bool" : Str) then some .bool else if x == ("str" : Str) then some .str else if x == ("tuple" : Str) then some .tup else if x == ("list" : Str) then some .lst else if x == ("dict" : Str) then some .dict else none
theorem tyOf_ok {x : Str} {t : Ty} (h : tyOf x = some t) : x = tyStr t ∧ ∀ c, t ≠ .own c := by
  unfold tyOf at h
  repeat' (split at h <;> first | (cases h; rename_i e; exact ⟨beq_iff_eq.mp e, fun c z => by cases z⟩) | skip)
  cases h
/-- an expression that may stand as a test -/
def tstB : Expr → Bool
  | .IfExp _ _ _ _ => false
  | _ => true
/-- .. as a test it is its value's truth -/
def plainT : Expr → Bool
  | .IfExp _ _ _ _ => false
  | .UnaryOp .Not _ _ => false
  | .BoolOp _ _ _ => false
  | .Compare _ _ _ _ => false
  | _ => true
theorem plainT_of {e : Expr} (env : PySem.Env) (h : plainT e = true) : ∀ whole, isTrue e env whole = (do let v ← whole; standAt e.pos; holding [v] (truthy v)) := fun whole => by
  cases e <;> first | rfl | (cases h; done) | skip
  rename_i op _ _
  cases op <;> first | rfl | cases h
def starNo : Expr → Bool := noStar
def ownOf (N : List Str) (scope : Scope) : List (Str × Nat) := scope.names.filterMap fun (x, k) => match k with
  | .local => (ixOf N x).map fun i => (x, i)
  | .cell => (ixOf N x).map fun i => (x, i)
  | _ => none
def subB (a b : List Nat) : Bool := a.all fun i => b.any fun j => i == j
theorem subB_of {a b : List Nat} (h : subB a b = true) : ∀ i ∈ a, i ∈ b := fun i hi => by
  have h1 := List.all_eq_true.mp h i hi
  obtain ⟨j, hj, e⟩ := List.any_eq_true.mp h1
  rw [beq_iff_eq.mp e]
  exact hj
def blkSc (s : Sc) (scope : Scope) : Sc := { s with sc := relS scope s.sc, fn := fun x => scope.names.lookup x == some .cell }
/-- a target -/
def cTs (s : Sc) : List Expr → Option CT
  | [] => some .nil
  | .Name x _ :: ts => if locB s x then (match ixOf s.N x, cTs s ts with
    | some i, some t => some (.cons (.nm i) t)
    | _, _ => none) else none
  | _ :: _ => none
def cT (s : Sc) : Expr → Option CT
  | .Name x _ => if locB s x then (ixOf s.N x).map .nm else none
  | .Tuple ts _ _ => if s.calm then (cTs s ts).map .tp else none
  | _ => none
def isMut (s : Sc) (t : CT) : Bool := match t with
  | .nm i => s.mv.any fun j => i == j
  | _ => false
/-- displays that will change -/
def mkM : Nat → CE → CE
  | n + 1, .lst es => .mlst (mkMs n es)
  | _, c => c
where mkMs : Nat → CE → CE
  | n + 1, .cons e es => .cons (mkM n e) (mkMs n es)
  | _, c => c
def cList (f : Expr → CE) : List Expr → CE
  | [] => .nil
  | e :: es => .cons (f e) (cList f es)
def cBool (f : Expr → CE) (isAnd : Bool) : List Expr → CE
  | [] => .nil
  | [e] => f e
  | e :: es => if isAnd then .and (f e) (cBool f isAnd es) else .or (f e) (cBool f isAnd es)
def cOpt (f : Expr → CE) : Option Expr → CE
  | none => .nil
  | some e => .one (f e)
def few (c : CE) : Bool := decide (esLen c ≤ 1000)
mutual
def cE (T : Tab) : Nat → Sc → Expr → CE
  | 0, _, _ => .nil
  | n + 1, s, e => match e with
    | .Name x _ => if okName x then (if visB s.sc x then (match ixOf s.N x with
        | some i => .var i
        | none => .nil) else if glB s.sc x then (match T.cons.lookup x with
          | some d => .con d
          | none => .nil) else .nil) else .nil
    | .Constant (.int i) _ _ => .con (.int i)
    | .Constant (.bool b) _ _ => .con (.bl b)
    | .Constant (.str x) _ _ => .con (.str x)
    | .Constant .none _ _ => .con .non
    | .Tuple es _ _ => if noStars es && few (cList (cE T n s) es) then .tup (cList (cE T n s) es) else .nil
    | .List es _ => if noStars es && few (cList (cE T n s) es) then .lst (cList (cE T n s) es) else .nil
    | .BinOp a op b _ => match unBop op with
      | some o => .bin o (cE T n s a) (cE T n s b)
      | none => .nil
    | .UnaryOp .USub a _ => .neg (cE T n s a)
    | .UnaryOp .Not a _ => if tstB a then .not (cE T n s a) else .nil
    | .BoolOp op vs _ => if vs.all tstB then cBool (cE T n s) (match op with | .And => true | .Or => false) vs else .nil
    | .Compare a [op] [b] _ => if notSet b then .cmp (unCop op) (cE T n s a) (cE T n s b) else .nil
    | .Compare a [o1, o2] [b, c] _ => if notSet c then .chain (unCop o1) (unCop o2) (cE T n s a) (cE T n s b) (cE T n s c) else .nil
    | .IfExp t a b _ => if tstB t then .ife (cE T n s t) (cE T n s a) (cE T n s b) else .nil
    | .Dict [] [] _ => .edic
    | .Subscript a (.Slice none none (some (.UnaryOp .USub (.Constant (.int 1) _ _) _)) _) _ => .rev (cE T n s a)
    | .Subscript a (.Slice lo hi none _) _ => .sl (cE T n s a) (cOpt (cE T n s) lo) (cOpt (cE T n s) hi)
    | .Subscript a i _ => if plainIx i then .idx (cE T n s a) (cE T n s i) else .nil
    | .Call (.Name f _) args [] _ => if okName f && glB s.sc f && noStars args then (match T.fns.lookup f with
      | some i => if s.calm || T.hot.contains f then .call i (cList (cE T n s) args) else .nil
      | none => if f == ("isinstance" : Str) then (match args with
          | [a, .Name t _] => (match tyOf t with
            | some ty => if T.bl.contains f && T.bl.contains t && glB s.sc t then .isi (cE T n s a) ty else .nil
            | none => match T.ex.lookup t with
              | some c => if T.full && T.bl.contains f && glB s.sc t && okName t && !(t == ("__name__" : Str)) then .isi (cE T n s a) (.own c) else .nil
              | none => .nil)
          | _ => .nil)
        else if f == ("list" : Str) then (if T.bl.contains f && s.calm then (match args with
          | [.Call (.Name g _) [a, b] [] _] => if g == ("range" : Str) && (glB s.sc g && (T.bl.contains g && noStars [a, b])) then .rgl (cE T n s a) (cE T n s b) else .nil
          | _ :: _ => .blt .list (cList (cE T n s) args)
          | [] => .nil) else .nil)
        else match bltOf f, args with
          | some b, _ :: _ => if T.bl.contains f && s.calm then .blt b (cList (cE T n s) args) else .nil
          | _, _ => .nil) else .nil
    | .Call (.Attribute o m apos) args [] pos => if plainBase o && (apos.endLine == pos.line) then (match args with
      | [a] => if m == ("append" : Str) && noStar a then .mth .append (cE T n s o) (.cons (cE T n s a) .nil)
        else if m == ("count" : Str) && noStar a then .mth .count (cE T n s o) (.cons (cE T n s a) .nil)
        else if m == ("index" : Str) && noStar a then .mth .index (cE T n s o) (.cons (cE T n s a) .nil) else .nil
      | [a, b] => if m == ("setdefault" : Str) && noStars [a, b] then .setd (cE T n s o) (cE T n s a) (cE T n s b)
        else if m == ("insert" : Str) && noStars [a, b] then .mth .insert (cE T n s o) (.cons (cE T n s a) (.cons (cE T n s b) .nil)) else .nil
      | [] => if m == ("reverse" : Str) then .mth .reverse (cE T n s o) .nil else if m == ("pop" : Str) then .mth .pop (cE T n s o) .nil else .nil
      | _ => .nil) else .nil
    | .ListComp elt [⟨tg, it, ifs, 0⟩] scope _ => cLc T n s elt tg it ifs scope false
    | _ => .nil
/-- what is walked -/
def cI (T : Tab) : Nat → Sc → Expr → CE
  | 0, _, _ => .nil
  | n + 1, s, it => match it with
    | .Call (.Name f _) [a] [] _ => if f == ("range" : Str) && okName f && glB s.sc f && T.bl.contains f && noStar a then .rng (.con (.int 0)) (cE T n s a) else .one (cE T n s it)
    | .Call (.Name f _) [a, b] [] _ => if f == ("range" : Str) && okName f && glB s.sc f && T.bl.contains f && noStars [a, b] then .rng (cE T n s a) (cE T n s b) else .one (cE T n s it)
    | e => .one (cE T n s e)
def cLc (T : Tab) : Nat → Sc → Expr → Expr → Expr → List Expr → Scope → Bool → CE
  | 0, _, _, _, _, _, _, _ => .nil
  | n + 1, s, elt, tg, it, ifs, scope, isM =>
    if notSet it && blkC s.N s.sc scope (ownOf s.N scope) && s.calm then (match cT (blkSc s scope) tg with
      | some t => if subB (ctSlots t) ((ownOf s.N scope).map (·.2)) then (match ifs with
        | [] => .comp (cE T n (blkSc s scope) elt) t (cI T n s it) (.con (.bl true)) ((ownOf s.N scope).map (·.2)) isM
        | [c] => if tstB c then .comp (cE T n (blkSc s scope) elt) t (cI T n s it) (cE T n (blkSc s scope) c) ((ownOf s.N scope).map (·.2)) isM else .nil
        | _ => .nil) else .nil
      | none => .nil) else .nil
end
/-! ### it says what the text says -/
/-- the classes of what is refused, as the text names them -/
structure ExD (X : Cx) (x : Str) (k : Nat) : Prop where
  ok : ∃ cv, IsC X.K cv k ∧ ((∃ C, cv = .ref C ∧ X.mg x = some (.ref C)) ∨ (∃ n, cv = .type n ∧ X.mg x = none ∧ bootBuiltins x = some (.type n)))
structure TrD (X : Cx) (x : Str) (k : Nat) : Prop where
  ok : ∃ cv, X.mg x = some cv ∧ ∀ c, c < excNames.length → PySem.W.exmOne X.K (clsK X.K c) cv = some (decide (k = 0 ∨ k = c))
structure Xok (T : Tab) (ec : Nat → Value) (F : Fn) (W : WX) (r : Nat) (s : Sc) (X : Cx) : Prop where
  N : X.N = s.N
  nd : s.N.Nodup
  sc : X.env.scope = s.sc
  kind : s.sc.kind = .function
  fn : X.fn = s.fn
  calm : s.calm = true → X.calm = true
  quiet : s.calm = false → W = WF
  hu : X.A.units + 65 < cLine
  room : s.calm = true → Room r X.A
  roomH : L2H.RoomH r X.A
  tk : L2N.Takes X W
  bl : ∀ x, T.bl.contains x = true → X.mg x = none
  fns : ∀ x i, T.fns.lookup x = some i → Callee X ec F r x i
  fnsQ : ∀ x i, T.hot.contains x = true → T.fns.lookup x = some i → CalleeQ X ec F r x i
  cons : ∀ x d, T.cons.lookup x = some d → ∃ u v, X.mg x = some u ∧ RelV v u ∧ ∀ φ H, Rv X.K φ H v d
  exd : T.full = true → ∀ x k, T.ex.lookup x = some k → ExD X x k
  rad : ∀ x k, T.ex.lookup x = some k → 1 ≤ k → k ≤ 17 → RaC X ec x k
  trd : T.full = true → ∀ x k, T.ex.lookup x = some k → k < excNames.length → TrD X x k
  ecK : ec = clsK X.K
  sx : SeerX X
theorem takesN0 {X : Cx} : L2N.Takes X W0 := fun _ _ x => by
  obtain ⟨_, _, _, _, _, _, _, _, _, _, _, _, _, _, _, _, z⟩ := x
  exact z.elim
section
variable {T : Tab} {ec : Nat → Value} {F : Fn} {W : WX} {r : Nat} {s : Sc} {X : Cx}
theorem Xok.vis (k : Xok T ec F W r s X) {x : Str} (h : visB s.sc x = true) : Vis X.env.scope x := by
  rw [k.sc]
  unfold visB at h
  unfold Vis
  cases e : s.sc.names.lookup x with
  | none => rw [e] at h; cases h
  | some q => cases q <;> simp [e] at h ⊢
theorem Xok.loc (k : Xok T ec F W r s X) {x : Str} (h : locB s x = true) : L2.Loc X.env.scope x ∧ (X.fn x = true ∨ X.env.scope.names.lookup x = some .local) := by
  rw [k.sc, k.fn]
  unfold locB at h
  unfold L2.Loc
  cases e : s.sc.names.lookup x with
  | none => rw [e] at h; cases h
  | some q => cases q <;> simp [e] at h ⊢; exact h
theorem Xok.gl (k : Xok T ec F W r s X) {x : Str} (h : glB s.sc x = true) : Gl X x := by
  unfold Gl Env.kindOf
  rw [k.sc]
  unfold glB at h
  cases e : s.sc.names.lookup x with
  | none => rw [e] at h; cases h
  | some q => cases q <;> simp [e] at h ⊢
theorem okName_of {x : Str} (h : okName x = true) : (x == ("__debug__" : Str)) = false ∧ (x == ("__classdict__" : Str)) = false := by
  unfold okName at h
  simpa using h
theorem Xok.blk (k : Xok T ec F W r s X) (scope : Scope) (hk : scope.kind = .function) (st : Shared) (H : Hp) (C : Addr) (cl : List (Str × Addr)) (fp : List Addr) : Xok T ec F W0 r (blkSc s scope) (X.blk st H scope (compEnvC scope cl C X.env) fp) where
  N := k.N
  nd := k.nd
  sc := by
    show relabel scope X.env = relS scope s.sc
    rw [← k.sc]
    rfl
  kind := hk
  fn := rfl
  calm := k.calm
  quiet := fun _ => rfl
  hu := k.hu
  room := k.room
  roomH := k.roomH
  tk := takesN0
  bl := k.bl
  fns := fun x i h => ⟨(k.fns x i h).ok⟩
  fnsQ := fun x i h h' => ⟨(k.fnsQ x i h h').ok⟩
  cons := k.cons
  exd := fun f x i h => ⟨(k.exd f x i h).ok⟩
  rad := fun x i h h1 h2 => ⟨(k.rad x i h h1 h2).ok⟩
  trd := fun f x i h h1 => ⟨(k.trd f x i h h1).ok⟩
  ecK := k.ecK
  sx := ⟨k.sx.sk, k.sx.tree, k.sx.deep, k.sx.top⟩
theorem g_stuck {e : Expr} : GE X ec F W e .nil := ⟨fun _ _ _ _ _ _ ⟨φ, δ, S, rs, re, h⟩ => by
  unfold ev at h
  exact h.elim⟩
theorem t_stuck {e : Expr} : GT X ec F W e .nil := ⟨fun _ _ _ _ _ _ ⟨φ, δ, S, rs, re, _, h⟩ => by
  unfold ev at h
  exact h.elim⟩
theorem i_stuck {tg e : Expr} : GI X ec F W tg e .nil := ⟨fun _ _ _ _ _ _ ⟨φ, δ, S, rs, re, h⟩ => by
  unfold evI at h
  exact h.elim⟩
theorem a_list {f : Expr → CE} : ∀ {es : List Expr}, noStars es = true → (∀ e ∈ es, GE X ec F W e (f e)) → GA X ec F W es (cList f es)
  | [], _, _ => g_nil
  | e :: es, hs, h => by
    have h' : (noStar e && noStars es) = true := hs
    rw [Bool.and_eq_true] at h'
    exact g_cons (noStar_of h'.1) (h e List.mem_cons_self) (a_list h'.2 fun x hx => h x (List.mem_cons_of_mem _ hx))
theorem g_bools {f : Expr → CE} {op : BoolOp} {pos : Pos} : ∀ {es : List Expr}, (∀ e ∈ es, GE X ec F W e (f e)) → GE X ec F W (.BoolOp op es pos) (cBool f (match op with | .And => true | .Or => false) es)
  | [], _ => g_stuck
  | [e], h => g_one (h e List.mem_cons_self)
  | e :: e2 :: es, h => by
    have ih := g_bools (op := op) (pos := pos) (es := e2 :: es) fun x hx => h x (List.mem_cons_of_mem _ hx)
    cases op with
    | And => exact g_and (h e List.mem_cons_self) ih
    | Or => exact g_or (h e List.mem_cons_self) ih
theorem w_bools {f : Expr → CE} {op : BoolOp} {pos : Pos} : ∀ {es : List Expr}, es ≠ [] → (∀ e ∈ es, GT X ec F W e (f e)) → GW X ec F W (.BoolOp op es pos) (cBool f (match op with | .And => true | .Or => false) es)
  | [], hn, _ => absurd rfl hn
  | [e], _, h => by
    cases op with
    | And => exact w_and1 (h e List.mem_cons_self)
    | Or => exact w_or1 (h e List.mem_cons_self)
  | e :: e2 :: es, _, h => by
    have ih := w_bools (op := op) (pos := pos) (es := e2 :: es) (by simp) fun x hx => h x (List.mem_cons_of_mem _ hx)
    cases op with
    | And => exact w_and (h e List.mem_cons_self) ih
    | Or => exact w_or (h e List.mem_cons_self) ih
theorem g_opt {f : Expr → CE} {o : Option Expr} (h : ∀ e, o = some e → GE X ec F W e (f e)) : GO X ec F W o (cOpt f o) := by
  cases o with
  | none => exact o_none
  | some e => exact o_some (h e rfl)
theorem cTs_ok (k : Xok T ec F W r s X) : ∀ {ts : List Expr} {t : CT}, cTs s ts = some t → GGs X ts t ∧ (assignEach ts X.env).length = ctLen t ∧ (assignEach ts X.env).findIdx? (·.1) = none
  | [], t, h => by
    unfold cTs at h
    cases h
    exact ⟨ts_nil, rfl, rfl⟩
  | e :: ts, t, h => by
    cases e with
    | Name x p =>
      by_cases hl : locB s x = true
      · simp only [cTs, if_pos hl] at h
        cases e1 : ixOf s.N x with
        | none => rw [e1] at h; cases h
        | some i =>
          cases e2 : cTs s ts with
          | none => rw [e1, e2] at h; cases h
          | some t2 =>
            rw [e1, e2] at h
            cases h
            obtain ⟨g1, g2, g3⟩ := cTs_ok k e2
            obtain ⟨l1, l2⟩ := k.loc hl
            refine ⟨ts_cons (t_nm (by rw [k.N]; exact k.nd) (by rw [k.N]; exact ixOf_at e1) l1 l2) g1, ?_, ?_⟩
            · show (assignEach ts X.env).length + 1 = _
              rw [g2]
              rfl
            · show List.findIdx? (·.1) ((false, _) :: assignEach ts X.env) = none
              rw [List.findIdx?_cons, if_neg Bool.false_ne_true, g3]
              rfl
      · simp only [cTs, if_neg hl] at h
        cases h
    | _ => unfold cTs at h; cases h
theorem cT_ok (k : Xok T ec F W r s X) {tg : Expr} {t : CT} (h : cT s tg = some t) : GG X tg t := by
  cases tg with
  | Name x p =>
    by_cases hl : locB s x = true
    · simp only [cT, if_pos hl] at h
      cases e1 : ixOf s.N x with
      | none => rw [e1] at h; cases h
      | some i =>
        rw [e1] at h
        cases h
        obtain ⟨l1, l2⟩ := k.loc hl
        exact t_nm (by rw [k.N]; exact k.nd) (by rw [k.N]; exact ixOf_at e1) l1 l2
    · simp only [cT, if_neg hl] at h
      cases h
  | Tuple ts k2 p =>
    simp only [cT] at h
    by_cases hcm : s.calm = true
    · rw [if_pos hcm] at h
      cases e1 : cTs s ts with
      | none => rw [e1] at h; cases h
      | some t2 =>
        rw [e1] at h
        cases h
        obtain ⟨g1, g2, g3⟩ := cTs_ok k e1
        exact t_tp (k.calm hcm) g1 g2 g3
    · rw [if_neg hcm] at h
      cases h
  | _ => unfold cT at h; cases h

theorem mem_all {α : Type} {p : α → Bool} {l : List α} (h : l.all p = true) : ∀ x ∈ l, p x = true := List.all_eq_true.mp h
theorem few_of {c : CE} (h : few c = true) : esLen c ≤ 1000 := of_decide_eq_true h
/-- all of expressions -/
structure COk (T : Tab) (ec : Nat → Value) (F : Fn) (r : Nat) (n : Nat) : Prop where
  e : ∀ {W : WX} {s : Sc} {X : Cx}, Xok T ec F W r s X → ∀ e, GE X ec F W e (cE T n s e)
  t : ∀ {W : WX} {s : Sc} {X : Cx}, Xok T ec F W r s X → ∀ e, tstB e = true → GT X ec F W e (cE T n s e)
  i : ∀ {W : WX} {s : Sc} {X : Cx}, Xok T ec F W r s X → ∀ tg it, GI X ec F W tg it (cI T n s it)
  lc : ∀ {W : WX} {s : Sc} {X : Cx}, Xok T ec F W r s X → ∀ elt tg it ifs scope isM pos, GE X ec F W (.ListComp elt [⟨tg, it, ifs, 0⟩] scope pos) (cLc T n s elt tg it ifs scope isM)
theorem ands {a b : Bool} (h : (a && b) = true) : a = true ∧ b = true := by rwa [Bool.and_eq_true] at h
theorem blkC_kind {N : List Str} {sc scope : Scope} {own : List (Str × Nat)} (h : blkC N sc scope own = true) : (relS scope sc).kind = .function := (blkOk_by h).kind
theorem c_e (ih : COk T ec F r n) (k : Xok T ec F W r s X) (e : Expr) : GE X ec F W e (cE T (n + 1) s e) := by
  unfold cE
  split
  · rename_i x p
    split
    · rename_i hn
      obtain ⟨hd, hcd⟩ := okName_of hn
      split
      · rename_i hv
        split
        · rename_i i hi
          exact g_var (by rw [k.N]; exact ixOf_at hi) (k.vis hv) hd hcd
        · exact g_stuck
      · split
        · rename_i hg
          split
          · rename_i d hc
            obtain ⟨u, v, hm, rv, hr⟩ := k.cons x d hc
            exact g_glob (k.gl hg) hm rv hd hr
          · exact g_stuck
        · exact g_stuck
    · exact g_stuck
  · exact g_int
  · exact g_bl
  · exact g_str
  · exact g_non
  · split
    · rename_i h
      obtain ⟨h1, h2⟩ := ands h
      exact g_tup (few_of h2) (a_list h1 fun x _ => ih.e k x)
    · exact g_stuck
  · split
    · rename_i h
      obtain ⟨h1, h2⟩ := ands h
      exact g_lst (few_of h2) (a_list h1 fun x _ => ih.e k x)
    · exact g_stuck
  · split
    · rename_i o ho
      rw [unBop_of ho]
      exact g_bin k.sx.seer o (ih.e k _) (ih.e k _)
    · exact g_stuck
  · exact g_neg (ih.e k _)
  · split
    · rename_i h
      exact g_not (ih.e k _)
    · exact g_stuck
  · split
    · exact g_bools fun x _ => ih.e k x
    · exact g_stuck
  · split
    · rename_i a op b pos h
      have h3 := g_cmp (pos := pos) (ec := ec) (F := F) (W := W) k.hu (unCop op) (ih.e k a) (ih.e k b) (marks_of h)
      rw [← unCop_of op] at h3
      exact h3
    · exact g_stuck
  · split
    · rename_i a o1 o2 b c pos h
      have h3 := g_chain (pos := pos) (ec := ec) (F := F) (W := W) k.hu (unCop o1) (unCop o2) (ih.e k a) (ih.e k b) (ih.e k c) (marks_of h)
      rw [← unCop_of o1, ← unCop_of o2] at h3
      exact h3
    · exact g_stuck
  · split
    · rename_i h
      exact g_ife (ih.t k _ h) (ih.e k _) (ih.e k _)
    · exact g_stuck
  · exact g_edic
  · exact g_rev (ih.e k _)
  · exact g_sl (ih.e k _) (g_opt fun x _ => ih.e k x) (g_opt fun x _ => ih.e k x)
  · split
    · rename_i h
      exact g_idx k.hu (plainIx_of h) (ih.e k _) (ih.e k _)
    · exact g_stuck
  · rename_i f p args pos
    split
    · rename_i h
      obtain ⟨h12, h3⟩ := ands h
      obtain ⟨h1, h2⟩ := ands h12
      have hd := (okName_of h1).1
      split
      · rename_i i hi
        split
        · rename_i hch
          by_cases hcm : s.calm = true
          · cases args with
            | nil => exact g_call0 (k.fns f i hi) (k.room hcm) k.tk (k.gl h2) hd
            | cons a as => exact g_call (k.fns f i hi) (k.room hcm) k.tk (k.gl h2) hd h3 (a_list h3 fun x _ => ih.e k x)
          · have hq : W = WF := k.quiet (by simpa using hcm)
            subst hq
            have hh : T.hot.contains f = true := by
              rcases Bool.or_eq_true_iff.mp hch with q | q
              · exact absurd q hcm
              · exact q
            cases args with
            | nil => exact g_call0q (k.fnsQ f i hh hi) k.roomH (k.gl h2) hd
            | cons a as => exact g_callQ (k.fnsQ f i hh hi) k.roomH (k.gl h2) hd h3 (a_list h3 fun x _ => ih.e k x)
        · exact g_stuck
      · split
        · rename_i hf
          have hf := beq_iff_eq.mp hf
          split
          · rename_i a t p2
            split
            · rename_i ty hty
              split
              · rename_i hc
                obtain ⟨hc12, hc3⟩ := ands hc
                obtain ⟨hc1, hc2⟩ := ands hc12
                obtain ⟨rfl, hown⟩ := tyOf_ok hty
                subst hf
                exact g_isi hown (k.gl h2) (k.bl _ hc1) (k.gl hc3) (k.bl _ hc2) (ands h3).1 (ih.e k a)
              · exact g_stuck
            · split
              · rename_i c hx
                split
                · rename_i hq
                  obtain ⟨hq, q4⟩ := ands hq
                  obtain ⟨hq, q3⟩ := ands hq
                  obtain ⟨q1, q2⟩ := ands hq
                  obtain ⟨q0, q1⟩ := ands q1
                  subst hf
                  obtain ⟨cv, hC, hv⟩ := (k.exd q0 t c hx).ok
                  have hdt := (okName_of q3).1
                  rcases hv with ⟨C, rfl, hm⟩ | ⟨nn, rfl, hm, hb⟩
                  · exact g_isiX (v := .ref C) hC rfl (fun u r => r) (.own C) (pe_glob (k.gl q2) hm rfl hdt) (k.gl h2) (k.bl _ q1) (ands h3).1 (ih.e k a)
                  · exact g_isiX (v := .ty nn) hC rfl (fun u r => r) (.ty nn) (pe_bltn (k.gl q2) hm hb rfl (by simpa using q4) hdt) (k.gl h2) (k.bl _ q1) (ands h3).1 (ih.e k a)
                · exact g_stuck
              · exact g_stuck
          · exact g_stuck
        · split
          · rename_i hf
            have hf := beq_iff_eq.mp hf
            split
            · rename_i hc
              obtain ⟨hc, hcm⟩ := ands hc
              split
              · rename_i g pg a b pos2
                split
                · rename_i hq
                  obtain ⟨q1, hq⟩ := ands hq
                  obtain ⟨q2, hq⟩ := ands hq
                  obtain ⟨q3, q4⟩ := ands hq
                  have q1 := beq_iff_eq.mp q1
                  subst hf
                  subst q1
                  exact g_rgl2 (k.calm hcm) q4 (k.gl q2) (k.bl _ q3) (k.gl h2) (k.bl _ hc) (ih.e k a) (ih.e k b)
                · exact g_stuck
              · subst hf
                exact g_blt .list rfl (k.calm hcm) (k.gl h2) (k.bl _ hc) h3 (a_list h3 fun x _ => ih.e k x)
              · exact g_stuck
            · exact g_stuck
          split
          · rename_i b _ _ hb
            split
            · rename_i hc
              obtain ⟨hc, hcm⟩ := ands hc
              obtain ⟨rfl, ok⟩ := bltOf_ok hb
              exact g_blt b ok (k.calm hcm) (k.gl h2) (k.bl _ hc) h3 (a_list h3 fun x _ => ih.e k x)
            · exact g_stuck
          · exact g_stuck
    · exact g_stuck
  · rename_i o m apos args pos
    split
    · rename_i h
      obtain ⟨h1, h2⟩ := ands h
      split
      · split
        · rename_i hm
          obtain ⟨hm1, hm2⟩ := ands hm
          rw [beq_iff_eq.mp hm1]
          exact g_append h1 h2 hm2 (ih.e k _) (g_cons (noStar_of hm2) (ih.e k _) g_nil)
        · split
          · rename_i hm
            obtain ⟨hm1, hm2⟩ := ands hm
            exact g_mth1 (m := .count) (beq_iff_eq.mp hm1) (.inl rfl) h1 h2 hm2 (ih.e k _) (g_cons (noStar_of hm2) (ih.e k _) g_nil)
          · split
            · rename_i hm
              obtain ⟨hm1, hm2⟩ := ands hm
              exact g_mth1 (m := .index) (beq_iff_eq.mp hm1) (.inr rfl) h1 h2 hm2 (ih.e k _) (g_cons (noStar_of hm2) (ih.e k _) g_nil)
            · exact g_stuck
      · split
        · rename_i a b hm
          obtain ⟨hm1, hm2⟩ := ands hm
          rw [beq_iff_eq.mp hm1]
          exact g_setd (setd_m h1 h2 hm2) (ih.e k _) (ih.e k _) (ih.e k _)
        · split
          · rename_i hm
            obtain ⟨hm1, hm2⟩ := ands hm
            have hm3 := hm2
            simp only [noStars, List.all_cons, List.all_nil, Bool.and_true, Bool.and_eq_true] at hm3
            rw [beq_iff_eq.mp hm1]
            exact g_insert h1 h2 hm2 (ih.e k _) (g_cons (noStar_of hm3.1) (ih.e k _) (g_cons (noStar_of hm3.2) (ih.e k _) g_nil))
          · exact g_stuck
      · split
        · rename_i hm
          rw [beq_iff_eq.mp hm]
          exact g_reverse h1 h2 (ih.e k _)
        · split
          · rename_i hm
            rw [beq_iff_eq.mp hm]
            exact g_pop h1 h2 (ih.e k _)
          · exact g_stuck
      · exact g_stuck
    · exact g_stuck
  · exact ih.lc k _ _ _ _ _ _ _
  · exact g_stuck
theorem c_t (ih : COk T ec F r n) (k : Xok T ec F W r s X) (e : Expr) (ht : tstB e = true) : GT X ec F W e (cE T (n + 1) s e) := by
  by_cases hp : plainT e = true
  · exact t_val (c_e ih k e) (plainT_of X.env hp)
  · cases e with
    | UnaryOp op a p =>
      cases op with
      | Not =>
        simp only [cE]
        split
        · rename_i h
          exact t_not (ih.t k _ h)
        · exact t_stuck
      | _ => exact absurd rfl hp
    | BoolOp op vs p =>
      simp only [cE]
      split
      · rename_i h
        cases vs with
        | nil => exact t_stuck
        | cons v vs => exact GW.t (w_bools (by simp) fun x hx => ih.t k x (mem_all h x hx))
      · exact t_stuck
    | Compare a ops bs p =>
      cases ops with
      | nil => exact t_stuck
      | cons o1 ops =>
        cases ops with
        | nil =>
          cases bs with
          | nil => exact t_stuck
          | cons b bs =>
            cases bs with
            | cons _ _ => exact t_stuck
            | nil =>
              simp only [cE]
              split
              · rename_i h
                have h3 := t_cmp (pos := p) (ec := ec) (F := F) (W := W) k.hu (unCop o1) (ih.e k a) (ih.e k b) (marks_of h)
                rw [← unCop_of o1] at h3
                exact h3
              · exact t_stuck
        | cons o2 ops =>
          cases ops with
          | cons _ _ => 
            cases bs with
            | nil => exact t_stuck
            | cons b bs =>
              cases bs with
              | nil => exact t_stuck
              | cons c bs => exact t_stuck
          | nil =>
            cases bs with
            | nil => exact t_stuck
            | cons b bs =>
              cases bs with
              | nil => exact t_stuck
              | cons c bs =>
                cases bs with
                | cons _ _ => exact t_stuck
                | nil =>
                  simp only [cE]
                  split
                  · rename_i h
                    have h3 := t_chain (pos := p) (ec := ec) (F := F) (W := W) k.hu (unCop o1) (unCop o2) (ih.e k a) (ih.e k b) (ih.e k c) (marks_of h)
                    rw [← unCop_of o1, ← unCop_of o2] at h3
                    exact h3
                  · exact t_stuck
    | IfExp _ _ _ _ => cases ht
    | _ => exact absurd rfl hp

theorem c_i (ih : COk T ec F r n) (k : Xok T ec F W r s X) (tg it : Expr) : GI X ec F W tg it (cI T (n + 1) s it) := by
  unfold cI
  split
  · rename_i f p a pos
    split
    · rename_i h
      obtain ⟨h, h5⟩ := ands h
      obtain ⟨h, h4⟩ := ands h
      obtain ⟨h, h3⟩ := ands h
      obtain ⟨h1, h2⟩ := ands h
      obtain rfl := beq_iff_eq.mp h1
      exact i_rng1 h5 (k.gl h3) (k.bl _ h4) (ih.e k a)
    · exact i_one (ih.e k _)
  · rename_i f p a b pos
    split
    · rename_i h
      obtain ⟨h, h5⟩ := ands h
      obtain ⟨h, h4⟩ := ands h
      obtain ⟨h, h3⟩ := ands h
      obtain ⟨h1, h2⟩ := ands h
      obtain rfl := beq_iff_eq.mp h1
      exact i_rng2 h5 (k.gl h3) (k.bl _ h4) (ih.e k a) (ih.e k b)
    · exact i_one (ih.e k _)
  · exact i_one (ih.e k _)
/-- a comprehension's parts -/
theorem lc_parts (ih : COk T ec F r n) (k : Xok T ec F W r s X) {scope : Scope} (hb : blkC s.N s.sc scope (ownOf s.N scope) = true) (st : Shared) (H : Hp) (C : Addr) (cl : List (Str × Addr)) (fp : List Addr) :
    Xok T ec F W0 r (blkSc s scope) (X.blk st H scope (compEnvC scope cl C X.env) fp) := k.blk scope (blkC_kind hb) st H C cl fp
theorem c_lc (ih : COk T ec F r n) (k : Xok T ec F W r s X) (elt tg it : Expr) (ifs : List Expr) (scope : Scope) (isM : Bool) (pos : Pos) : GE X ec F W (.ListComp elt [⟨tg, it, ifs, 0⟩] scope pos) (cLc T (n + 1) s elt tg it ifs scope isM) := by
  unfold cLc
  split
  · rename_i h
    obtain ⟨h, hcm⟩ := ands h
    obtain ⟨hs, hb⟩ := ands h
    split
    · rename_i t ht
      split
      · rename_i hsub
        have ok : BlkOk X.N X.env.scope scope (ownOf s.N scope) := by rw [k.N, k.sc]; exact blkOk_by hb
        split
        · exact g_comp (k.calm hcm) (by rw [k.N]; exact k.nd) (ih.i k tg it) ok (fun st H C cl fp => cT_ok (lc_parts ih k hb st H C cl fp) ht) (fun st H C cl fp => ifs_nil) (fun st H C cl fp => ih.e (lc_parts ih k hb st H C cl fp) elt) (folded_of X.env hs) (subB_of hsub)
        · split
          · rename_i c hc
            exact g_comp (k.calm hcm) (by rw [k.N]; exact k.nd) (ih.i k tg it) ok (fun st H C cl fp => cT_ok (lc_parts ih k hb st H C cl fp) ht) (fun st H C cl fp => ifs_one (ih.t (lc_parts ih k hb st H C cl fp) c hc)) (fun st H C cl fp => ih.e (lc_parts ih k hb st H C cl fp) elt) (folded_of X.env hs) (subB_of hsub)
          · exact g_stuck
        · exact g_stuck
      · exact g_stuck
    · exact g_stuck
  · exact g_stuck
theorem c_ok : ∀ n, COk T ec F r n
  | 0 => ⟨fun _ e => by unfold cE; exact g_stuck, fun _ e _ => by unfold cE; exact t_stuck, fun _ tg it => by unfold cI; exact i_stuck, fun _ _ _ _ _ _ _ _ => by unfold cLc; exact g_stuck⟩
  | n + 1 => ⟨fun k e => c_e (c_ok n) k e, fun k e h => c_t (c_ok n) k e h, fun k tg it => c_i (c_ok n) k tg it, fun k elt tg it ifs scope isM pos => c_lc (c_ok n) k elt tg it ifs scope isM pos⟩
end
end Z

/-! Z, part I: statements, from the text. -/
namespace Z
open PySem PySem.Spec PyProof.Rows L2
def compScope : Expr → Option Scope
  | .ListComp _ _ s _ => some s
  | .SetComp _ _ s _ => some s
  | .DictComp _ _ _ s _ => some s
  | _ => none
def swB (sc : Scope) (value : Expr) (target : Option Expr) (line : Nat) : Option Bool := match compScope value with
  | none => some false
  | some scope => match target with
    | none => if value.pos.line != line then none else some true
    | some (.Name t pos) => some (sc.names.lookup t == some .local && pos.line == value.pos.line && !(scope.names.any fun (n, k) => n == t && (k == .local || k == .cell)))
    | some _ => some false
theorem swB_of {sc : Scope} {env : PySem.Env} {value : Expr} {target : Option Expr} {line : Nat} {b : Bool} (hs : env.scope = sc) (hk : sc.kind = .function) (h : swB sc value target line = some b) : swapsWith value target line env = pure b := by
  have hk2 : env.scope.kind = .function := by rw [hs]; exact hk
  have hb : env.blockKind = .function := by
    unfold Env.blockKind
    rw [hk2]
    rfl
  have key : ∀ scope, compScope value = some scope → swapsWith value target line env = (do
      match target with
      | none =>
        if env.scope.kind == .class then unsupported "comprehension:value-dropped-in-a-class-body"
        if value.pos.line != line then unsupported "comprehension:value-dropped:on-another-line"
        return true
      | some (.Name t pos) =>
        return env.blockKind == .function && env.kindOf t == some .local && pos.line == value.pos.line
          && !(scope.names.any fun (n, k) => n == t && (k == .local || k == .cell))
      | some _ => return false) := fun scope hc => by
    unfold swapsWith
    cases value <;> first | (cases hc; rfl) | cases hc
  cases hc : compScope value with
  | none =>
    unfold swB at h
    rw [hc] at h
    cases h
    unfold swapsWith
    cases value <;> first | rfl | cases hc
  | some scope =>
    rw [key scope hc]
    unfold swB at h
    rw [hc] at h
    cases target with
    | none =>
      simp only at h
      rw [hk2]
      by_cases hl : (value.pos.line != line) = true
      · rw [if_pos hl] at h; cases h
      · rw [if_neg hl] at h
        cases h
        simp only [hl]
        rfl
    | some t =>
      cases t with
      | Name t p =>
        simp only [Option.some.injEq] at h
        subst h
        simp only [hb, Env.kindOf, hs]
        rfl
      | _ =>
        simp only [Option.some.injEq] at h
        subst h
        rfl
def pairsOf (targets : List Expr) (value : Expr) : Option (List Expr × List Expr) := match targets, value with
  | [.Tuple ts _ _], .Tuple vs _ _ => some (ts, vs)
  | [.List ts _], .Tuple vs _ _ => some (ts, vs)
  | _, _ => none
def swSt (sc : Scope) (targets : List Expr) (value : Expr) : Option (Option (List Str)) := match pairsOf targets value with
  | none => some none
  | some (ts, vs) =>
    if !(ts.length == 2 || ts.length == 3) || vs.length != ts.length then some none else
    if vs.any (fun e => match e with | .Starred .. => true | _ => false) then some none else
    let line := (ts.head?.map (·.pos.line)).getD 0
    let names := ts.filterMap fun e => match e with
      | .Name id pos => if sc.names.lookup id == some .local && pos.line == line then some id else none
      | _ => none
    if names.length != ts.length || names.eraseDups.length != names.length then some none else
    if vs.all (foldedForSure 8) then some none else
    if vs.all (constantsAlone 8) then none else some (some names)
theorem swSt_of {sc : Scope} {env : PySem.Env} {targets : List Expr} {value : Expr} {o : Option (List Str)} (hs : env.scope = sc) (hk : sc.kind = .function) (h : swSt sc targets value = some o) : swappedStores targets value env = pure o := by
  have hk2 : env.scope.kind = .function := by rw [hs]; exact hk
  have hb : env.blockKind = .function := by
    unfold Env.blockKind
    rw [hk2]
    rfl
  have key : swappedStores targets value env = (match pairsOf targets value with
    | none => (pure none : Sem (Option (List Str)))
    | some (ts, vs) => do
      if !(ts.length == 2 || ts.length == 3) || vs.length != ts.length || env.blockKind != .function then return none
      if vs.any fun | .Starred .. => true | _ => false then return none
      let line := (ts.head?.map (·.pos.line)).getD 0
      let names := ts.filterMap fun
        | .Name id pos => if env.kindOf id == some .local && pos.line == line then some id else none
        | _ => none
      if names.length != ts.length || names.eraseDups.length != names.length then return none
      if vs.all (foldedForSure 8) then return none
      if vs.all (constantsAlone 8) then unsupported "assign.tuple-of-constant-expressions:order-of-the-stores"
      return some names) := by
    unfold swappedStores
    split
    · rename_i heq
      have h2 : pairsOf targets value = some (_, _) := heq
      rw [h2]
      rfl
    · rename_i heq
      cases h2 : pairsOf targets value with
      | none => rfl
      | some q => exact absurd h2 (heq q.1 q.2)
  rw [key]
  unfold swSt at h
  cases hp : pairsOf targets value with
  | none =>
    rw [hp] at h
    cases h
    rfl
  | some q =>
    obtain ⟨ts, vs⟩ := q
    rw [hp] at h
    simp only [] at h
    simp only [Env.kindOf, hs, hb]
    by_cases h1 : (!(ts.length == 2 || ts.length == 3) || vs.length != ts.length) = true
    · rw [if_pos h1] at h
      cases h
      have h1' : (!(ts.length == 2 || ts.length == 3) || vs.length != ts.length || (ScopeKind.function != ScopeKind.function)) = true := by rw [h1]; rfl
      rw [if_pos h1']
    · have h1' : ¬ (!(ts.length == 2 || ts.length == 3) || vs.length != ts.length || (ScopeKind.function != ScopeKind.function)) = true := by
        rw [Bool.not_eq_true] at h1
        rw [h1]
        decide
      rw [if_neg h1] at h
      rw [if_neg h1']
      split at h
      · cases h
        rename_i h2
        rw [if_pos h2]
      · rename_i h2
        rw [if_neg h2]
        split at h
        · cases h
          rename_i h3
          rw [if_pos h3]
        · rename_i h3
          rw [if_neg h3]
          split at h
          · cases h
            rename_i h4
            rw [if_pos h4]
          · rename_i h4
            rw [if_neg h4]
            split at h
            · cases h
            · cases h
              rename_i h5
              rw [if_neg h5]

/-! ### the compiler -/
/-- a value that will change -/
def cM (T : Tab) (n : Nat) (s : Sc) : Expr → CE
  | .List es _ => if noStars es && few (cList (cE T n s) es) then .mlst (cList (cE T n s) es) else .nil
  | .ListComp elt [⟨tg, it, ifs, 0⟩] scope _ => cLc T n s elt tg it ifs scope true
  | .Dict [] [] _ => .mdk
  | .BinOp a .Add b _ => .mth .cat (cE T n s a) (.cons (cE T n s b) .nil)
  | e => cE T n s e
def cV (T : Tab) (n : Nat) (s : Sc) (m : Bool) (e : Expr) : CE := if m then cM T n s e else cE T n s e
def cSs (f : Stmt → CS) : List Stmt → CS
  | [] => .skip
  | [s] => f s
  | s :: rest => .seq (f s) (cSs f rest)
def plainTg : Expr → Bool
  | .Name _ _ => true
  | .Tuple _ _ _ => true
  | _ => false
def mutB (s : Sc) (x : Str) : Bool := match ixOf s.N x with
  | some i => s.mv.contains i
  | none => false
def cS (T : Tab) : Nat → Sc → Stmt → CS
  | 0, _, _ => .never
  | n + 1, s, st => match st with
    | .Pass _ => .skip
    | .Break _ => .brk
    | .Expr (.Constant (.str _) _ _) _ => .skip
    | .Expr e pos => if swB s.sc e none pos.line == some false then .expr (cE T n s e) else .never
    | .Return none _ => .ret (.con .non)
    | .Return (some (.Name x p)) _ => (match ixOf s.N x with
      | some i => if s.mv.contains i && !s.rm && okName x && visB s.sc x then .retF i else .ret (cE T n s (.Name x p))
      | none => .ret (cE T n s (.Name x p)))
    | .Return (some e) _ => .ret (cV T n s s.rm e)
    | .Assign [.Name y p] (.ListComp elt [⟨tg, it, ifs, 0⟩] scope p2) pos =>
      (match ixOf s.N y with
      | some i => (match swB s.sc (.ListComp elt [⟨tg, it, ifs, 0⟩] scope p2) (some (.Name y p)) pos.line with
        | some true => if s.sc.names.lookup y == some .local then .asg (.nm i) (cLc T n s elt tg it ifs scope (s.mv.contains i)) else .never
        | some false => if locB s y then .asg (.nm i) (cLc T n s elt tg it ifs scope (s.mv.contains i)) else .never
        | none => .never)
      | none => .never)
    | .Assign [.Tuple [.Name x px, .Name y py] kt pt] (.Tuple [a, b] k2 pt2) pos =>
      (match swSt s.sc [.Tuple [.Name x px, .Name y py] kt pt] (.Tuple [a, b] k2 pt2) with
      | some (some l) => (match ixOf s.N x, ixOf s.N y with
        | some i, some j => if s.calm && l == [x, y] && i != j && s.sc.names.lookup x == some .local && s.sc.names.lookup y == some .local && noStars [a, b] then .asg (.tp (.cons (.nm i) (.cons (.nm j) .nil))) (.tup (.cons (cV T n s (s.mv.contains i) a) (.cons (cV T n s (s.mv.contains j) b) .nil))) else .never
        | _, _ => .never)
      | some none => (match cT s (.Tuple [.Name x px, .Name y py] kt pt) with
        | some t => if noStars [a, b] then .asg t (.tup (.cons (cV T n s (mutB s x) a) (.cons (cV T n s (mutB s y) b) .nil))) else .never
        | none => .never)
      | none => .never)
    | .Assign [.Tuple [.Name x px, .Name y py, .Name z pz] kt pt] (.Tuple [a, b, c] k2 pt2) pos =>
      (match swSt s.sc [.Tuple [.Name x px, .Name y py, .Name z pz] kt pt] (.Tuple [a, b, c] k2 pt2) with
      | some (some l) => (match ixOf s.N x, ixOf s.N y, ixOf s.N z with
        | some i, some j, some w => if (s.calm && l == [x, y, z]) && (i != j && (i != w && (j != w && (s.sc.names.lookup x == some .local && (s.sc.names.lookup y == some .local && (s.sc.names.lookup z == some .local && noStars [a, b, c])))))) then .asg (.tp (.cons (.nm i) (.cons (.nm j) (.cons (.nm w) .nil)))) (.tup (.cons (cV T n s (s.mv.contains i) a) (.cons (cV T n s (s.mv.contains j) b) (.cons (cV T n s (s.mv.contains w) c) .nil)))) else .never
        | _, _, _ => .never)
      | some none => (match cT s (.Tuple [.Name x px, .Name y py, .Name z pz] kt pt) with
        | some t => if noStars [a, b, c] then .asg t (.tup (.cons (cV T n s (mutB s x) a) (.cons (cV T n s (mutB s y) b) (.cons (cV T n s (mutB s z) c) .nil)))) else .never
        | none => .never)
      | none => .never)
    | .Assign [.Subscript o i p'] e pos => if plainIx i then .set (cE T n s o) (cE T n s i) (cE T n s e) else .never
    | .Assign [tg] e pos => (match cT s tg with
      | some t => if plainTg tg && swB s.sc e (some tg) pos.line == some false && swSt s.sc [tg] e == some none then .asg t (cV T n s (isMut s t) e) else .never
      | none => .never)
    | .If c a b _ => if tstB c then .ife (cE T n s c) (cSs (cS T n s) a) (cSs (cS T n s) b) else .never
    | .While c b [] _ => if tstB c && s.calm then .whl (cE T n s c) (cSs (cS T n s) b) else .never
    | .Raise (some (.Call (.Name x _) [.Constant (.str _) _ _] [] _)) none _ => (match T.ex.lookup x with
      | some k => if s.calm && okName x && glB s.sc x && (decide (1 ≤ k) && decide (k ≤ 17)) then .rais k (.con .non) else .never
      | none => .never)
    | .Try body [.ExceptHandler (some (.Name x _)) (some y) (b₀ :: suite) _] [] [] _ => (match T.ex.lookup x, ixOf s.N y with
      | some k, some i => if (T.full && s.calm) && okName x && glB s.sc x && s.sc.names.lookup y == some .local && decide (k < excNames.length) then .tr (cSs (cS T n s) body) k i (cSs (cS T n { s with calm := false }) (b₀ :: suite)) else .never
      | _, _ => .never)
    | .Try body [.ExceptHandler (some (.Name x _)) none (b₀ :: suite) _] [] [] _ => (match T.ex.lookup x with
      | some k => if (T.full && s.calm) && okName x && glB s.sc x && decide (k < excNames.length) then .tr (cSs (cS T n s) body) (100 + k) 0 (cSs (cS T n { s with calm := false }) (b₀ :: suite)) else .never
      | none => .never)
    | .For tg it b [] _ => (match cT s tg with
      | some t => if notSet it && s.calm then .fr t (cI T n s it) (cSs (cS T n s) b) else .never
      | none => .never)
    | _ => .never
/-! ### it says what the text says -/
section
variable {T : Tab} {ec : Nat → Value} {F : Fn} {W : WX} {r n : Nat} {s : Sc} {X : Cx}
theorem s_stuck {st : Stmt} : GS X ec F W st .never := ⟨fun _ _ _ _ _ _ ⟨φ, δ, S, rs, re, h⟩ => by
  unfold run at h
  exact h.elim⟩
theorem m_e (k : Xok T ec F W r s X) (e : Expr) : GE X ec F W e (cM T n s e) := by
  unfold cM
  split
  · split
    · rename_i h
      obtain ⟨h1, h2⟩ := ands h
      exact g_mlst (few_of h2) (a_list h1 fun x _ => (c_ok n).e k x)
    · exact g_stuck
  · exact (c_ok n).lc k _ _ _ _ _ _ _
  · exact g_mdk
  · exact g_cat ((c_ok n).e k _) ((c_ok n).e k _)
  · exact (c_ok n).e k _
theorem v_e (k : Xok T ec F W r s X) (m : Bool) (e : Expr) : GE X ec F W e (cV T n s m e) := by
  unfold cV
  split
  · exact m_e k e
  · exact (c_ok n).e k e
theorem ss_all {f : Stmt → CS} : ∀ {sts : List Stmt}, (∀ st ∈ sts, GS X ec F W st (f st)) → GSs X ec F W sts (cSs f sts)
  | [], _ => ss_nil
  | [s], h => ss_one (h s List.mem_cons_self)
  | s :: s2 :: rest, h => ss_cons (h s List.mem_cons_self) (ss_all fun x hx => h x (List.mem_cons_of_mem _ hx))
theorem beqOpt {α : Type} [BEq α] [LawfulBEq α] {a b : α} (h : (a == b) = true) : a = b := beq_iff_eq.mp h
theorem each_plain {tg : Expr} (env : PySem.Env) (h : plainTg tg = true) : (assignEach [tg] env).map (·.2) = [assign tg env] := by
  cases tg <;> first | rfl | cases h
theorem optF {o : Option Bool} {b : Bool} (h : (o == some b) = true) : o = some b := beq_iff_eq.mp h
theorem optN {o : Option (Option (List Str))} (h : (o == some none) = true) : o = some none := by
  cases o with
  | none => cases h
  | some p =>
    cases p with
    | none => rfl
    | some l => cases h
theorem optL {o : Option NameKind} {b : NameKind} (h : (o == some b) = true) : o = some b := by
  cases o with
  | none => cases h
  | some a => cases a <;> cases b <;> first | rfl | cases h
theorem setLc_ok (k : Xok T ec F W r s X) {elt tg it : Expr} {ifs : List Expr} {scope : Scope} {isM : Bool} {p py pos : Pos} {i : Nat} {y : Str} (hy : X.N[i]? = some y) (hyl : X.env.scope.names.lookup y = some .local)
    (hsw : swapsWith (.ListComp elt [⟨tg, it, ifs, 0⟩] scope p) (some (.Name y py)) pos.line X.env = pure true) : GS X ec F W (.Assign [.Name y py] (.ListComp elt [⟨tg, it, ifs, 0⟩] scope p) pos) (.asg (.nm i) (cLc T n s elt tg it ifs scope isM)) := by
  have nd : X.N.Nodup := by rw [k.N]; exact k.nd
  have dead : GS X ec F W (.Assign [.Name y py] (.ListComp elt [⟨tg, it, ifs, 0⟩] scope p) pos) (.asg (.nm i) .nil) := ⟨fun _ _ _ _ _ _ ⟨φ, δ, S, rs, re, h⟩ => by
    unfold run ev at h
    exact h.elim⟩
  cases n with
  | zero => unfold cLc; exact dead
  | succ n =>
    have ih := c_ok (T := T) (ec := ec) (F := F) (r := r) n
    unfold cLc
    split
    · rename_i h
      obtain ⟨h, hcm⟩ := ands h
      obtain ⟨hs, hb⟩ := ands h
      split
      · rename_i t ht
        split
        · rename_i hsub
          have ok : BlkOk X.N X.env.scope scope (ownOf s.N scope) := by rw [k.N, k.sc]; exact blkOk_by hb
          split
          · exact s_setLc (k.calm hcm) nd hy hyl hsw (ih.i k tg it) ok (fun st H C cl fp => cT_ok (lc_parts ih k hb st H C cl fp) ht) (fun st H C cl fp => ifs_nil) (fun st H C cl fp => ih.e (lc_parts ih k hb st H C cl fp) elt) (folded_of X.env hs) (subB_of hsub)
          · split
            · rename_i c hc
              exact s_setLc (k.calm hcm) nd hy hyl hsw (ih.i k tg it) ok (fun st H C cl fp => cT_ok (lc_parts ih k hb st H C cl fp) ht) (fun st H C cl fp => ifs_one (ih.t (lc_parts ih k hb st H C cl fp) c hc)) (fun st H C cl fp => ih.e (lc_parts ih k hb st H C cl fp) elt) (folded_of X.env hs) (subB_of hsub)
            · exact dead
          · exact dead
        · exact dead
      · exact dead
    · exact dead
theorem Xok.tr {W' : WX} (k : Xok T ec F W r s X) (pn : List (Addr × Obj)) (xe : Value → Shared → Prop) (hc : s.calm = true) (tk : L2N.Takes (X.tr pn xe) W') : Xok T ec F W' r s (X.tr pn xe) where
  N := k.N
  nd := k.nd
  sc := k.sc
  kind := k.kind
  fn := k.fn
  calm := k.calm
  quiet := fun z => by rw [hc] at z; cases z
  hu := k.hu
  room := k.room
  roomH := k.roomH
  tk := tk
  bl := k.bl
  fns := fun x i h => ⟨(k.fns x i h).ok⟩
  fnsQ := fun x i h h' => ⟨(k.fnsQ x i h h').ok⟩
  cons := k.cons
  exd := fun f x i h => ⟨(k.exd f x i h).ok⟩
  rad := fun x i h h1 h2 => ⟨(k.rad x i h h1 h2).ok⟩
  trd := fun f x i h h1 => ⟨(k.trd f x i h h1).ok⟩
  ecK := k.ecK
  sx := ⟨k.sx.sk, k.sx.tree, k.sx.deep, k.sx.top⟩
theorem Xok.suite (k : Xok T ec F W r s X) (a : Addr) (pn : List (Addr × Obj)) : Xok T ec F WF r { s with calm := false } (X.suite a pn) where
  N := k.N
  nd := k.nd
  sc := k.sc
  kind := k.kind
  fn := k.fn
  calm := fun z => nomatch z
  quiet := fun _ => rfl
  hu := k.hu
  room := fun z => nomatch z
  roomH := ⟨k.roomH.dp, k.roomH.un⟩
  tk := takesN0
  bl := k.bl
  fns := fun x i h => ⟨(k.fns x i h).ok⟩
  fnsQ := fun x i h h' => ⟨(k.fnsQ x i h h').ok⟩
  cons := k.cons
  exd := fun f x i h => ⟨(k.exd f x i h).ok⟩
  rad := fun x i h h1 h2 => ⟨(k.rad x i h h1 h2).ok⟩
  trd := fun f x i h h1 => ⟨(k.trd f x i h h1).ok⟩
  ecK := k.ecK
  sx := ⟨k.sx.sk, k.sx.tree, k.sx.deep, k.sx.top⟩
theorem Xok.tc (k : Xok T ec F W r s X) (f : T.full = true) {x : Str} {c : Nat} (h : T.ex.lookup x = some c) (hl : c < excNames.length) (hg : glB s.sc x = true) (hn : okName x = true) : TrC X x c := by
  obtain ⟨cv, h1, h2⟩ := (k.trd f x c h hl).ok
  exact ⟨cv, ⟨k.gl hg, (okName_of hn).1, .inl h1⟩, h2⟩
theorem cS_ok : ∀ (n : Nat) {W : WX} {s : Sc} {X : Cx}, (s.calm = true → PassesOwn (model X.prog X.w) X.A X.env X.xe) → (X.stack = X.env :: X.outer ∧ X.env.frame = some X.env.locals) → Xok T ec F W r s X → ∀ st : Stmt, GS X ec F W st (cS T n s st)
  | 0, _, _, _, _, _, _, st => by unfold cS; exact s_stuck
  | n + 1, W, s, X, hp, hst, k, st => by
    have ih := fun st => cS_ok n hp hst k st
    have ce := c_ok (T := T) (ec := ec) (F := F) (r := r) n
    have hks := k.kind
    have nd : X.N.Nodup := by rw [k.N]; exact k.nd
    unfold cS
    split
    · exact s_pass
    · exact s_brk
    · exact s_doc
    · split
      · rename_i h
        exact s_expr (ce.e k _) (swB_of k.sc hks (optF h))
      · exact s_stuck
    · exact s_retN
    · split
      · rename_i i hi
        split
        · rename_i h
          obtain ⟨h, h4⟩ := ands h
          obtain ⟨h, h3⟩ := ands h
          obtain ⟨hd, hcd⟩ := okName_of h3
          exact s_retF (by rw [k.N]; exact ixOf_at hi) (k.vis h4) hd hcd
        · exact s_ret (ce.e k _)
      · exact s_ret (ce.e k _)
    · exact s_ret (v_e k _ _)
    · rename_i y p elt tg it ifs scope p2 pos
      split
      · rename_i i hi
        have hy : X.N[i]? = some y := by rw [k.N]; exact ixOf_at hi
        split
        · rename_i hsw
          split
          · rename_i hl
            have hl := optL hl
            exact setLc_ok k hy (by rw [k.sc]; exact hl) (swB_of k.sc hks hsw)
          · exact s_stuck
        · rename_i hsw
          split
          · rename_i hl
            obtain ⟨l1, l2⟩ := k.loc hl
            exact s_asg (ce.lc k _ _ _ _ _ _ _) (t_nm nd hy l1 l2) (swB_of k.sc hks hsw) rfl rfl
          · exact s_stuck
        · exact s_stuck
      · exact s_stuck
    · rename_i x px y py kt pt a b k2 pt2 pos
      split
      · rename_i l hw
        split
        · rename_i i j hi hj
          split
          · rename_i h
            obtain ⟨h, h5⟩ := ands h
            obtain ⟨h, h4⟩ := ands h
            obtain ⟨h, h3⟩ := ands h
            obtain ⟨h, h2⟩ := ands h
            obtain ⟨hcm, h1⟩ := ands h
            have h1 : l = [x, y] := beq_iff_eq.mp h1
            subst h1
            have hij : i ≠ j := by simpa using h2
            exact s_par (k.calm hcm) nd (by rw [k.N]; exact ixOf_at hi) (by rw [k.N]; exact ixOf_at hj) hij (by rw [k.sc]; exact optL h3) (by rw [k.sc]; exact optL h4)
              (g_cons (noStar_of (ands h5).1) (v_e k _ a) (g_cons (noStar_of (ands (ands h5).2).1) (v_e k _ b) g_nil)) (swSt_of k.sc hks hw) rfl
          · exact s_stuck
        · exact s_stuck
      · rename_i hw
        split
        · rename_i t ht
          split
          · rename_i h5
            exact s_asg (g_tup (show 0 + 1 + 1 ≤ 1000 by decide) (g_cons (noStar_of (ands h5).1) (v_e k _ a) (g_cons (noStar_of (ands (ands h5).2).1) (v_e k _ b) g_nil))) (cT_ok k ht) rfl (swSt_of k.sc hks hw) rfl
          · exact s_stuck
        · exact s_stuck
      · exact s_stuck
    · rename_i x px y py z pz kt pt a b c k2 pt2 pos
      split
      · rename_i l hw
        split
        · rename_i i j w hi hj hz
          split
          · rename_i h
            obtain ⟨h1, h⟩ := ands h
            obtain ⟨hcm, h1⟩ := ands h1
            obtain ⟨h2, h⟩ := ands h
            obtain ⟨h3, h⟩ := ands h
            obtain ⟨h4, h⟩ := ands h
            obtain ⟨h5, h⟩ := ands h
            obtain ⟨h6, h⟩ := ands h
            obtain ⟨h7, h8⟩ := ands h
            have h1 : l = [x, y, z] := beq_iff_eq.mp h1
            subst h1
            have hij : i ≠ j := by simpa using h2
            have hil : i ≠ w := by simpa using h3
            have hjl : j ≠ w := by simpa using h4
            exact s_par3 (k.calm hcm) nd (by rw [k.N]; exact ixOf_at hi) (by rw [k.N]; exact ixOf_at hj) (by rw [k.N]; exact ixOf_at hz) hij hil hjl (by rw [k.sc]; exact optL h5) (by rw [k.sc]; exact optL h6) (by rw [k.sc]; exact optL h7)
              (g_cons (noStar_of (ands h8).1) (v_e k _ a) (g_cons (noStar_of (ands (ands h8).2).1) (v_e k _ b) (g_cons (noStar_of (ands (ands (ands h8).2).2).1) (v_e k _ c) g_nil))) (swSt_of k.sc hks hw) rfl
          · exact s_stuck
        · exact s_stuck
      · rename_i hw
        split
        · rename_i t ht
          split
          · rename_i h5
            exact s_asg (g_tup (show 0 + 1 + 1 + 1 ≤ 1000 by decide) (g_cons (noStar_of (ands h5).1) (v_e k _ a) (g_cons (noStar_of (ands (ands h5).2).1) (v_e k _ b) (g_cons (noStar_of (ands (ands (ands h5).2).2).1) (v_e k _ c) g_nil)))) (cT_ok k ht) rfl (swSt_of k.sc hks hw) rfl
          · exact s_stuck
        · exact s_stuck
      · exact s_stuck
    · rename_i o i p' e pos
      split
      · rename_i h
        exact s_sub k.hu (ce.e k _) (ce.e k _) (ce.e k _) (fun v => by cases i <;> first | rfl | cases h) (by cases e <;> rfl) (by cases e <;> rfl) rfl
      · exact s_stuck
    · rename_i tg e pos
      split
      · rename_i t ht
        split
        · rename_i h
          obtain ⟨h, h3⟩ := ands h
          obtain ⟨h1, h2⟩ := ands h
          exact s_asg (v_e k _ _) (cT_ok k ht) (swB_of k.sc hks (optF h2)) (swSt_of k.sc hks (optN h3)) (each_plain X.env h1)
        · exact s_stuck
      · exact s_stuck
    · split
      · rename_i h
        exact s_if (ce.t k _ h) (ss_all fun x _ => ih x) (ss_all fun x _ => ih x)
      · exact s_stuck
    · split
      · rename_i h
        obtain ⟨h, hcm⟩ := ands h
        exact s_while (hp hcm) (ce.t k _ h) (ss_all fun x _ => ih x)
      · exact s_stuck
    · split
      · rename_i kx hx
        split
        · rename_i h
          obtain ⟨h, h4⟩ := ands h
          obtain ⟨h, h3⟩ := ands h
          obtain ⟨hcm, h2⟩ := ands h
          obtain ⟨h5, h6⟩ := ands h4
          exact s_raise (k.calm hcm) k.tk (k.gl h3) (okName_of h2).1 (k.rad _ _ hx (of_decide_eq_true h5) (of_decide_eq_true h6))
        · exact s_stuck
      · exact s_stuck
    · split
      · rename_i kx i hx hi
        split
        · rename_i h
          obtain ⟨h, h5⟩ := ands h
          obtain ⟨h, h4⟩ := ands h
          obtain ⟨h, h3⟩ := ands h
          obtain ⟨hcm, h2⟩ := ands h
          obtain ⟨hfu, hcm⟩ := ands hcm
          have hl := of_decide_eq_true h5
          exact s_try (Nat.lt_of_lt_of_le hl (by decide)) k.ecK hst.1 hst.2 nd (by rw [k.N]; exact ixOf_at hi) (by show X.env.scope.names.lookup _ = _; rw [k.sc]; exact optL h4) (k.tc hfu hx hl h3 h2) k.tk
            (fun W' pn xe tk po => ss_all fun x _ => cS_ok n (W := W') (s := s) (X := X.tr pn xe) (fun _ => po) hst (k.tr pn xe hcm tk) x)
            (fun a pn => ss_all fun x _ => cS_ok n (W := WF) (s := { s with calm := false }) (X := X.suite a pn) (fun z => Bool.noConfusion z) hst (k.suite a pn) x)
        · exact s_stuck
      · exact s_stuck
    · split
      · rename_i kx hx
        split
        · rename_i h
          obtain ⟨h, h5⟩ := ands h
          obtain ⟨h, h3⟩ := ands h
          obtain ⟨hcm, h2⟩ := ands h
          obtain ⟨hfu, hcm⟩ := ands hcm
          have hl := of_decide_eq_true h5
          exact s_try0 k.ecK hst.1 hst.2 (k.tc hfu hx hl h3 h2) k.tk
            (fun W' pn xe tk po => ss_all fun x _ => cS_ok n (W := W') (s := s) (X := X.tr pn xe) (fun _ => po) hst (k.tr pn xe hcm tk) x)
            (fun a pn => ss_all fun x _ => cS_ok n (W := WF) (s := { s with calm := false }) (X := X.suite a pn) (fun z => Bool.noConfusion z) hst (k.suite a pn) x)
        · exact s_stuck
      · exact s_stuck
    · split
      · rename_i t ht
        split
        · rename_i h
          obtain ⟨h, hcm⟩ := ands h
          exact s_for (hp hcm) (k.calm hcm) (ce.i k _ _) (cT_ok k ht) (ss_all fun x _ => ih x) (folded_of X.env h)
        · exact s_stuck
      · exact s_stuck
    · exact s_stuck
end
end Z

/-! Z, part J: a call's end; the defs, level by level; a law's end. -/
namespace Z
open PySem PySem.Spec PyProof.Rows L2
/-! ### what a call leaves -/
mutual
def lowB (n : Nat) : D → Bool
  | .tup ds => lowBs n ds
  | .lst ds => lowBs n ds
  | .scr ds => lowBs n ds
  | .ref i => decide (i < n)
  | _ => true
def lowBs (n : Nat) : List D → Bool
  | [] => true
  | d :: ds => lowB n d && lowBs n ds
end
mutual
theorem low_noref {n : Nat} : ∀ {d : D}, noref d = true → lowB n d = true
  | .tup ds, h => by unfold noref at h; unfold lowB; exact lows_noref h
  | .lst ds, h => by unfold noref at h; unfold lowB; exact lows_noref h
  | .scr ds, h => by unfold noref at h; unfold lowB; exact lows_noref h
  | .ref _, h => by unfold noref at h; cases h
  | .non, _ => by unfold lowB; rfl
  | .bl _, _ => by unfold lowB; rfl
  | .int _, _ => by unfold lowB; rfl
  | .str _, _ => by unfold lowB; rfl
  | .edic, _ => by unfold lowB; rfl
  | .exc _ _, _ => by unfold lowB; rfl
theorem lows_noref {n : Nat} : ∀ {ds : List D}, norefs ds = true → lowBs n ds = true
  | [], _ => by unfold lowBs; rfl
  | d :: ds, h => by
    unfold norefs at h
    obtain ⟨h1, h2⟩ := ands h
    unfold lowBs
    rw [low_noref h1, lows_noref h2]
    rfl
end
section
variable {K : PySem.W.Frag} {φ φ1 : Phi} {H H1 : Hp} {S S' : Store} {n : Nat}
mutual
theorem low_Rv : ∀ {v : V} {d : D}, Rv K φ H v d → lowB φ.c.length d = true
  | _, _, .non => by unfold lowB; rfl
  | _, _, .bl b => by unfold lowB; rfl
  | _, _, .int i => by unfold lowB; rfl
  | _, _, .str x => by unfold lowB; rfl
  | _, _, .tup t r => by unfold lowB; exact low_Rvs r
  | _, _, .lst h f r => by unfold lowB; exact low_Rvs r
  | _, _, .scr h r => by unfold lowB; exact low_Rvs r
  | _, _, .edic h f => by unfold lowB; rfl
  | _, _, .exc _ h f => by unfold lowB; rfl
  | _, _, .ref h q => by unfold lowB; exact decide_eq_true (List.getElem?_eq_some_iff.mp h).1
theorem low_Rvs : ∀ {vs : List V} {ds : List D}, Rvs K φ H vs ds → lowBs φ.c.length ds = true
  | _, _, .nil => by unfold lowBs; rfl
  | _, _, .cons r rs => by unfold lowBs; rw [low_Rv r, low_Rvs rs]; rfl
end
abbrev Phi.cap (φ : Phi) (n : Nat) : Phi := ⟨φ.c.take n, φ.h⟩
theorem cap_at {i : Nat} {x : Option Addr} (h : (φ.c.take n)[i]? = some x) : φ.c[i]? = some x ∧ i < n := by
  rw [List.getElem?_take] at h
  split at h
  · exact ⟨h, by assumption⟩
  · cases h
theorem cap_up {i : Nat} {x : Option Addr} (h : φ.c[i]? = some x) (hi : i < n) : (φ.c.take n)[i]? = some x := by
  rw [List.getElem?_take, if_pos hi]
  exact h
theorem Free.cap {a : Addr} (f : Free φ a) : Free (φ.cap n) a := ⟨fun i h => f.1 i (cap_at h).1, f.2⟩
mutual
theorem Rv.cap : ∀ {v : V} {d : D}, Rv K φ H v d → lowB n d = true → Rv K (φ.cap n) H v d
  | _, _, .non, _ => .non
  | _, _, .bl b, _ => .bl b
  | _, _, .int i, _ => .int i
  | _, _, .str x, _ => .str x
  | _, _, .tup t r, h => .tup (by
      rcases t with ⟨h, f⟩ | h
      · exact .inl ⟨h, f.cap⟩
      · exact .inr h) (Rvs.cap r (by unfold lowB at h; exact h))
  | _, _, .lst q f r, h => .lst q f.cap (Rvs.cap r (by unfold lowB at h; exact h))
  | _, _, .scr t r, h => .scr (by
      rcases t with ⟨h, f⟩ | h
      · exact .inl ⟨h, f.cap⟩
      · exact .inr h) (Rvs.cap r (by unfold lowB at h; exact h))
  | _, _, .edic q f, _ => .edic q f.cap
  | _, _, .exc l q f, _ => .exc l q f.cap
  | _, _, .ref q p, h => .ref (cap_up q (by unfold lowB at h; exact of_decide_eq_true h)) p
theorem Rvs.cap : ∀ {vs : List V} {ds : List D}, Rvs K φ H vs ds → lowBs n ds = true → Rvs K (φ.cap n) H vs ds
  | _, _, .nil, _ => .nil
  | _, _, .cons r rs, h => by
      unfold lowBs at h
      obtain ⟨h1, h2⟩ := ands h
      exact .cons (Rv.cap r h1) (Rvs.cap rs h2)
end
def Cell.low (n : Nat) : Cell → Bool
  | .lst ds => lowBs n ds
  | .dk kvs => lowBs n (kvs.map (·.2))
  | .dt kvs => lowBs n (kvs.map (·.2))
  | .gone => true
theorem Cell.low_noref {c : Cell} (h : c.noref = true) : c.low n = true := by
  cases c with
  | lst ds => exact lows_noref h
  | dk kvs => exact lows_noref h
  | dt kvs => exact lows_noref h
  | gone => rfl
theorem Cell.low_RC {o : Option (Option Addr)} {c : Cell} (h : RC K φ H o c) : c.low φ.c.length = true := by
  cases c with
  | lst ds => obtain ⟨_, _, _, _, r⟩ := h; exact low_Rvs r
  | dk kvs => obtain ⟨_, _, _, _, _, r⟩ := h; exact low_Rvs r
  | dt kvs => obtain ⟨_, _, _, _, _, r⟩ := h; exact low_Rvs r
  | gone => rfl
theorem RC.cap {o : Option (Option Addr)} {c : Cell} (h : RC K φ H o c) (l : c.low n = true) : RC K (φ.cap n) H o c := by
  cases c with
  | lst ds => obtain ⟨a, xs, e1, e2, r⟩ := h; exact ⟨a, xs, e1, e2, r.cap l⟩
  | dk kvs => obtain ⟨a, xs, e1, e2, e3, r⟩ := h; exact ⟨a, xs, e1, e2, e3, r.cap l⟩
  | dt kvs => obtain ⟨a, xs, e1, e2, e3, r⟩ := h; exact ⟨a, xs, e1, e2, e3, r.cap l⟩
  | gone => exact h
/-- the store, cut to what stood before -/
theorem Rs.cap (r0 : Rs K φ S H) (r1 : Rs K φ1 S' H1) (k : Keep S S') : Rs K (φ1.cap S.length) (S'.take S.length) H1 := by
  refine ⟨by rw [List.length_take, List.length_take, r1.len], fun i j a h1 h2 => r1.nd i j a (cap_at h1).1 (cap_at h2).1, fun i a h => r1.tr i a (cap_at h).1, r1.ht, fun i c h => ?_⟩
  rw [List.getElem?_take] at h
  split at h
  · rename_i hi
    show RC K (φ1.cap S.length) H1 (φ1.c.take S.length)[i]? c
    rw [List.getElem?_take, if_pos hi]
    have rc := r1.cell i c h
    refine rc.cap ?_
    rcases k.2 i hi with e | ⟨c', e, nr⟩
    · rw [e] at h
      have := Cell.low_RC (r0.cell i c h)
      rw [r0.len] at this
      exact this
    · rw [e] at h
      cases h
      exact Cell.low_noref nr
  · cases h
theorem Ext.cap (r0 : Rs K φ S H) (e : Ext φ H φ1 H1) : Ext φ H (φ1.cap S.length) H1 := by
  refine .mk' ?_ (fun i o h => ?_) (fun a o f h => ⟨(e.keep a o f h).1, (e.keep a o f h).2.cap⟩) fun a o f h => e.hid a o f h
  · show φ.c.length ≤ (φ1.c.take S.length).length
    rw [List.length_take]
    have := e.len
    have := r0.len
    omega
  · have hi : i < S.length := by rw [← r0.len]; exact (List.getElem?_eq_some_iff.mp h).1
    rcases e.pre i o h with q | q
    · exact .inl (cap_up q hi)
    · exact .inr (cap_up q hi)
variable {ec : Nat → Value} {W W' : WX} {σ : St} {Q : VK}
theorem gc_ok (r0 : Rs K φ S H) {r : R D} (h : OutG (Rv K) K ec W σ φ H (gc S r) Q) : OutG (Rv K) K ec W σ φ H r Q := by
  cases r with
  | ok d S1 =>
    by_cases k : Keep S S1 ∧ noref d = true
    · simp only [gc, if_pos k] at h
      exact fun φ' v H' e rs rv => h (φ'.cap S.length) v H' (e.cap r0) (r0.cap rs k.1) (rv.cap (low_noref k.2))
    · simp only [gc, if_neg k] at h
      exact h
  | exc c a S1 =>
    by_cases k : Keep S S1 ∧ noref a = true
    · simp only [gc, if_pos k] at h
      refine fun φ' H' dd e rs xd => h (φ'.cap S.length) H' dd (e.cap r0) (r0.cap rs k.1) ?_
      unfold Xd at xd ⊢
      cases a with
      | non => exact xd
      | _ =>
        obtain ⟨p, v, e1, e2, e3⟩ := xd
        exact ⟨p, v, e1, e2, e3.cap (low_noref k.2)⟩
    · simp only [gc, if_neg k] at h
      exact h
  | stuck => exact h
/-- from a call's promise to its body's -/
theorem out_body {E : XK} {r : SR} (h : OutG (Rv K) K ec (fun cls d _ H' => E cls d H') [] φ H r.out Q) : OutS K ec (fun cls d _ H' => E cls d H') { nx := fun _ H' => Q .non H', rt := Q } φ H r := by
  cases r with
  | nx δ S1 => exact fun φ' σ' H' e rs re => h φ' .non H' e rs .non
  | rt d S1 => exact fun φ' v H' e rs rv => h φ' v H' e rs rv
  | bk δ S1 => exact h.elim
  | xc c a δ S1 => exact fun φ' σ' H' dd e rs re xd => h φ' H' dd e rs xd
  | stuck => exact h.elim
end
/-! ### the defs -/
structure DefI where
  name : Str
  st : Stmt
  ps : List Str
  N : List Str
  mv : List Nat
  rm : Bool
def DefI.sc (T : Tab) (d : DefI) : Sc := ⟨d.N, defScope d.st, fun _ => true, d.mv, d.rm, !T.hot.contains d.name⟩
/-- a quiet def lets nothing out -/
def DefI.cs (T : Tab) (fuel : Nat) (d : DefI) : CS := if T.hot.contains d.name then .tr (cSs (cS T fuel (d.sc T)) (defBody d.st)) 100 0 .never else cSs (cS T fuel (d.sc T)) (defBody d.st)
def DefI.cf (T : Tab) (fuel : Nat) (d : DefI) : CF := ⟨d.ps.length, d.N.length, d.cs T fuel⟩
theorem tr_never {K : PySem.W.Frag} {ec : Nat → Value} {W : WX} {D : Ends} {φ : Phi} {H : Hp} {F : Fn} {b : CS} {δ : Env} {S : Store} (h : OutS K ec W D φ H (run F (.tr b 100 0 .never) δ S)) : OutS K ec WF D φ H (run F b δ S) := by
  unfold run at h
  cases q : run F b δ S with
  | nx δ1 S1 => rw [q] at h; exact h
  | rt d S1 => rw [q] at h; exact h
  | bk δ1 S1 => rw [q] at h; exact h
  | stuck => rw [q] at h; exact h
  | xc c a δ1 S1 =>
    rw [q] at h
    simp only at h
    by_cases hl : c < excNames.length
    · rw [if_pos hl, if_neg (by decide), if_pos (.inl trivial)] at h
      unfold run at h
      exact h.elim
    · rw [if_neg hl] at h
      exact h.elim
def plainArgs (a : Arguments) (ps : List Str) : Bool := a.posonlyargs.isEmpty && a.vararg.isNone && a.kwonlyargs.isEmpty && a.kw_defaults.isEmpty && a.kwarg.isNone && a.defaults.isEmpty && (a.args.map (·.arg) == ps) && decide (ps.length ≤ 8)
def nodupB (l : List Str) : Bool := match l with
  | [] => true
  | x :: xs => !(xs.any fun y => y == x) && nodupB xs
theorem nodupB_of : ∀ {l : List Str}, nodupB l = true → l.Nodup
  | [], _ => List.nodup_nil
  | x :: xs, h => by
    unfold nodupB at h
    obtain ⟨h1, h2⟩ := ands h
    refine List.nodup_cons.mpr ⟨fun hx => ?_, nodupB_of h2⟩
    have : (xs.any fun y => y == x) = true := List.any_eq_true.mpr ⟨x, hx, beq_self_eq_true x⟩
    rw [this] at h1
    cases h1
def kindB (a b : NameKind) : Bool := a == b
def scopeB (N ps : List Str) (sc : Scope) : Bool := (sc.kind == .function) && (!sc.isCoroutine && (!sc.isGenerator && (nodupB N && ((N.take ps.length == ps) && ((ps.all fun x => (sc.names.lookup x == some .local) || (sc.names.lookup x == some .cell)) && sc.names.all fun y => !(y.2 == .free))))))
theorem kind_eq {a b : ScopeKind} (h : (a == b) = true) : a = b := by cases a <;> cases b <;> first | rfl | cases h
theorem nkind_eq {a b : NameKind} (h : (a == b) = true) : a = b := by cases a <;> cases b <;> first | rfl | cases h
theorem scopeB_of {N ps : List Str} {sc : Scope} (h : scopeB N ps sc = true) : FnScope N ps sc := by
  unfold scopeB at h
  obtain ⟨h1, h⟩ := ands h
  obtain ⟨h2, h⟩ := ands h
  obtain ⟨h3, h⟩ := ands h
  obtain ⟨h4, h⟩ := ands h
  obtain ⟨h5, h⟩ := ands h
  obtain ⟨h6, h7⟩ := ands h
  refine ⟨kind_eq h1, by simpa using h2, by simpa using h3, nodupB_of h4, beq_iff_eq.mp h5, fun x hx => ?_, fun y hy e => ?_⟩
  · have := List.all_eq_true.mp h6 x hx
    rcases Bool.or_eq_true_iff.mp this with q | q
    · exact .inl (optL q)
    · exact .inr (optL q)
  · have := List.all_eq_true.mp h7 y hy
    rw [e] at this
    cases this
def DefI.chk (d : DefI) : Bool := scopeB d.N d.ps (defScope d.st) && plainArgs (defArgs d.st) d.ps

theorem fmap_congr {α β : Type} {f g : α → Option β} : ∀ {l : List α}, (∀ x ∈ l, f x = g x) → l.filterMap f = l.filterMap g
  | [], _ => rfl
  | x :: xs, h => by
    rw [List.filterMap_cons, List.filterMap_cons, h x List.mem_cons_self, fmap_congr (l := xs) fun y hy => h y (List.mem_cons_of_mem _ hy)]
theorem zip_look {α β : Type} [BEq α] [LawfulBEq α] : ∀ {ps : List α} {us : List β} {n : α}, us.length = ps.length → n ∈ ps → ((ps.zip us).lookup n).isSome = true
  | [], _, _, _, h => by cases h
  | _ :: _, [], _, hl, _ => by simp at hl
  | p :: ps, u :: us, n, hl, h => by
    rw [List.zip_cons_cons, List.lookup_cons]
    by_cases e : (n == p) = true
    · rw [e]; rfl
    · have e' : (n == p) = false := by simpa using e
      rw [e']
      refine zip_look (by simpa using hl) ?_
      rcases List.mem_cons.mp h with z | z
      · subst z; rw [beq_self_eq_true] at e'; cases e'
      · exact z
theorem zip_none {α β : Type} [BEq α] [LawfulBEq α] {ps : List α} {us : List β} (hl : us.length = ps.length) : (ps.filter fun n => ((ps.zip us).lookup n).isNone) = [] := by
  rw [List.filter_eq_nil_iff]
  intro a ha h
  have := zip_look hl ha
  cases e : (ps.zip us).lookup a with
  | none => rw [e] at this; cases this
  | some _ => rw [e] at h; cases h
theorem zip_some {α β : Type} [BEq α] [LawfulBEq α] : ∀ {ps : List α} {us : List β}, us.length = ps.length → ps.Nodup → ps.filterMap (fun n => ((ps.zip us).lookup n).map fun x => (n, x)) = ps.zip us
  | [], _, _, _ => rfl
  | _ :: _, [], hl, _ => by simp at hl
  | p :: ps, u :: us, hl, nd => by
    obtain ⟨n1, n2⟩ := List.nodup_cons.mp nd
    have ih := zip_some (ps := ps) (us := us) (by simpa using hl) n2
    rw [List.zip_cons_cons, List.filterMap_cons, List.lookup_cons, beq_self_eq_true]
    show (p, u) :: List.filterMap _ ps = _
    rw [List.cons.injEq]
    refine ⟨rfl, Eq.trans ?_ ih⟩
    have : ∀ n ∈ ps, (List.lookup n ((p, u) :: ps.zip us)).map (fun x => (n, x)) = ((ps.zip us).lookup n).map fun x => (n, x) := fun n hn => by
      rw [List.lookup_cons]
      by_cases e : (n == p) = true
      · have := beq_iff_eq.mp e; subst this; exact absurd hn n1
      · have e' : (n == p) = false := by simpa using e
        rw [e']
    exact (fmap_congr this)
theorem args_bind {a : Arguments} {ps : List Str} (h : plainArgs a ps = true) (nd : ps.Nodup) {x qual : Str} {body : List Stmt} {scope : Scope} (kV doc pm : Value) (an : Option Addr) (cdv ct : Value) (us : List Value) (hl : us.length = ps.length) :
    bindArgs (PySem.W.fnOf x qual a body scope .none kV doc pm an cdv ct) ⟨us, []⟩ = pure (ps.zip us) := by
  unfold plainArgs at h
  obtain ⟨h, h8⟩ := ands h
  obtain ⟨h, h7⟩ := ands h
  obtain ⟨h, h6⟩ := ands h
  obtain ⟨h, h5⟩ := ands h
  obtain ⟨h, h4⟩ := ands h
  obtain ⟨h, h3⟩ := ands h
  obtain ⟨h1, h2⟩ := ands h
  have h7 : a.args.map (·.arg) = ps := beq_iff_eq.mp h7
  obtain ⟨po, as, va, ko, kd, ka, df⟩ := a
  clear h h8
  cases po with
  | cons _ _ => cases h1
  | nil =>
  cases va with
  | some _ => cases h2
  | none =>
  cases ko with
  | cons _ _ => cases h3
  | nil =>
  cases kd with
  | cons _ _ => cases h4
  | nil =>
  cases ka with
  | some _ => cases h5
  | none =>
  cases df with
  | cons _ _ => cases h6
  | nil =>
  have h7 : as.map (·.arg) = ps := h7
  unfold bindArgs PySem.W.fnOf
  have sn : seqItems? Value.none = pure none := rfl
  simp only [h7, List.map_nil, List.nil_append, List.forIn_nil, pure_bind, sn, Option.getD_none, List.length_nil, hl, gt_iff_lt, Nat.lt_irrefl, List.drop_nil, Nat.zero_sub, Nat.sub_zero, List.take_length, zip_none hl, List.isEmpty_nil, Bool.not_true, List.zip_nil_right, List.append_nil, zip_some hl nd, decide_false, Bool.false_and, Bool.false_eq_true, if_false, List.drop_length, List.zip_nil_left]
/-! ### level by level -/
structure Bench (T : Tab) (defs : List DefI) (K : PySem.W.Frag) (mg : Str → Option Value) : Prop where
  chk : ∀ (i : Nat) (d : DefI), defs[i]? = some d → d.chk = true
  glo : ∀ (i : Nat) (d : DefI), defs[i]? = some d → mg d.name = some (.ref (He.ga K d.name)) ∧ ∃ fd, FunD K d.name d.name (defArgs d.st) (defBody d.st) (defScope d.st) [] [] (He.ga K d.name) fd
  bl : ∀ x, T.bl.contains x = true → mg x = none
  fns : ∀ x i, T.fns.lookup x = some i → ∃ d, defs[i]? = some d ∧ d.name = x
  cons : ∀ x d, T.cons.lookup x = some d → ∃ u v, mg x = some u ∧ RelV v u ∧ ∀ φ H, Rv K φ H v d
  exd : T.full = true → ∀ x k, T.ex.lookup x = some k → ∃ cv, IsC K cv k ∧ ((∃ C, cv = .ref C ∧ mg x = some (.ref C)) ∨ (∃ n, cv = .type n ∧ mg x = none ∧ bootBuiltins x = some (.type n)))
  rad : ∀ x k, T.ex.lookup x = some k → 1 ≤ k → k ≤ 17 → ∃ C, mg x = some (.ref C) ∧ clsK K k = .ref C ∧ PySem.W.excIn K C [.type "ValueError", .type "Exception", .type "BaseException", .type "object"] "ValueError.__new__" = true ∧ PySem.W.keepIn K (.ref C) = true ∧
    PySem.W.subIn K (.ref C) (.type "BaseException") = some true ∧ PySem.W.typeIn K (.ref C) = some (.type "type")
  trd : T.full = true → ∀ x k, T.ex.lookup x = some k → k < excNames.length → ∃ cv, mg x = some cv ∧ ∀ c, c < excNames.length → PySem.W.exmOne K (clsK K c) cv = some (decide (k = 0 ∨ k = c))
def prog (T : Tab) (fuel : Nat) (defs : List DefI) (i : Nat) : Option CF := (defs[i]?).map (·.cf T fuel)
section
variable {T : Tab} {fuel : Nat} {defs : List DefI} {P : Program} {w : World} {K : PySem.W.Frag} {mg : Str → Option Value} {base : Heap} {ec : Nat → Value}
theorem re_start {φ : Phi} {H : Hp} {vs : List V} {ds : List D} {N : List Str} (r : Rvs K φ H vs ds) (hn : ds.length ≤ N.length) : RE K φ H (ds.map some ++ List.replicate (N.length - ds.length) none) (L2.start N vs) := by
  have hl := r.len
  unfold L2.start
  refine ⟨by simp [hl], fun i d h => ?_⟩
  by_cases hi : i < ds.length
  · rw [List.getElem?_append_left (by simpa using hi)] at h
    rw [List.getElem?_append_left (by rw [List.length_map, hl]; exact hi)]
    rw [List.getElem?_map] at h ⊢
    cases e : ds[i]? with
    | none => rw [e] at h; cases h
    | some d' =>
      rw [e] at h
      cases h
      obtain ⟨v, h1, h2⟩ := r.get e
      exact ⟨v, by rw [h1]; rfl, h2⟩
  · rw [List.getElem?_append_right (by simpa using hi)] at h
    rw [List.getElem?_replicate] at h
    split at h <;> cases h
theorem lvl (B : Bench T defs K mg) (sk : seerB K = true) (tree : P.given.tree = none) : ∀ (n i : Nat) (d : DefI) (fd : FuncData), defs[i]? = some d → FunD K d.name d.name (defArgs d.st) (defBody d.st) (defScope d.st) [] [] (He.ga K d.name) fd →
    FnOk P w K mg base (L2N.CX P w) (n + 40) (He.ga K d.name) fd d.ps (spF K (clsK K) (evF (prog T fuel defs) n) i) ∧ (T.hot.contains d.name = true → FnQ P w K mg base (n + 40) (He.ga K d.name) fd d.ps (spQ K (clsK K) (evF (prog T fuel defs) n) i))
  | 0, i, d, fd, hd, F => ⟨⟨fun vs H Q E ⟨φ, S, ds, rs, r, h⟩ => by unfold evF at h; exact h.elim, fun A outer s H args us vs Q E hr e0 hb rv ⟨φ, S, ds, rs, r, h⟩ => by unfold evF at h; exact h.elim⟩,
      fun _ => ⟨fun vs H Q ⟨φ, S, ds, rs, r, h⟩ => by unfold evF at h; exact h.elim, fun A outer s H args us vs Q hr e0 hb rv ⟨φ, S, ds, rs, r, h⟩ => by unfold evF at h; exact h.elim⟩⟩
  | n + 1, i, d, fd, hd, F => by
    have ck := B.chk i d hd
    unfold DefI.chk at ck
    obtain ⟨c1, c2⟩ := ands ck
    have sco := scopeB_of c1
    have hp : prog T fuel defs i = some (d.cf T fuel) := by unfold prog; rw [hd]; rfl
    have key : ∀ {vs : List V} {H : Hp} {Q : VK} {W : WX}, (∃ φ S ds, Rs K φ S H ∧ Rvs K φ H vs ds ∧ OutG (Rv K) K (clsK K) W [] φ H (evF (prog T fuel defs) (n + 1) i ds S) Q) → ∃ φ S ds, Rs K φ S H ∧ Rvs K φ H vs ds ∧ ds.length = d.ps.length ∧ ds.length ≤ d.N.length ∧
        OutG (Rv K) K (clsK K) W [] φ H (run (evF (prog T fuel defs) n) (d.cs T fuel) (ds.map some ++ List.replicate (d.N.length - ds.length) none) S).out Q := fun {vs H Q W} ⟨φ, S, ds, rs, r, h⟩ => by
      simp only [evF, hp] at h
      by_cases hc : ds.length = (d.cf T fuel).np ∧ (d.cf T fuel).np ≤ (d.cf T fuel).ns
      · rw [if_pos hc] at h
        refine ⟨φ, S, ds, rs, r, hc.1, by rw [hc.1]; exact hc.2, ?_⟩
        have h2 := gc_ok rs h
        have e : d.N.length - ds.length = (d.cf T fuel).ns - (d.cf T fuel).np := by rw [hc.1]; rfl
        rw [e]
        exact h2
      · rw [if_neg hc] at h
        exact h.elim
    have look : ∀ x j, T.fns.lookup x = some j → ∃ f fd ps, mg x = some (.ref f) ∧ PySem.W.keepIn K (.ref f) = true ∧ Binds K fd ps [] ∧ FnOk P w K mg base (L2N.CX P w) (n + 40) f fd ps (spF K (clsK K) (evF (prog T fuel defs) n) j) ∧
        (T.hot.contains x = true → FnQ P w K mg base (n + 40) f fd ps (spQ K (clsK K) (evF (prog T fuel defs) n) j)) := fun x j hj => by
      obtain ⟨d', hd', rfl⟩ := B.fns x j hj
      obtain ⟨hm, fd', F'⟩ := B.glo j d' hd'
      have ck' := B.chk j d' hd'
      unfold DefI.chk at ck'
      obtain ⟨c1', c2'⟩ := ands ck'
      have sco' := scopeB_of c1'
      have nd' : d'.ps.Nodup := by
        rw [← sco'.pre]
        exact sco'.nd.sublist (List.take_sublist _ _)
      obtain ⟨l1, l2⟩ := lvl B sk tree n j d' fd' hd' F'
      exact ⟨_, fd', d'.ps, hm, F'.kp, F'.bindsN fun kV doc pm an cdv ct us hl => args_bind c2' nd' kV doc pm an cdv ct us hl, l1, l2⟩
    have more : 65 + 16 * n ≤ 16 * (n + 40) + 200 := by omega
    refine ⟨F.ok sco (fun vs H Q E h => ?_) (fun cdv A outer s H vs Q E hr h => ?_), fun hot => fn_quiet F sco (fun vs H Q h => ?_) (fun cdv A outer s H vs Q hr h => ?_)⟩
    · obtain ⟨φ, S, ds, rs, r, hl, _⟩ := key h
      rw [r.len, hl]
    · obtain ⟨φ, S, ds, rs, r, hl, hn, h⟩ := key h
      have tk : L2N.Takes (cxOf (L2N.CX P w) P w K mg base d.N d.name (defScope d.st) (He.ga K d.name) cdv A outer s H E) (fun cls d _ H => E cls d H) := L2N.takes_of rfl rfl rfl rfl
      by_cases hc : T.hot.contains d.name = true
      · have hcm : (d.sc T).calm = false := by show (!T.hot.contains d.name) = false; rw [hc]; rfl
        have eb : d.cs T fuel = .tr (cSs (cS T fuel (d.sc T)) (defBody d.st)) 100 0 .never := if_pos hc
        rw [eb] at h
        have k : Xok T (clsK K) (evF (prog T fuel defs) n) WF (n + 40) (d.sc T) (cxOf (L2N.CX P w) P w K mg base d.N d.name (defScope d.st) (He.ga K d.name) cdv A outer s H E) := {
          N := rfl
          nd := sco.nd
          sc := rfl
          kind := sco.kind
          fn := rfl
          calm := fun z => by rw [hcm] at z; cases z
          quiet := fun _ => rfl
          hu := by exact Nat.lt_of_le_of_lt (Nat.add_le_add (Nat.le_add_right _ _) (by decide : 65 ≤ 200)) hr.un
          room := fun z => by rw [hcm] at z; cases z
          roomH := L2H.roomH_of hr
          tk := takesN0
          bl := B.bl
          fns := fun x j hj => by
            obtain ⟨f, fd', ps, h1, h2, h3, h4, _⟩ := look x j hj
            exact ⟨f, fd', ps, h1, h2, h3, h4⟩
          fnsQ := fun x j hq hj => by
            obtain ⟨f, fd', ps, h1, h2, h3, _, h5⟩ := look x j hj
            exact ⟨f, fd', ps, h1, h2, h3, h5 hq⟩
          cons := B.cons
          exd := fun f x k h => ⟨B.exd f x k h⟩
          rad := fun x k h h1 h2 => ⟨B.rad x k h h1 h2⟩
          trd := fun f x k h h1 => ⟨B.trd f x k h h1⟩
          ecK := rfl
          sx := ⟨sk, tree, by
            have := hr.dp
            show (A.deeper _).depth + Builtin.pylongFrames < recursionLimit
            unfold Builtin.pylongFrames
            unfold recursionLimit at this ⊢
            omega, ⟨_, _, rfl, sco.gen, sco.co, rfl, rfl⟩⟩ }
        exact ⟨_, ss_all fun st _ => cS_ok fuel (fun z => by rw [hcm] at z; cases z) ⟨rfl, rfl⟩ k st, φ, _, S, rs, re_start r hn, tr_never (out_body h)⟩
      · have hcm : (d.sc T).calm = true := by
          show (!T.hot.contains d.name) = true
          simpa using hc
        have eb : d.cs T fuel = cSs (cS T fuel (d.sc T)) (defBody d.st) := if_neg hc
        rw [eb] at h
        have k : Xok T (clsK K) (evF (prog T fuel defs) n) (fun cls d _ H => E cls d H) (n + 40) (d.sc T) (cxOf (L2N.CX P w) P w K mg base d.N d.name (defScope d.st) (He.ga K d.name) cdv A outer s H E) := {
          N := rfl
          nd := sco.nd
          sc := rfl
          kind := sco.kind
          fn := rfl
          calm := fun _ => rfl
          quiet := fun z => by rw [hcm] at z; cases z
          hu := by exact Nat.lt_of_le_of_lt (Nat.add_le_add (Nat.le_add_right _ _) (by decide : 65 ≤ 200)) hr.un
          room := fun _ => hr
          roomH := L2H.roomH_of hr
          tk := tk
          bl := B.bl
          fns := fun x j hj => by
            obtain ⟨f, fd', ps, h1, h2, h3, h4, _⟩ := look x j hj
            exact ⟨f, fd', ps, h1, h2, h3, h4⟩
          fnsQ := fun x j hq hj => by
            obtain ⟨f, fd', ps, h1, h2, h3, _, h5⟩ := look x j hj
            exact ⟨f, fd', ps, h1, h2, h3, h5 hq⟩
          cons := B.cons
          exd := fun f x k h => ⟨B.exd f x k h⟩
          rad := fun x k h h1 h2 => ⟨B.rad x k h h1 h2⟩
          trd := fun f x k h h1 => ⟨B.trd f x k h h1⟩
          ecK := rfl
          sx := ⟨sk, tree, by
            have := hr.dp
            show (A.deeper _).depth + Builtin.pylongFrames < recursionLimit
            unfold Builtin.pylongFrames
            unfold recursionLimit at this ⊢
            omega, ⟨_, _, rfl, sco.gen, sco.co, rfl, rfl⟩⟩ }
        have hp : PassesOwn (model P w) (cxOf (L2N.CX P w) P w K mg base d.N d.name (defScope d.st) (He.ga K d.name) cdv A outer s H E).A (cxOf (L2N.CX P w) P w K mg base d.N d.name (defScope d.st) (He.ga K d.name) cdv A outer s H E).env (cxOf (L2N.CX P w) P w K mg base d.N d.name (defScope d.st) (He.ga K d.name) cdv A outer s H E).xe := passes_of rfl
        exact ⟨_, ss_all fun st _ => cS_ok fuel (fun _ => hp) ⟨rfl, rfl⟩ k st, φ, _, S, rs, re_start r hn, out_body h⟩
    · obtain ⟨φ, S, ds, rs, r, hl, _⟩ := key h
      rw [r.len, hl]
    · obtain ⟨φ, S, ds, rs, r, hl, hn, h⟩ := key h
      have hcm : (d.sc T).calm = false := by show (!T.hot.contains d.name) = false; rw [hot]; rfl
      have eb : d.cs T fuel = .tr (cSs (cS T fuel (d.sc T)) (defBody d.st)) 100 0 .never := if_pos hot
      rw [eb] at h
      have k : Xok T (clsK K) (evF (prog T fuel defs) n) WF (n + 40) (d.sc T) (cxQ P w K mg base d.N d.name (defScope d.st) (He.ga K d.name) cdv A outer s H) := {
        N := rfl
        nd := sco.nd
        sc := rfl
        kind := sco.kind
        fn := rfl
        calm := fun z => by rw [hcm] at z; cases z
        quiet := fun _ => rfl
        hu := by exact Nat.lt_of_le_of_lt (Nat.add_le_add (Nat.le_add_right _ _) (by decide : 65 ≤ 200)) hr.un
        room := fun z => by rw [hcm] at z; cases z
        roomH := hr
        tk := takesN0
        bl := B.bl
        fns := fun x j hj => by
          obtain ⟨f, fd', ps, h1, h2, h3, h4, _⟩ := look x j hj
          exact ⟨f, fd', ps, h1, h2, h3, h4⟩
        fnsQ := fun x j hq hj => by
          obtain ⟨f, fd', ps, h1, h2, h3, _, h5⟩ := look x j hj
          exact ⟨f, fd', ps, h1, h2, h3, h5 hq⟩
        cons := B.cons
        exd := fun f x k h => ⟨B.exd f x k h⟩
        rad := fun x k h h1 h2 => ⟨B.rad x k h h1 h2⟩
        trd := fun f x k h h1 => ⟨B.trd f x k h h1⟩
        ecK := rfl
        sx := ⟨sk, tree, by
          have := hr.dp
          show (A.deeper _).depth + Builtin.pylongFrames < recursionLimit
          unfold Builtin.pylongFrames
          unfold recursionLimit at this ⊢
          omega, ⟨_, _, rfl, sco.gen, sco.co, rfl, rfl⟩⟩ }
      exact ⟨_, ss_all fun st _ => cS_ok fuel (fun z => by rw [hcm] at z; cases z) ⟨rfl, rfl⟩ k st, φ, _, S, rs, re_start r hn, tr_never (out_body (E := fun _ _ _ => False) h)⟩
end
end Z

/-! Z, part K: the module's constants; the head's Hook; a law's end. -/
namespace Z
open PySem PySem.Spec PyProof.Rows L2
mutual
def kD (K : PySem.W.Frag) : D → Value → Bool
  | .non, .none => true
  | .bl a, .bool b => a == b
  | .int i, .int j _ => decide (i = j)
  | .str x, .str y _ => decide (x = y)
  | .tup ds, .ref a => (match K.lookup a with
    | some ⟨.type c, _, .seq its _, _⟩ => decide (c = "tuple") && (decide (its.size ≤ sizeLine) && kDs K ds its.toList)
    | _ => false)
  | .scr ds, .ref a => (match K.lookup a with
    | some ⟨.type c, none, .seq its _, _⟩ => decide (c = "list") && (decide (its.size ≤ sizeLine) && kDs K ds its.toList)
    | _ => false)
  | _, _ => false
def kDs (K : PySem.W.Frag) : List D → List Value → Bool
  | [], [] => true
  | d :: ds, u :: us => kD K d u && kDs K ds us
  | _, _ => false
end
mutual
theorem kD_ok {K : PySem.W.Frag} : ∀ {d : D} {u : Value}, kD K d u = true → ∃ v, RelV v u ∧ ∀ φ H, Rv K φ H v d
  | .non, u, h => by
    cases u with
    | none => exact ⟨.non, rfl, fun _ _ => .non⟩
    | _ => unfold kD at h; cases h
  | .bl a, u, h => by
    cases u with
    | bool b =>
      unfold kD at h
      have e : a = b := eq_of_beq h
      subst e
      exact ⟨.bl a, rfl, fun _ _ => .bl a⟩
    | _ => unfold kD at h; cases h
  | .int i, u, h => by
    cases u with
    | int j t =>
      unfold kD at h
      have e : i = j := of_decide_eq_true h
      subst e
      exact ⟨.int i, ⟨t, rfl⟩, fun _ _ => .int i⟩
    | _ => unfold kD at h; cases h
  | .str i, u, h => by
    cases u with
    | str j t =>
      unfold kD at h
      have e : i = j := of_decide_eq_true h
      subst e
      exact ⟨.str i, ⟨t, rfl⟩, fun _ _ => .str i⟩
    | _ => unfold kD at h; cases h
  | .tup ds, u, h => by
    cases u with
    | ref a =>
      unfold kD at h
      cases q : K.lookup a with
      | none => rw [q] at h; cases h
      | some o =>
        obtain ⟨oc, od, dt, osl⟩ := o
        rw [q] at h
        cases oc with
        | type c =>
          cases dt with
          | seq its n =>
            obtain ⟨h1, h2⟩ := ands (show (decide (c = "tuple") && (decide (its.size ≤ sizeLine) && kDs K ds its.toList)) = true from h)
            obtain ⟨h3, h4⟩ := ands h2
            obtain ⟨vs, r1, r2⟩ := kDs_ok h4
            exact ⟨.ref a, rfl, fun φ H => .tup (.inr ⟨_, its, n, q, congrArg Value.type (of_decide_eq_true h1), rfl, of_decide_eq_true h3, r1⟩) (r2 φ H)⟩
          | _ => cases h
        | _ => cases dt <;> cases h
    | _ => unfold kD at h; cases h
  | .scr ds, u, h => by
    cases u with
    | ref a =>
      unfold kD at h
      cases q : K.lookup a with
      | none => rw [q] at h; cases h
      | some o =>
        obtain ⟨oc, od, dt, osl⟩ := o
        rw [q] at h
        cases oc with
        | type c =>
          cases od with
          | none =>
            cases dt with
            | seq its n =>
              obtain ⟨h1, h2⟩ := ands (show (decide (c = "list") && (decide (its.size ≤ sizeLine) && kDs K ds its.toList)) = true from h)
              obtain ⟨h3, h4⟩ := ands h2
              obtain ⟨vs, r1, r2⟩ := kDs_ok h4
              exact ⟨.ref a, rfl, fun φ H => .scr (.inr ⟨_, its, n, q, congrArg Value.type (of_decide_eq_true h1), rfl, rfl, of_decide_eq_true h3, r1⟩) (r2 φ H)⟩
            | _ => cases h
          | some _ => cases dt <;> cases h
        | _ => cases od <;> cases dt <;> cases h
    | _ => unfold kD at h; cases h
  | .lst _, u, h => by cases u <;> (unfold kD at h; cases h)
  | .edic, u, h => by cases u <;> (unfold kD at h; cases h)
  | .ref _, u, h => by cases u <;> (unfold kD at h; cases h)
  | .exc _ _, u, h => by cases u <;> (unfold kD at h; cases h)
theorem kDs_ok {K : PySem.W.Frag} : ∀ {ds : List D} {us : List Value}, kDs K ds us = true → ∃ vs, Vals vs us ∧ ∀ φ H, Rvs K φ H vs ds
  | [], [], _ => ⟨[], .nil, fun _ _ => .nil⟩
  | d :: ds, u :: us, h => by
    unfold kDs at h
    obtain ⟨h1, h2⟩ := ands h
    obtain ⟨v, r1, r2⟩ := kD_ok h1
    obtain ⟨vs, r3, r4⟩ := kDs_ok h2
    exact ⟨v :: vs, .cons r1 r3, fun φ H => .cons (r2 φ H) (r4 φ H)⟩
  | [], _ :: _, h => by unfold kDs at h; cases h
  | _ :: _, [], h => by unfold kDs at h; cases h
end
def conB (K : PySem.W.Frag) (q : Str × D) : Bool := match PySem.W.nsIn K mainGlobals q.1 with
  | some (some u) => kD K q.2 u
  | _ => false
theorem conB_ok {K : PySem.W.Frag} {h : Heap} {mg : Str → Option Value} (X : K.In h) (G : h.Ns mainGlobals mg) {q : Str × D} (c : conB K q = true) : ∃ u v, mg q.1 = some u ∧ RelV v u ∧ ∀ φ H, Rv K φ H v q.2 := by
  unfold conB at c
  cases e : PySem.W.nsIn K mainGlobals q.1 with
  | none => rw [e] at c; cases c
  | some o =>
    rw [e] at c
    cases o with
    | none => cases c
    | some u =>
      obtain ⟨v, r1, r2⟩ := kD_ok c
      exact ⟨u, v, PySem.W.mg_of X G e, r1, r2⟩

/-! ### the classes of what is refused -/
def clsA (K : PySem.W.Frag) (c : Nat) : Option Addr := match clsK K c with
  | .ref a => some a
  | _ => none
theorem clsA_of {K : PySem.W.Frag} {c : Nat} {C : Addr} (h : clsA K c = some C) : clsK K c = .ref C := by
  unfold clsA at h
  split at h
  · rename_i a e
    cases h
    exact e
  · cases h
def veB : List Value := [.type "ValueError", .type "Exception", .type "BaseException", .type "object"]
def mroOf1 (C E : Addr) (c : Nat) : List Value := if c = 0 then .ref C :: veB else .ref C :: .ref E :: veB
def excC1 (K : PySem.W.Frag) (C E : Addr) (c : Nat) : Bool := (match PySem.W.clsIn K C with
    | some cd => cd.mro == mroOf1 C E c
    | none => false) &&
  ((PySem.W.typeIn K (.ref C) == some (.type "type")) && ((PySem.W.findIn K (.ref C) "__getattribute__" == some (some (.builtin "BaseException.__getattribute__"))) && ((PySem.W.findIn K (.ref C) "__getattr__" == some none) && (PySem.W.hasDictIn K C &&
  ((PySem.W.findIn K (.ref C) "__class__" == some (some (.builtin "object.__class__"))) &&
  (if 1 ≤ c ∧ c ≤ 17 then PySem.W.excIn K C veB "ValueError.__new__" && PySem.W.keepIn K (.ref C) else true))))))
def excAll (K : PySem.W.Frag) : Bool := ((List.range 19).map (clsA K)).all (·.isSome) && (decide ((List.range 19).map (clsA K)).Nodup && ((PySem.W.specialIn K (.builtin "object.__class__") "__get__" == some (some (.builtin "getset_descriptor.__get__"))) && ((PySem.W.takesIn K (.builtin "object.__class__") == some true) &&
  ((PySem.W.kitOne K (.type "NoneType") (.type "ValueError") == some false) && ((PySem.W.nsIn K mainGlobals "ValueError" == some none) && (List.range 19).all fun c => match clsA K c, clsA K 0 with
    | some C, some E => excC1 K C E c
    | _, _ => false)))))
def exTab : List (Str × Nat) := ("ValueError", 99) :: excNames.zipIdx
/-- some of them, to be raised -/
def excSome (K : PySem.W.Frag) (c : Nat) : Bool := match clsA K c with
  | some C => PySem.W.excIn K C veB "ValueError.__new__" && (PySem.W.keepIn K (.ref C) && ((PySem.W.subIn K (.ref C) (.type "BaseException") == some true) && (PySem.W.typeIn K (.ref C) == some (.type "type"))))
  | none => false
def exTab1 (l : List Nat) : List (Str × Nat) := l.filterMap fun c => (excNames[c]?).map fun x => (x, c)
theorem exTab1_mem {l : List Nat} {x : Str} {c : Nat} (h : (exTab1 l).lookup x = some c) : c ∈ l ∧ excNames[c]? = some x := by
  have m := PySem.mem_of_lookup h
  unfold exTab1 at m
  obtain ⟨d, hd, e⟩ := List.mem_filterMap.mp m
  cases q : excNames[d]? with
  | none => rw [q] at e; cases e
  | some y =>
    rw [q] at e
    cases e
    exact ⟨hd, q⟩
structure ExcAll (K : PySem.W.Frag) : Prop where
  sub : ∀ c k C D, c < 19 → k < 19 → clsA K c = some C → clsA K k = some D → PySem.W.subIn K (.ref C) (.ref D) = some (decide (k = 0 ∨ k = c))
  ve : ∀ c C T, c < 19 → clsA K c = some C → T ∈ veB → PySem.W.subIn K (.ref C) T = some true
  all : ∀ c, c < 19 → ∃ C, clsA K c = some C ∧ ExcC K C ∧ PySem.W.typeIn K (.ref C) = some (.type "type") ∧ (PySem.W.clsIn K C).isSome = true ∧ (1 ≤ c → c ≤ 17 → PySem.W.excIn K C veB "ValueError.__new__" = true ∧ PySem.W.keepIn K (.ref C) = true)
  non : PySem.W.kitOne K (.type "NoneType") (.type "ValueError") = some false
  nov : PySem.W.nsIn K mainGlobals "ValueError" = some none
theorem excAll_of {K : PySem.W.Frag} (h : excAll K = true) : ExcAll K := by
  unfold excAll at h
  obtain ⟨h1, h⟩ := ands h
  obtain ⟨h2, h⟩ := ands h
  obtain ⟨h3, h⟩ := ands h
  obtain ⟨h4, h⟩ := ands h
  obtain ⟨h5, h⟩ := ands h
  obtain ⟨h6, h7⟩ := ands h
  have h2 := of_decide_eq_true h2
  have h3 := beq_iff_eq.mp h3
  have h4 := beq_iff_eq.mp h4
  have h5 := beq_iff_eq.mp h5
  have h6 := beq_iff_eq.mp h6
  have some_ : ∀ c, c < 19 → ∃ C, clsA K c = some C := fun c hc => by
    have := List.all_eq_true.mp h1 (clsA K c) (List.mem_map.mpr ⟨c, List.mem_range.mpr hc, rfl⟩)
    exact Option.isSome_iff_exists.mp this
  have inj : ∀ c k C, c < 19 → k < 19 → clsA K c = some C → clsA K k = some C → c = k := fun c k C hc hk e1 e2 => by
    have pw := List.pairwise_iff_getElem.mp h2
    have g : ∀ j (h : j < ((List.range 19).map (clsA K)).length), ((List.range 19).map (clsA K))[j] = clsA K j := fun j h => by
      rw [List.getElem_map, List.getElem_range]
    have lc : c < ((List.range 19).map (clsA K)).length := by simpa using hc
    have lk : k < ((List.range 19).map (clsA K)).length := by simpa using hk
    rcases Nat.lt_trichotomy c k with q | q | q
    · exact absurd (by rw [g c lc, g k lk, e1, e2]) (pw c k lc lk q)
    · exact q
    · exact absurd (by rw [g c lc, g k lk, e1, e2]) (pw k c lk lc q)
  obtain ⟨E, hE⟩ := some_ 0 (by decide)
  have cls : ∀ c C, c < 19 → clsA K c = some C → excC1 K C E c = true := fun c C hc e => by
    have := List.all_eq_true.mp h7 c (List.mem_range.mpr hc)
    rw [e, hE] at this
    exact this
  have mro : ∀ c C, c < 19 → clsA K c = some C → ∃ cd, PySem.W.clsIn K C = some cd ∧ cd.mro = mroOf1 C E c := fun c C hc e => by
    have h := (ands (cls c C hc e)).1
    cases q : PySem.W.clsIn K C with
    | none => rw [q] at h; cases h
    | some cd => rw [q] at h; exact ⟨cd, rfl, beq_iff_eq.mp h⟩
  have sub : ∀ c C b, c < 19 → clsA K c = some C → PySem.W.subIn K (.ref C) b = some ((mroOf1 C E c).contains b) := fun c C b hc e => by
    obtain ⟨cd, q1, q2⟩ := mro c C hc e
    show PySem.W.mroIn K C b = _
    unfold PySem.W.mroIn
    rw [q1, Option.bind_some, q2]
    unfold mroOf1
    split <;> rfl
  have ne : ∀ D : Addr, veB.contains (.ref D) = false := fun D => by
    unfold veB
    simp
  have ve : ∀ c C T, c < 19 → clsA K c = some C → T ∈ veB → PySem.W.subIn K (.ref C) T = some true := fun c C T hc e hT => by
    rw [sub c C T hc e]
    have : (mroOf1 C E c).contains T = true := by
      rw [List.contains_iff_mem]
      unfold mroOf1
      split
      · exact List.mem_cons_of_mem _ hT
      · exact List.mem_cons_of_mem _ (List.mem_cons_of_mem _ hT)
    rw [this]
  refine ⟨fun c k C D hc hk e1 e2 => ?_, ve, fun c hc => ?_, h5, h6⟩
  · rw [sub c C _ hc e1]
    congr 1
    have d1 : (Value.ref D == Value.ref C) = decide (k = c) := by
      by_cases q : k = c
      · subst q
        rw [e1] at e2
        cases e2
        simp
      · rw [decide_eq_false q]
        refine beq_eq_false_iff_ne.mpr fun z => q ?_
        rw [Value.ref.inj z] at e2
        exact inj k c C hk hc e2 e1
    have d0 : (Value.ref D == Value.ref E) = decide (k = 0) := by
      by_cases q : k = 0
      · subst q
        rw [hE] at e2
        cases e2
        simp
      · rw [decide_eq_false q]
        refine beq_eq_false_iff_ne.mpr fun z => q ?_
        rw [Value.ref.inj z] at e2
        exact inj k 0 E hk (by decide) e2 hE
    unfold mroOf1
    by_cases q : c = 0
    · rw [if_pos q, List.contains_cons, ne, d1, q]
      simp
    · rw [if_neg q, List.contains_cons, List.contains_cons, ne, d1, d0]
      by_cases q1 : k = 0 <;> by_cases q2 : k = c <;> simp [q1, q2]
  · obtain ⟨C, e⟩ := some_ c hc
    obtain ⟨g1, g⟩ := ands (cls c C hc e)
    obtain ⟨g2, g⟩ := ands g
    obtain ⟨g3, g⟩ := ands g
    obtain ⟨g4, g⟩ := ands g
    obtain ⟨g5, g⟩ := ands g
    obtain ⟨g6, g7⟩ := ands g
    obtain ⟨cd, q1, q2⟩ := mro c C hc e
    have bex := ve c C (.type "BaseException") hc e (by simp [veB])
    have obj : PySem.W.mroIn K C (.type "object") = some true := ve c C (.type "object") hc e (by simp [veB])
    refine ⟨C, e, ⟨beq_iff_eq.mp g3, beq_iff_eq.mp g4, bex, g5, beq_iff_eq.mp g6, h3, h4, obj⟩, beq_iff_eq.mp g2, by rw [q1]; rfl, fun i1 i2 => ?_⟩
    rw [if_pos ⟨i1, i2⟩] at g7
    exact ands g7
/-! ### the head -/
def mkD (d : DefI) : He.DefD := ⟨(d.name, none), d.name, d.name, defArgs d.st, defBody d.st, defScope d.st, [], []⟩
/-- what a law's text holds -/
structure Lw where
  defs : List DefI
  bl : List Str
  cons : List (Str × D)
  fuel : Nat
  full : Bool
  ex : List Nat
  hot : List Str
def Lw.tab (L : Lw) : Tab := ⟨(L.defs.map (·.name)).zipIdx, L.cons, L.bl, if L.full then exTab else exTab1 L.ex, L.hot, L.full⟩
def Lw.fa (L : Lw) : List He.Fa := L.defs.map (fun d => .glo d.name) ++ L.bl.map .free
def Lw.fn (L : Lw) : List He.DefD := L.defs.map mkD
def Lw.prog (L : Lw) : Nat → Option CF := Z.prog L.tab L.fuel L.defs
abbrev ObZ : Type := Bool × He.AlD
def obsZ (L : Lw) (K : PySem.W.Frag) : ObZ := ((if L.full then excAll K else L.ex.all (excSome K)) && (seerB K && L.cons.all (conB K)), He.obsD L.fa L.fn K)
def valZ (L : Lw) : ObZ := (true, He.valD L.fn)
def SaysZ (L : Lw) (K : PySem.W.Frag) : Prop := obsZ L K = valZ L
def obsZG (n : Nat) (L : Lw) (g : Addr → Option Obj) : ObZ := obsZ L (He.frG g (cStatics :: sysModules :: He.asD g n))
def hookZ (n : Nat) (L : Lw) : PySem.W.Hook where
  α := ObZ
  obs := fun s => obsZG n L s.heap.get?
  val := fun _ => valZ L
  says := fun _ h => ∃ K : PySem.W.Frag, K.In h ∧ SaysZ L K
  of := fun _ _ e => ⟨_, He.frG_in, e⟩
  keeps := fun _ _ _ ⟨K, hK, c⟩ k => ⟨K, PySem.W.Frag.In.keeps hK k, c⟩
theorem obsZG_eq {n : Nat} {L : Lw} {g : Addr → Option Obj} {s : Shared} (h : ∀ a, g a = s.heap.get? a) : obsZG n L g = (hookZ n L).obs s := by
  have e : g = s.heap.get? := funext h
  rw [e] <;> rfl
def Lw.chk (L : Lw) : Bool := L.defs.all DefI.chk
theorem fact_mem {fa : List He.Fa} {fn : List He.DefD} {K : PySem.W.Frag} (c : He.SaysD fa fn K) {f : He.Fa} (h : f ∈ fa) : f.ok K = true := by
  obtain ⟨i, hi⟩ := List.mem_iff_getElem?.mp h
  exact c.fact i hi
theorem look_zip {x : Str} {i : Nat} : ∀ {l : List Str} {k : Nat}, (l.zipIdx k).lookup x = some i → k ≤ i ∧ l[i - k]? = some x
  | [], _, h => by cases h
  | y :: l, k, h => by
    rw [List.zipIdx_cons, List.lookup_cons] at h
    by_cases e : (x == y) = true
    · rw [e] at h
      have h : some k = some i := h
      cases h
      rw [beq_iff_eq.mp e]
      exact ⟨Nat.le_refl _, by simp⟩
    · have e' : (x == y) = false := by simpa using e
      rw [e'] at h
      obtain ⟨h1, h2⟩ := look_zip h
      refine ⟨by omega, ?_⟩
      have : i - k = (i - (k + 1)) + 1 := by omega
      rw [this, List.getElem?_cons_succ]
      exact h2
theorem sk_of {L : Lw} {K : PySem.W.Frag} (c : SaysZ L K) : seerB K = true := by
  have c1 : ((if L.full then excAll K else L.ex.all (excSome K)) && (seerB K && L.cons.all (conB K))) = true := congrArg (fun z : ObZ => z.1) c
  exact (ands2 (ands2 c1).2).1
theorem bench_of {L : Lw} {K : PySem.W.Frag} {h : Heap} {mg : Str → Option Value} (X : K.In h) (G : h.Ns mainGlobals mg) (c : SaysZ L K) (ck : L.chk = true) : Bench L.tab L.defs K mg := by
  have c0 : ((if L.full then excAll K else L.ex.all (excSome K)) && (seerB K && L.cons.all (conB K))) = true := congrArg (fun z : ObZ => z.1) c
  have c1 : L.cons.all (conB K) = true := (ands2 (ands2 c0).2).2
  have cx : L.full = true → ∀ x k, L.tab.ex.lookup x = some k → ExcAll K ∧ ((x = ("ValueError" : Str) ∧ k = 99) ∨ excNames[k]? = some x) := fun he x k hk => by
    have hk : (if L.full then exTab else exTab1 L.ex).lookup x = some k := hk
    have ha := (ands2 c0).1
    rw [if_pos he] at hk ha
    refine ⟨excAll_of ha, ?_⟩
    unfold exTab at hk
    rw [List.lookup_cons] at hk
    by_cases e : (x == ("ValueError" : Str)) = true
    · rw [e] at hk
      cases hk
      exact .inl ⟨beq_iff_eq.mp e, rfl⟩
    · have e' : (x == ("ValueError" : Str)) = false := by simpa using e
      rw [e'] at hk
      have q := (look_zip hk).2
      exact .inr q
  have cn : ∀ x k C, excNames[k]? = some x → clsA K k = some C → mg x = some (.ref C) := fun x k C hx e => by
    have e1 := clsA_of e
    unfold clsK at e1
    rw [hx] at e1
    simp only at e1
    cases q : PySem.W.nsIn K mainGlobals x with
    | none => rw [q] at e1; cases e1
    | some o =>
      cases o with
      | none => rw [q] at e1; cases e1
      | some v =>
        rw [q] at e1
        simp only at e1
        subst e1
        exact PySem.W.mg_of X G q
  have cm : ∀ x k, ExcAll K → excNames[k]? = some x → k < 19 ∧ ∃ C, clsA K k = some C ∧ mg x = some (.ref C) := fun x k A hx => by
    have hk : k < 19 := (List.getElem?_eq_some_iff.mp hx).1
    obtain ⟨C, e, _⟩ := A.all k hk
    exact ⟨hk, C, e, cn x k C hx e⟩
  have c2 : He.SaysD L.fa L.fn K := congrArg (fun z : ObZ => z.2) c
  refine ⟨fun i d hd => List.all_eq_true.mp ck d (List.mem_of_getElem? hd), fun i d hd => ⟨?_, ?_⟩, fun x hx => ?_, fun x i hi => ?_, fun x d hd => ?_, fun hfu x k hk => ?_, fun x k hk i1 i2 => ?_, fun hfu x k hk hl => ?_⟩
  · exact He.glo_ok X G (fact_mem c2 (List.mem_append_left _ (List.mem_map.mpr ⟨d, List.mem_of_getElem? hd, rfl⟩)))
  · exact c2.def_ i (d := mkD d) (by unfold Lw.fn; rw [List.getElem?_map, hd]; rfl)
  · have hx : x ∈ L.bl := by
      have : L.bl.contains x = true := hx
      simpa using this
    exact He.free_ok X G (fact_mem c2 (List.mem_append_right _ (List.mem_map.mpr ⟨x, hx, rfl⟩)))
  · obtain ⟨_, h2⟩ := look_zip (show ((L.defs.map (·.name)).zipIdx 0).lookup x = some i from hi)
    rw [Nat.sub_zero, List.getElem?_map] at h2
    cases e : L.defs[i]? with
    | none => rw [e] at h2; cases h2
    | some d => rw [e] at h2; exact ⟨d, rfl, Option.some.inj h2⟩
  · have := List.all_eq_true.mp c1 (x, d) (PySem.mem_of_lookup hd)
    exact conB_ok X G this
  · obtain ⟨A, hx⟩ := cx hfu x k hk
    rcases hx with ⟨rfl, rfl⟩ | hx
    · refine ⟨.type "ValueError", ⟨fun c hc => ?_, A.non⟩, .inr ⟨"ValueError", rfl, PySem.W.mg_none_of X G A.nov, by decide +kernel⟩⟩
      obtain ⟨C, e, g1, g2, g3, g4⟩ := A.all c hc
      refine ⟨C, clsA_of e, g1, ?_⟩
      rw [decide_eq_true (.inr (.inl rfl))]
      have s := A.ve c C (.type "ValueError") hc e (by simp [veB])
      unfold PySem.W.kitOne
      rw [if_neg (by intro z; cases beq_iff_eq.mp z)]
      show (if PySem.W.kitMeta "ValueError" = true then PySem.W.subIn K (.ref C) (.type "ValueError") else none) = _
      rw [if_pos (by decide +kernel), s]
    · obtain ⟨hl, D, e, hm⟩ := cm x k A hx
      refine ⟨.ref D, ⟨fun c hc => ?_, ?_⟩, .inl ⟨D, rfl, hm⟩⟩
      · obtain ⟨C, e2, g1, g2, g3, g4⟩ := A.all c hc
        obtain ⟨D', e3, _, h2, h3, _⟩ := A.all k hl
        rw [e] at e3
        cases e3
        refine ⟨C, clsA_of e2, g1, ?_⟩
        have s := A.sub c k C D hc hl e2 e
        have k99 : k ≠ 99 := by omega
        have d : decide (k = 0 ∨ k = 99 ∨ k = c) = decide (k = 0 ∨ k = c) := by simp [k99]
        rw [d]
        unfold PySem.W.kitOne
        split
        · rename_i z
          have z := Value.ref.inj (beq_iff_eq.mp z)
          rw [z] at e2 s
          rw [← s, A.sub c c D D hc hc e2 e2]
          simp
        · show (if ((PySem.W.clsIn K D).isSome && PySem.W.typeIn K (.ref D) == some (.type "type")) = true then PySem.W.subIn K (.ref C) (.ref D) else none) = _
          rw [h3, h2, if_pos (by rfl), s]
      · obtain ⟨D', e3, _, h2, h3, _⟩ := A.all k hl
        rw [e] at e3
        cases e3
        unfold PySem.W.kitOne
        rw [if_neg (by intro z; cases beq_iff_eq.mp z)]
        show (if ((PySem.W.clsIn K D).isSome && PySem.W.typeIn K (.ref D) == some (.type "type")) = true then PySem.W.subIn K (.type "NoneType") (.ref D) else none) = _
        rw [h3, h2, if_pos (by rfl)]
        show (fastBuiltinMro "NoneType").map (·.contains (Value.ref D)) = _
        rw [show fastBuiltinMro "NoneType" = some [.type "NoneType", .type "object"] by decide +kernel]
        simp
  · by_cases hfu : L.full = true
    · obtain ⟨A, hx⟩ := cx hfu x k hk
      rcases hx with ⟨rfl, rfl⟩ | hx
      · omega
      · obtain ⟨hl, D, e, hm⟩ := cm x k A hx
        obtain ⟨D', e3, g1, h2, h3, h4⟩ := A.all k hl
        rw [e] at e3
        cases e3
        obtain ⟨h5, h6⟩ := h4 i1 i2
        exact ⟨D, hm, clsA_of e, h5, h6, g1.hs, h2⟩
    · have ha := (ands2 c0).1
      rw [if_neg hfu] at ha
      have hk : (if L.full then exTab else exTab1 L.ex).lookup x = some k := hk
      rw [if_neg hfu] at hk
      obtain ⟨q1, q2⟩ := exTab1_mem hk
      have q3 := List.all_eq_true.mp ha k q1
      unfold excSome at q3
      cases e : clsA K k with
      | none => rw [e] at q3; cases q3
      | some C =>
        rw [e] at q3
        obtain ⟨r1, q3⟩ := ands2 q3
        obtain ⟨r2, q3⟩ := ands2 q3
        obtain ⟨r3, r4⟩ := ands2 q3
        exact ⟨C, cn x k C q2 e, clsA_of e, r1, r2, beq_iff_eq.mp r3, beq_iff_eq.mp r4⟩
  · obtain ⟨A, hx⟩ := cx hfu x k hk
    rcases hx with ⟨rfl, rfl⟩ | hx
    · exact absurd hl (by decide)
    · obtain ⟨_, D, e, hm⟩ := cm x k A hx
      refine ⟨.ref D, hm, fun c hc => ?_⟩
      obtain ⟨C, e2, g1, _⟩ := A.all c hc
      obtain ⟨D', e3, g5, h2, h3, _⟩ := A.all k hl
      rw [e] at e3
      cases e3
      unfold PySem.W.exmOne
      rw [if_pos (by rw [g5.hs]; rfl), clsA_of e2]
      show (if ((PySem.W.clsIn K D).isSome && PySem.W.typeIn K (.ref D) == some (.type "type")) = true then PySem.W.subIn K (.ref C) (.ref D) else none) = _
      rw [h3, h2, if_pos (by rfl), A.sub c k C D hc hl e2 e]
/-- the script -/
theorem scr_of {K : PySem.W.Frag} {H : Hp} {a : Addr} {ns : List Int} (hO : Only H) (hS : SqL K H a (ns.map V.int)) : Rv K ⟨[], []⟩ H (.ref a) (.scr (ns.map D.int)) := by
  have hint : ∀ ns : List Int, Rvs K ⟨[], []⟩ H (ns.map V.int) (ns.map D.int) := fun ns => by
    induction ns with
    | nil => exact .nil
    | cons n ns ih => exact .cons (.int n) ih
  have fr : Free ⟨[], []⟩ a := ⟨fun i h => by simp at h, fun h => by cases h⟩
  refine .scr ?_ (hint ns)
  rcases hS with (h | ⟨o, h⟩) | h
  · rcases hO a with q | ⟨o, xs, q⟩
    · rw [q] at h; cases h
    · rw [q] at h; cases h
  · exact .inl ⟨⟨o, h⟩, fr⟩
  · exact .inr h
theorem rs_nil {K : PySem.W.Frag} {H : Hp} : Rs K ⟨[], []⟩ [] H := ⟨rfl, fun i j a h => by simp at h, fun i a h => by simp at h, fun a h => (by cases h), fun i c h => by simp at h⟩
/-- what the law is to answer -/
def Lw.Good (L : Lw) (k n i : Nat) : Prop := ∀ ns : List Int, ns.length ≤ n → ∃ S, evF L.prog k i [.scr (ns.map D.int)] [] = .ok (.bl true) S
theorem law_facts {L : Lw} {P : Program} {w : World} {K : PySem.W.Frag} {h : Heap} {mg : Str → Option Value} {f : Addr} {n k i : Nat} {d : DefI} {x : Str} (X : K.In h) (G : h.Ns mainGlobals mg) (c : SaysZ L K) (ck : L.chk = true) (hd : L.defs[i]? = some d)
    (tree : P.given.tree = none) (hps : d.ps = [x]) (hfa : mg d.name = some (.ref f)) (good : L.Good k n i) :
    ∃ (fd : FuncData) (sp : Sp), (∀ (s : Shared) (u : Value), BindsTo s fd ⟨[u], []⟩ [(x, u)]) ∧
        (∀ (H : Hp) (a : Addr) (ns : List Int), ns.length ≤ n → Only H → SqL K H a (ns.map V.int) → sp [.ref a] H (fun v _ => v = .bl true) fun _ _ _ => False) ∧
        ∀ base : Heap, K.In base → base.Ns mainGlobals mg → FnOk P w K mg base (L2N.CX P w) (k + 40) f fd [x] sp := by
  have B := bench_of X G c ck
  obtain ⟨hm, fd, F⟩ := B.glo i d hd
  have e := hfa.symm.trans hm
  cases e
  have ck' := B.chk i d hd
  unfold DefI.chk at ck'
  obtain ⟨c1, c2⟩ := ands ck'
  have sco := scopeB_of c1
  have nd : d.ps.Nodup := by
    rw [← sco.pre]
    exact sco.nd.sublist (List.take_sublist _ _)
  refine ⟨fd, spF K (clsK K) (evF L.prog k) i, fun s u => ?_, fun H a ns hl hO hS => ?_, fun base _ _ => ?_⟩
  · have b := FunD.bindsA (ps := d.ps) F (fun kV doc pm an cdv ct us hl => args_bind c2 nd kV doc pm an cdv ct us hl) s [u] (by rw [hps]; rfl)
    rw [hps] at b
    exact b
  · obtain ⟨S, hS'⟩ := good ns hl
    refine ⟨⟨[], []⟩, [], [.scr (ns.map D.int)], rs_nil, .cons (scr_of hO hS) .nil, ?_⟩
    rw [hS']
    exact fun φ' v H' e rs rv => by cases rv; rfl
  · have := (lvl (fuel := L.fuel) (P := P) (w := w) (base := base) B (sk_of c) tree k i d fd hd F).1
    rw [hps] at this
    exact this
theorem cx_none {P : Program} {w : World} {H : Hp} {s : Shared} {e : Value} {s' : Shared} : L2N.CX P w [] H s (fun _ _ _ => False) e s' → False := fun h => by
  obtain ⟨_, _, _, _, _, _, _, _, _, _, _, _, z⟩ := h
  exact z
end Z

namespace ZL
open PySem PySem.Spec PyProof.Rows L2 Z
def top (i : Nat) : Stmt := PySem.Challenge.pw_earthends_k01_fractions_reckoned.main.body.getD i (.Pass ⟨0, 0, 0, 0⟩)
def defs_0 : List (DefI) := [⟨"is_whole", top 22, ["x"], ["x"], [], false⟩, ⟨"share_of", top 23, ["one", "other"], ["one", "other"], [], false⟩, ⟨"low", top 24, ["top", "bottom"], ["top", "bottom", "share"], [], false⟩, ⟨"is_fraction", top 25, ["x"], ["x"], [], false⟩, ⟨"check_fraction", top 26, ["x"], ["x"], [], false⟩, ⟨"add", top 27, ["a", "b"], ["a", "b"], [], false⟩, ⟨"less", top 28, ["a", "b"], ["a", "b"], [], false⟩, ⟨"mul", top 29, ["a", "b"], ["a", "b"], [], false⟩, ⟨"div", top 30, ["a", "b"], ["a", "b"], [], false⟩, ⟨"is_less", top 31, ["a", "b"], ["a", "b"], [], false⟩]
def defs_1 : List (DefI) := [⟨"fraction", top 32, ["top", "bottom"], ["top", "bottom"], [], false⟩, ⟨"check_both", top 33, ["a", "b"], ["a", "b"], [], false⟩, ⟨"plus", top 34, ["a", "b"], ["a", "b"], [], false⟩, ⟨"minus", top 35, ["a", "b"], ["a", "b"], [], false⟩, ⟨"times", top 36, ["a", "b"], ["a", "b"], [], false⟩, ⟨"over", top 37, ["a", "b"], ["a", "b"], [], false⟩, ⟨"below", top 38, ["a", "b"], ["a", "b"], [], false⟩, ⟨"_law_cell", top 40, ["_law_script", "_law_k"], ["_law_script", "_law_k", "_law_state", "_law_cell_here"], [], false⟩, ⟨"_law_purse", top 41, ["_law_cell_here"], ["_law_cell_here"], [], true⟩, ⟨"_law_pick", top 42, ["_law_purse_here", "_law_many"], ["_law_purse_here", "_law_many", "_law_state", "_law_taken"], [], false⟩]
def defs_2 : List (DefI) := [⟨"_law_whole", top 43, ["_law_thing"], ["_law_thing"], [], false⟩, ⟨"_law_low", top 44, ["_law_top", "_law_bottom"], ["_law_top", "_law_bottom", "_law_one", "_law_other"], [], false⟩, ⟨"_law_is_fraction", top 45, ["_law_thing"], ["_law_thing"], [], false⟩, ⟨"_law_sort", top 46, ["_law_e"], ["_law_e", "_law_kinds", "_law_words"], [], false⟩, ⟨"_law_number", top 47, ["_law_purse_here"], ["_law_purse_here", "_law_far", "_law_number_here"], [], false⟩, ⟨"_law_fraction", top 48, ["_law_purse_here"], ["_law_purse_here", "_law_top", "_law_bottom"], [], false⟩, ⟨"_law_due", top 49, ["_law_way", "_law_a", "_law_b"], ["_law_way", "_law_a", "_law_b"], [], false⟩, ⟨"_law_told", top 50, ["_law_way", "_law_a", "_law_b"], ["_law_way", "_law_a", "_law_b", "_law_e"], [], false⟩, ⟨"_law_same", top 51, ["_law_told_here", "_law_due_here"], ["_law_told_here", "_law_due_here"], [], false⟩, ⟨"_law_right", top 52, ["_law_a", "_law_b"], ["_law_a", "_law_b", "_law_way", "_law_one", "_law_other"], [], false⟩]
def defs_3 : List (DefI) := [⟨"_law_made_right", top 53, ["_law_top", "_law_bottom"], ["_law_top", "_law_bottom", "_law_due_here"], [], false⟩, ⟨"_law_refused", top 54, ["_law_thing", "_law_a", "_law_number_here"], ["_law_thing", "_law_a", "_law_number_here", "_law_way"], [], false⟩, ⟨"law", top 55, ["_law_script"], ["_law_script", "_law_k", "_law_purse_here", "_law_a", "_law_b", "_law_top", "_law_bottom", "_law_odd", "_law_turn", "_law_thing"], [], false⟩]
def defs : List (DefI) := defs_0 ++ defs_1 ++ defs_2 ++ defs_3
def L : Lw := ⟨defs, ["isinstance", "int", "bool", "abs", "tuple", "len", "range", "all", "max", "min", "list", "str"], [("ZERO", .tup [.int (0), .int (1)])], 40, true, [], ["_law_sort"]⟩
def loose_0 : List (PySem.Str) := ["EarthError", "NoNumber", "NoCable", "NoDrag", "NoLeaks", "NoStretch", "NoWord", "NoReading", "NoPlace", "NoDay", "NoPair", "NoSplice", "NoDays", "NoPlaces", "NoLength", "NoDeed", "NoBack", "NoRow", "NoText", "ZERO"]
def loose_1 : List (PySem.Str) := ["is_whole", "share_of", "low", "is_fraction", "check_fraction", "add", "less", "mul", "div", "is_less", "fraction", "check_both", "plus", "minus", "times", "over", "below", "_law_cell", "_law_purse", "_law_pick"]
def loose_2 : List (PySem.Str) := ["_law_whole", "_law_low", "_law_is_fraction", "_law_sort", "_law_number", "_law_fraction", "_law_due", "_law_told", "_law_same", "_law_right", "_law_made_right", "_law_refused"]
def loose : List (PySem.Str) := loose_0 ++ loose_1 ++ loose_2
abbrev hdR : PySem.W.OpenRow := PySem.W.OpenLaw.row PySem.Challenge.rw_earthends_k01_fractions_reckoned
abbrev hdK : PySem.W.Hook := hookZ 4 L
def hdO (s : PySem.W.SharedT) : ObZ := obsZG 4 L (HandSHeadRun.getT s)
theorem hdO_eq (s : PySem.W.SharedT) : hdO s = hdK.obs s.abs := obsZG_eq (HandSHeadRun.getT_eq s)
theorem hdRun (w : World) : HandSHeadRun.RunEq hdR (PySem.W.view hdR.prog [55]) hdK hdO 6000 loose w := by
  intro os
  kernel_rfl
end ZL

/-! the program's defs and the laws' shared ones, in the small language (written by genlib.py) -/
namespace Z
open PySem
def cf_is_whole (ix : Nat → Nat) : CF := ⟨1, 1, (.ret (.and (.isi (.var 0) .int) (.not (.isi (.var 0) .bool))))⟩
def cb_share_of_1 (ix : Nat → Nat) : CS := (.asg (.tp (.cons (.nm 0) (.cons (.nm 1) .nil))) (.tup (.cons (.var 1) (.cons (.bin .mod (.var 0) (.var 1)) .nil))))
def cf_share_of (ix : Nat → Nat) : CF := ⟨2, 2, (.seq (.whl (.cmp .gt (.var 1) (.con (.int 0))) (cb_share_of_1 ix)) (.ret (.var 0)))⟩
def cf_low (ix : Nat → Nat) : CF := ⟨2, 3, (.seq (.ife (.cmp .lt (.var 1) (.con (.int 0))) (.asg (.tp (.cons (.nm 0) (.cons (.nm 1) .nil))) (.tup (.cons (.bin .sub (.con (.int 0)) (.var 0)) (.cons (.bin .sub (.con (.int 0)) (.var 1)) .nil)))) .skip) (.seq (.asg (.nm 2) (.call (ix 1) (.cons (.blt .abs (.cons (.var 0) .nil)) (.cons (.var 1) .nil)))) (.ret (.tup (.cons (.bin .fdiv (.var 0) (.var 2)) (.cons (.bin .fdiv (.var 1) (.var 2)) .nil))))))⟩
def cf_is_fraction (ix : Nat → Nat) : CF := ⟨1, 1, (.seq (.ife (.or (.not (.isi (.var 0) .tup)) (.or (.cmp .ne (.blt .len (.cons (.var 0) .nil)) (.con (.int 2))) (.or (.not (.call (ix 0) (.cons (.idx (.var 0) (.con (.int 0))) .nil))) (.not (.call (ix 0) (.cons (.idx (.var 0) (.con (.int 1))) .nil)))))) (.ret (.con (.bl false))) .skip) (.ret (.and (.cmp .gt (.idx (.var 0) (.con (.int 1))) (.con (.int 0))) (.cmp .eq (.call (ix 1) (.cons (.blt .abs (.cons (.idx (.var 0) (.con (.int 0))) .nil)) (.cons (.idx (.var 0) (.con (.int 1))) .nil))) (.con (.int 1))))))⟩
def cf_check_fraction (ix : Nat → Nat) : CF := ⟨1, 1, (.ife (.not (.call (ix 3) (.cons (.var 0) .nil))) (.rais 1 (.con .non)) .skip)⟩
def cf_add (ix : Nat → Nat) : CF := ⟨2, 2, (.ret (.call (ix 2) (.cons (.bin .add (.bin .mul (.idx (.var 0) (.con (.int 0))) (.idx (.var 1) (.con (.int 1)))) (.bin .mul (.idx (.var 1) (.con (.int 0))) (.idx (.var 0) (.con (.int 1))))) (.cons (.bin .mul (.idx (.var 0) (.con (.int 1))) (.idx (.var 1) (.con (.int 1)))) .nil))))⟩
def cf_less (ix : Nat → Nat) : CF := ⟨2, 2, (.ret (.call (ix 2) (.cons (.bin .sub (.bin .mul (.idx (.var 0) (.con (.int 0))) (.idx (.var 1) (.con (.int 1)))) (.bin .mul (.idx (.var 1) (.con (.int 0))) (.idx (.var 0) (.con (.int 1))))) (.cons (.bin .mul (.idx (.var 0) (.con (.int 1))) (.idx (.var 1) (.con (.int 1)))) .nil))))⟩
def cf_mul (ix : Nat → Nat) : CF := ⟨2, 2, (.ret (.call (ix 2) (.cons (.bin .mul (.idx (.var 0) (.con (.int 0))) (.idx (.var 1) (.con (.int 0)))) (.cons (.bin .mul (.idx (.var 0) (.con (.int 1))) (.idx (.var 1) (.con (.int 1)))) .nil))))⟩
def cf_div (ix : Nat → Nat) : CF := ⟨2, 2, (.ret (.call (ix 2) (.cons (.bin .mul (.idx (.var 0) (.con (.int 0))) (.idx (.var 1) (.con (.int 1)))) (.cons (.bin .mul (.idx (.var 0) (.con (.int 1))) (.idx (.var 1) (.con (.int 0)))) .nil))))⟩
def cf_is_less (ix : Nat → Nat) : CF := ⟨2, 2, (.ret (.cmp .lt (.bin .mul (.idx (.var 0) (.con (.int 0))) (.idx (.var 1) (.con (.int 1)))) (.bin .mul (.idx (.var 1) (.con (.int 0))) (.idx (.var 0) (.con (.int 1))))))⟩
def cf_fraction (ix : Nat → Nat) : CF := ⟨2, 2, (.seq (.ife (.or (.not (.call (ix 0) (.cons (.var 0) .nil))) (.or (.not (.call (ix 0) (.cons (.var 1) .nil))) (.cmp .eq (.var 1) (.con (.int 0))))) (.rais 1 (.con .non)) .skip) (.ret (.call (ix 2) (.cons (.var 0) (.cons (.var 1) .nil)))))⟩
def cf_check_both (ix : Nat → Nat) : CF := ⟨2, 2, (.seq (.expr (.call (ix 4) (.cons (.var 0) .nil))) (.expr (.call (ix 4) (.cons (.var 1) .nil))))⟩
def cf_plus (ix : Nat → Nat) : CF := ⟨2, 2, (.seq (.expr (.call (ix 11) (.cons (.var 0) (.cons (.var 1) .nil)))) (.ret (.call (ix 5) (.cons (.var 0) (.cons (.var 1) .nil)))))⟩
def cf_minus (ix : Nat → Nat) : CF := ⟨2, 2, (.seq (.expr (.call (ix 11) (.cons (.var 0) (.cons (.var 1) .nil)))) (.ret (.call (ix 6) (.cons (.var 0) (.cons (.var 1) .nil)))))⟩
def cf_times (ix : Nat → Nat) : CF := ⟨2, 2, (.seq (.expr (.call (ix 11) (.cons (.var 0) (.cons (.var 1) .nil)))) (.ret (.call (ix 7) (.cons (.var 0) (.cons (.var 1) .nil)))))⟩
def cf_over (ix : Nat → Nat) : CF := ⟨2, 2, (.seq (.expr (.call (ix 11) (.cons (.var 0) (.cons (.var 1) .nil)))) (.seq (.ife (.cmp .eq (.var 1) (.con (.tup [(.int 0), (.int 1)]))) (.rais 1 (.con .non)) .skip) (.ret (.call (ix 8) (.cons (.var 0) (.cons (.var 1) .nil))))))⟩
def cf_below (ix : Nat → Nat) : CF := ⟨2, 2, (.seq (.expr (.call (ix 11) (.cons (.var 0) (.cons (.var 1) .nil)))) (.ret (.call (ix 9) (.cons (.var 0) (.cons (.var 1) .nil)))))⟩
def cb_law_cell_1 (ix : Nat → Nat) : CS := (.asg (.nm 2) (.bin .mod (.bin .add (.bin .mul (.var 2) (.con (.int 20011))) (.var 3)) (.con (.int 1000000021))))
def cf_law_cell (ix : Nat → Nat) : CF := ⟨2, 4, (.seq (.ife (.cmp .lt (.var 1) (.blt .len (.cons (.var 0) .nil))) (.ret (.idx (.var 0) (.var 1))) .skip) (.seq (.asg (.nm 2) (.bin .mod (.bin .mul (.con (.int 70001)) (.bin .add (.bin .add (.bin .mul (.var 1) (.var 1)) (.bin .mul (.con (.int 11)) (.var 1))) (.con (.int 5)))) (.con (.int 1000000021)))) (.seq (.fr (.nm 3) (.one (.sl (.var 0) .nil (.one (.con (.int 4))))) (cb_law_cell_1 ix)) (.ret (.var 2)))))⟩
def cf_law_purse (ix : Nat → Nat) : CF := ⟨1, 1, (.ret (.mlst (.cons (.bin .add (.bin .mul (.bin .mod (.var 0) (.con (.int 999999893))) (.con (.int 6007))) (.con (.int 2503))) (.cons (.idx (.lst (.cons (.con (.int 0)) (.cons (.var 0) .nil))) (.blt .int (.cons (.cmp .ge (.var 0) (.bin .pow (.con (.int 10)) (.con (.int 18)))) .nil))) (.cons (.con (.int 0)) .nil)))))⟩
def cf_law_pick (ix : Nat → Nat) : CF := ⟨2, 4, (.seq (.set (.var 0) (.con (.int 2)) (.bin .add (.idx (.var 0) (.con (.int 2))) (.con (.int 1)))) (.seq (.asg (.nm 2) (.bin .mod (.idx (.var 0) (.con (.int 0))) (.con (.int 999999893)))) (.seq (.set (.var 0) (.con (.int 0)) (.bin .add (.bin .mul (.var 2) (.bin .add (.bin .mod (.var 2) (.con (.int 40009))) (.con (.int 10007)))) (.bin .mul (.con (.int 80021)) (.idx (.var 0) (.con (.int 2)))))) (.seq (.ife (.cmp .gt (.idx (.var 0) (.con (.int 1))) (.con (.int 0))) (.seq (.asg (.nm 3) (.bin .mod (.idx (.var 0) (.con (.int 1))) (.var 1))) (.seq (.set (.var 0) (.con (.int 1)) (.bin .fdiv (.idx (.var 0) (.con (.int 1))) (.var 1))) (.ret (.var 3)))) .skip) (.ret (.bin .mod (.bin .fdiv (.bin .mod (.idx (.var 0) (.con (.int 0))) (.con (.int 999999893))) (.con (.int 16))) (.var 1)))))))⟩
def cf_law_whole (ix : Nat → Nat) : CF := ⟨1, 1, (.ret (.and (.isi (.var 0) .int) (.not (.isi (.var 0) .bool))))⟩
def cb_law_low_1 (ix : Nat → Nat) : CS := (.asg (.tp (.cons (.nm 2) (.cons (.nm 3) .nil))) (.tup (.cons (.var 3) (.cons (.bin .mod (.var 2) (.var 3)) .nil))))
def cf_law_low (ix : Nat → Nat) : CF := ⟨2, 4, (.seq (.ife (.cmp .lt (.var 1) (.con (.int 0))) (.asg (.tp (.cons (.nm 0) (.cons (.nm 1) .nil))) (.tup (.cons (.bin .sub (.con (.int 0)) (.var 0)) (.cons (.bin .sub (.con (.int 0)) (.var 1)) .nil)))) .skip) (.seq (.asg (.tp (.cons (.nm 2) (.cons (.nm 3) .nil))) (.tup (.cons (.blt .abs (.cons (.var 0) .nil)) (.cons (.var 1) .nil)))) (.seq (.whl (.cmp .gt (.var 3) (.con (.int 0))) (cb_law_low_1 ix)) (.ret (.tup (.cons (.bin .fdiv (.var 0) (.var 2)) (.cons (.bin .fdiv (.var 1) (.var 2)) .nil)))))))⟩
def cf_law_is_fraction (ix : Nat → Nat) : CF := ⟨1, 1, (.seq (.ife (.or (.not (.isi (.var 0) .tup)) (.or (.cmp .ne (.blt .len (.cons (.var 0) .nil)) (.con (.int 2))) (.or (.not (.call (ix 20) (.cons (.idx (.var 0) (.con (.int 0))) .nil))) (.not (.call (ix 20) (.cons (.idx (.var 0) (.con (.int 1))) .nil)))))) (.ret (.con (.bl false))) .skip) (.ret (.and (.cmp .gt (.idx (.var 0) (.con (.int 1))) (.con (.int 0))) (.cmp .eq (.call (ix 21) (.cons (.idx (.var 0) (.con (.int 0))) (.cons (.idx (.var 0) (.con (.int 1))) .nil))) (.var 0)))))⟩
def cf_law_sort (ix : Nat → Nat) : CF := ⟨1, 3, (.tr (.seq (.asg (.nm 1) (.lst (.cons (.isi (.var 0) (.own 1)) (.cons (.isi (.var 0) (.own 2)) (.cons (.isi (.var 0) (.own 3)) (.cons (.isi (.var 0) (.own 18)) .nil)))))) (.seq (.asg (.nm 1) (.bin .add (.var 1) (.lst (.cons (.isi (.var 0) (.own 4)) (.cons (.isi (.var 0) (.own 5)) (.cons (.isi (.var 0) (.own 6)) .nil)))))) (.seq (.asg (.nm 1) (.bin .add (.var 1) (.lst (.cons (.isi (.var 0) (.own 7)) .nil)))) (.seq (.asg (.nm 1) (.bin .add (.var 1) (.lst (.cons (.isi (.var 0) (.own 8)) (.cons (.isi (.var 0) (.own 9)) (.cons (.isi (.var 0) (.own 10)) (.cons (.isi (.var 0) (.own 11)) .nil))))))) (.seq (.asg (.nm 1) (.bin .add (.var 1) (.lst (.cons (.isi (.var 0) (.own 12)) (.cons (.isi (.var 0) (.own 13)) (.cons (.isi (.var 0) (.own 14)) (.cons (.isi (.var 0) (.own 15)) .nil))))))) (.seq (.asg (.nm 1) (.bin .add (.var 1) (.lst (.cons (.isi (.var 0) (.own 16)) (.cons (.isi (.var 0) (.own 17)) .nil))))) (.seq (.ife (.or (.cmp .ne (.mth .count (.var 1) (.cons (.con (.bl true)) .nil)) (.con (.int 1))) (.not (.isi (.var 0) (.own 99)))) (.ret (.con (.str "other"))) .skip) (.seq (.asg (.nm 2) (.lst (.cons (.con (.str "number")) (.cons (.con (.str "cable")) (.cons (.con (.str "drag")) (.cons (.con (.str "text")) (.cons (.con (.str "leaks")) (.cons (.con (.str "stretch")) (.cons (.con (.str "word")) (.cons (.con (.str "reading")) (.cons (.con (.str "place")) .nil))))))))))) (.seq (.asg (.nm 2) (.bin .add (.var 2) (.lst (.cons (.con (.str "day")) (.cons (.con (.str "pair")) (.cons (.con (.str "splice")) .nil)))))) (.ret (.idx (.bin .add (.var 2) (.lst (.cons (.con (.str "days")) (.cons (.con (.str "places")) (.cons (.con (.str "length")) (.cons (.con (.str "deed")) (.cons (.con (.str "back")) (.cons (.con (.str "row")) .nil)))))))) (.mth .index (.var 1) (.cons (.con (.bl true)) .nil))))))))))))) 100 0 .never)⟩
def cf_law_told (ix : Nat → Nat) : CF := ⟨3, 4, (.tr (.seq (.ife (.cmp .eq (.var 0) (.con (.int 0))) (.ret (.call (ix 12) (.cons (.var 1) (.cons (.var 2) .nil)))) .skip) (.seq (.ife (.cmp .eq (.var 0) (.con (.int 1))) (.ret (.call (ix 13) (.cons (.var 1) (.cons (.var 2) .nil)))) .skip) (.seq (.ife (.cmp .eq (.var 0) (.con (.int 2))) (.ret (.call (ix 14) (.cons (.var 1) (.cons (.var 2) .nil)))) .skip) (.seq (.ife (.cmp .eq (.var 0) (.con (.int 3))) (.ret (.call (ix 15) (.cons (.var 1) (.cons (.var 2) .nil)))) .skip) (.seq (.ife (.cmp .eq (.var 0) (.con (.int 4))) (.ret (.call (ix 16) (.cons (.var 1) (.cons (.var 2) .nil)))) .skip) (.ret (.call (ix 10) (.cons (.var 1) (.cons (.var 2) .nil))))))))) 0 3 (.ret (.call (ix 23) (.cons (.var 3) .nil))))⟩
def cb_whole_root_1 (ix : Nat → Nat) : CS := (.asg (.nm 2) (.bin .mul (.var 2) (.con (.int 2))))
def cb_whole_root_2 (ix : Nat → Nat) : CS := (.seq (.asg (.nm 3) (.bin .fdiv (.bin .add (.var 1) (.var 2)) (.con (.int 2)))) (.ife (.cmp .le (.bin .mul (.var 3) (.var 3)) (.var 0)) (.asg (.nm 1) (.var 3)) (.asg (.nm 2) (.var 3))))
def cf_whole_root (ix : Nat → Nat) : CF := ⟨1, 4, (.seq (.asg (.tp (.cons (.nm 1) (.cons (.nm 2) .nil))) (.tup (.cons (.con (.int 0)) (.cons (.con (.int 1)) .nil)))) (.seq (.whl (.cmp .le (.bin .mul (.var 2) (.var 2)) (.var 0)) (cb_whole_root_1 ix)) (.seq (.whl (.cmp .gt (.bin .sub (.var 2) (.var 1)) (.con (.int 1))) (cb_whole_root_2 ix)) (.seq (.ife (.cmp .eq (.bin .mul (.var 1) (.var 1)) (.var 0)) (.ret (.var 1)) .skip) (.ret (.con .non))))))⟩
def cf_root (ix : Nat → Nat) : CF := ⟨1, 3, (.seq (.expr (.call (ix 4) (.cons (.var 0) .nil))) (.seq (.ife (.cmp .lt (.idx (.var 0) (.con (.int 0))) (.con (.int 0))) (.ret (.con .non)) .skip) (.seq (.asg (.tp (.cons (.nm 1) (.cons (.nm 2) .nil))) (.tup (.cons (.call (ix 25) (.cons (.idx (.var 0) (.con (.int 0))) .nil)) (.cons (.call (ix 25) (.cons (.idx (.var 0) (.con (.int 1))) .nil)) .nil)))) (.seq (.ife (.or (.cmp .is (.var 1) (.con .non)) (.cmp .is (.var 2) (.con .non))) (.ret (.con .non)) .skip) (.ret (.tup (.cons (.var 1) (.cons (.var 2) .nil))))))))⟩
def cf_is_from_zero (ix : Nat → Nat) : CF := ⟨1, 1, (.ret (.and (.call (ix 3) (.cons (.var 0) .nil)) (.cmp .ge (.idx (.var 0) (.con (.int 0))) (.con (.int 0)))))⟩
def cf_is_above_zero (ix : Nat → Nat) : CF := ⟨1, 1, (.ret (.and (.call (ix 3) (.cons (.var 0) .nil)) (.cmp .gt (.idx (.var 0) (.con (.int 0))) (.con (.int 0)))))⟩
def cf_is_small (ix : Nat → Nat) : CF := ⟨1, 1, (.ret (.and (.cmp .le (.idx (.var 0) (.con (.int 0))) (.con (.int 999))) (.cmp .le (.idx (.var 0) (.con (.int 1))) (.con (.int 999)))))⟩
def cf_is_length (ix : Nat → Nat) : CF := ⟨1, 1, (.seq (.ife (.or (.not (.isi (.var 0) .tup)) (.or (.cmp .ne (.blt .len (.cons (.var 0) .nil)) (.con (.int 2))) (.or (.not (.call (ix 0) (.cons (.idx (.var 0) (.con (.int 0))) .nil))) (.not (.chain .le .le (.con (.int 1)) (.idx (.var 0) (.con (.int 0))) (.con (.int 999))))))) (.ret (.con (.bl false))) .skip) (.ret (.and (.call (ix 28) (.cons (.idx (.var 0) (.con (.int 1))) .nil)) (.call (ix 29) (.cons (.idx (.var 0) (.con (.int 1))) .nil)))))⟩
def cf_is_cable (ix : Nat → Nat) : CF := ⟨1, 2, (.seq (.ife (.or (.not (.isi (.var 0) .tup)) (.or (.cmp .ne (.blt .len (.cons (.var 0) .nil)) (.con (.int 2))) (.not (.isi (.idx (.var 0) (.con (.int 0))) .tup)))) (.ret (.con (.bl false))) .skip) (.seq (.ife (.or (.not (.chain .le .le (.con (.int 1)) (.blt .len (.cons (.idx (.var 0) (.con (.int 0))) .nil)) (.con (.int 12)))) (.not (.blt .all (.cons (.comp (.call (ix 30) (.cons (.var 1) .nil)) (.nm 1) (.one (.idx (.var 0) (.con (.int 0)))) (.con (.bl true)) [1] false) .nil)))) (.ret (.con (.bl false))) .skip) (.ret (.and (.call (ix 27) (.cons (.idx (.var 0) (.con (.int 1))) .nil)) (.call (ix 29) (.cons (.idx (.var 0) (.con (.int 1))) .nil))))))⟩
def cf_check_cable (ix : Nat → Nat) : CF := ⟨1, 1, (.ife (.not (.call (ix 31) (.cons (.var 0) .nil))) (.rais 2 (.con .non)) .skip)⟩
def cf_all_steps (ix : Nat → Nat) : CF := ⟨1, 3, (.ret (.blt .sum (.cons (.comp (.var 1) (.tp (.cons (.nm 1) (.cons (.nm 2) .nil))) (.one (.idx (.var 0) (.con (.int 0)))) (.con (.bl true)) [1, 2] false) .nil)))⟩
def cb_all_drag_1 (ix : Nat → Nat) : CS := (.asg (.nm 1) (.call (ix 5) (.cons (.var 1) (.cons (.call (ix 7) (.cons (.tup (.cons (.var 2) (.cons (.con (.int 1)) .nil))) (.cons (.var 3) .nil))) .nil))))
def cf_all_drag (ix : Nat → Nat) : CF := ⟨1, 4, (.seq (.asg (.nm 1) (.con (.tup [(.int 0), (.int 1)]))) (.seq (.fr (.tp (.cons (.nm 2) (.cons (.nm 3) .nil))) (.one (.idx (.var 0) (.con (.int 0)))) (cb_all_drag_1 ix)) (.ret (.var 1))))⟩
def cb_splice_steps_1 (ix : Nat → Nat) : CS := (.seq (.asg (.nm 2) (.bin .add (.var 2) (.var 3))) (.expr (.mth .append (.var 1) (.cons (.var 2) .nil))))
def cf_splice_steps (ix : Nat → Nat) : CF := ⟨1, 5, (.seq (.asg (.nm 1) (.mlst .nil)) (.seq (.asg (.nm 2) (.con (.int 0))) (.seq (.fr (.tp (.cons (.nm 3) (.cons (.nm 4) .nil))) (.one (.sl (.idx (.var 0) (.con (.int 0))) .nil (.one (.neg (.con (.int 1)))))) (cb_splice_steps_1 ix)) (.ret (.blt .tuple (.cons (.var 1) .nil))))))⟩
def cf_steps_of (ix : Nat → Nat) : CF := ⟨1, 1, (.seq (.expr (.call (ix 32) (.cons (.var 0) .nil))) (.ret (.call (ix 33) (.cons (.var 0) .nil))))⟩
def cf_drag_of (ix : Nat → Nat) : CF := ⟨1, 1, (.seq (.expr (.call (ix 32) (.cons (.var 0) .nil))) (.ret (.call (ix 34) (.cons (.var 0) .nil))))⟩
def cf_splices_of (ix : Nat → Nat) : CF := ⟨1, 1, (.seq (.expr (.call (ix 32) (.cons (.var 0) .nil))) (.ret (.call (ix 35) (.cons (.var 0) .nil))))⟩
def cf_law_plus (ix : Nat → Nat) : CF := ⟨2, 2, (.ret (.call (ix 21) (.cons (.bin .add (.bin .mul (.idx (.var 0) (.con (.int 0))) (.idx (.var 1) (.con (.int 1)))) (.bin .mul (.idx (.var 1) (.con (.int 0))) (.idx (.var 0) (.con (.int 1))))) (.cons (.bin .mul (.idx (.var 0) (.con (.int 1))) (.idx (.var 1) (.con (.int 1)))) .nil))))⟩
def cf_law_times (ix : Nat → Nat) : CF := ⟨2, 2, (.ret (.call (ix 21) (.cons (.bin .mul (.idx (.var 0) (.con (.int 0))) (.idx (.var 1) (.con (.int 0)))) (.cons (.bin .mul (.idx (.var 0) (.con (.int 1))) (.idx (.var 1) (.con (.int 1)))) .nil))))⟩
def cf_is_place (ix : Nat → Nat) : CF := ⟨2, 2, (.ret (.and (.call (ix 27) (.cons (.var 1) .nil)) (.not (.call (ix 9) (.cons (.tup (.cons (.call (ix 33) (.cons (.var 0) .nil)) (.cons (.con (.int 1)) .nil))) (.cons (.var 1) .nil))))))⟩
def cf_check_place (ix : Nat → Nat) : CF := ⟨2, 2, (.ife (.not (.call (ix 41) (.cons (.var 0) (.cons (.var 1) .nil)))) (.rais 8 (.con .non)) .skip)⟩
def cb_drag_at_1 (ix : Nat → Nat) : CS := (.ife (.call (ix 9) (.cons (.tup (.cons (.var 4) (.cons (.con (.int 1)) .nil))) (.cons (.var 3) .nil))) (.seq (.asg (.nm 2) (.call (ix 5) (.cons (.var 2) (.cons (.call (ix 7) (.cons (.tup (.cons (.var 4) (.cons (.con (.int 1)) .nil))) (.cons (.var 5) .nil))) .nil)))) (.asg (.nm 3) (.call (ix 6) (.cons (.var 3) (.cons (.tup (.cons (.var 4) (.cons (.con (.int 1)) .nil))) .nil))))) (.ret (.call (ix 5) (.cons (.var 2) (.cons (.call (ix 7) (.cons (.var 3) (.cons (.var 5) .nil))) .nil)))))
def cf_drag_at (ix : Nat → Nat) : CF := ⟨2, 6, (.seq (.asg (.nm 2) (.con (.tup [(.int 0), (.int 1)]))) (.seq (.asg (.nm 3) (.var 1)) (.seq (.fr (.tp (.cons (.nm 4) (.cons (.nm 5) .nil))) (.one (.idx (.var 0) (.con (.int 0)))) (cb_drag_at_1 ix)) (.ret (.var 2)))))⟩
def cb_place_with_1 (ix : Nat → Nat) : CS := (.seq (.asg (.nm 6) (.call (ix 7) (.cons (.tup (.cons (.var 4) (.cons (.con (.int 1)) .nil))) (.cons (.var 5) .nil)))) (.seq (.ife (.not (.call (ix 9) (.cons (.var 6) (.cons (.var 3) .nil)))) (.ret (.call (ix 5) (.cons (.tup (.cons (.var 2) (.cons (.con (.int 1)) .nil))) (.cons (.call (ix 8) (.cons (.var 3) (.cons (.var 5) .nil))) .nil)))) .skip) (.seq (.asg (.nm 3) (.call (ix 6) (.cons (.var 3) (.cons (.var 6) .nil)))) (.asg (.nm 2) (.bin .add (.var 2) (.var 4))))))
def cf_place_with (ix : Nat → Nat) : CF := ⟨2, 7, (.seq (.asg (.nm 2) (.con (.int 0))) (.seq (.asg (.nm 3) (.var 1)) (.seq (.fr (.tp (.cons (.nm 4) (.cons (.nm 5) .nil))) (.one (.idx (.var 0) (.con (.int 0)))) (cb_place_with_1 ix)) (.ret (.tup (.cons (.var 2) (.cons (.con (.int 1)) .nil)))))))⟩
def cf_drag_to (ix : Nat → Nat) : CF := ⟨2, 2, (.seq (.expr (.call (ix 32) (.cons (.var 0) .nil))) (.seq (.expr (.call (ix 42) (.cons (.var 0) (.cons (.var 1) .nil)))) (.ret (.call (ix 43) (.cons (.var 0) (.cons (.var 1) .nil))))))⟩
def cf_place_at (ix : Nat → Nat) : CF := ⟨2, 2, (.seq (.expr (.call (ix 32) (.cons (.var 0) .nil))) (.seq (.ife (.or (.not (.call (ix 3) (.cons (.var 1) .nil))) (.or (.cmp .lt (.idx (.var 1) (.con (.int 0))) (.con (.int 0))) (.call (ix 9) (.cons (.call (ix 34) (.cons (.var 0) .nil)) (.cons (.var 1) .nil))))) (.rais 3 (.con .non)) .skip) (.ret (.call (ix 44) (.cons (.var 0) (.cons (.var 1) .nil))))))⟩
def cf_law_minus (ix : Nat → Nat) : CF := ⟨2, 2, (.ret (.call (ix 21) (.cons (.bin .sub (.bin .mul (.idx (.var 0) (.con (.int 0))) (.idx (.var 1) (.con (.int 1)))) (.bin .mul (.idx (.var 1) (.con (.int 0))) (.idx (.var 0) (.con (.int 1))))) (.cons (.bin .mul (.idx (.var 0) (.con (.int 1))) (.idx (.var 1) (.con (.int 1)))) .nil))))⟩
def cf_law_over (ix : Nat → Nat) : CF := ⟨2, 2, (.ret (.call (ix 21) (.cons (.bin .mul (.idx (.var 0) (.con (.int 0))) (.idx (.var 1) (.con (.int 1)))) (.cons (.bin .mul (.idx (.var 0) (.con (.int 1))) (.idx (.var 1) (.con (.int 0)))) .nil))))⟩
def cf_law_below (ix : Nat → Nat) : CF := ⟨2, 2, (.ret (.cmp .lt (.bin .mul (.idx (.var 0) (.con (.int 0))) (.idx (.var 1) (.con (.int 1)))) (.bin .mul (.idx (.var 1) (.con (.int 0))) (.idx (.var 0) (.con (.int 1))))))⟩
def cb_law_all_1 (ix : Nat → Nat) : CS := (.asg (.nm 1) (.call (ix 39) (.cons (.var 1) (.cons (.call (ix 40) (.cons (.tup (.cons (.var 2) (.cons (.con (.int 1)) .nil))) (.cons (.var 3) .nil))) .nil))))
def cf_law_all (ix : Nat → Nat) : CF := ⟨1, 4, (.seq (.asg (.nm 1) (.tup (.cons (.con (.int 0)) (.cons (.con (.int 1)) .nil)))) (.seq (.fr (.tp (.cons (.nm 2) (.cons (.nm 3) .nil))) (.one (.idx (.var 0) (.con (.int 0)))) (cb_law_all_1 ix)) (.ret (.var 1))))⟩
def cb_law_cable_1 (ix : Nat → Nat) : CS := (.seq (.asg (.nm 4) (.bin .add (.con (.int 1)) (.call (ix 19) (.cons (.var 0) (.cons (.idx (.lst (.cons (.con (.int 9)) (.cons (.con (.int 40)) (.cons (.con (.int 999)) .nil)))) (.call (ix 19) (.cons (.var 0) (.cons (.con (.int 3)) .nil)))) .nil))))) (.expr (.mth .append (.var 2) (.cons (.tup (.cons (.var 4) (.cons (.call (ix 21) (.cons (.bin .add (.con (.int 1)) (.call (ix 19) (.cons (.var 0) (.cons (.con (.int 9)) .nil)))) (.cons (.idx (.lst (.cons (.con (.int 1)) (.cons (.con (.int 1)) (.cons (.con (.int 2)) (.cons (.con (.int 3)) .nil))))) (.call (ix 19) (.cons (.var 0) (.cons (.con (.int 4)) .nil)))) .nil))) .nil))) .nil))))
def cf_law_cable (ix : Nat → Nat) : CF := ⟨2, 5, (.seq (.asg (.nm 2) (.mlst .nil)) (.seq (.fr (.nm 3) (.rng (.con (.int 0)) (.bin .add (.con (.int 1)) (.call (ix 19) (.cons (.var 0) (.cons (.var 1) .nil))))) (cb_law_cable_1 ix)) (.ret (.tup (.cons (.blt .tuple (.cons (.var 2) .nil)) (.cons (.call (ix 21) (.cons (.call (ix 19) (.cons (.var 0) (.cons (.con (.int 30)) .nil))) (.cons (.bin .add (.con (.int 1)) (.call (ix 19) (.cons (.var 0) (.cons (.con (.int 3)) .nil)))) .nil))) .nil))))))⟩
def cf_show_fraction (ix : Nat → Nat) : CF := ⟨1, 1, (.seq (.ife (.cmp .eq (.idx (.var 0) (.con (.int 1))) (.con (.int 1))) (.ret (.blt .str (.cons (.idx (.var 0) (.con (.int 0))) .nil))) .skip) (.ret (.bin .add (.bin .add (.blt .str (.cons (.idx (.var 0) (.con (.int 0))) .nil)) (.con (.str "/"))) (.blt .str (.cons (.idx (.var 0) (.con (.int 1))) .nil)))))⟩
def cf_show_cable (ix : Nat → Nat) : CF := ⟨1, 4, (.seq (.expr (.call (ix 32) (.cons (.var 0) .nil))) (.seq (.asg (.nm 1) (.lst (.cons (.bin .add (.con (.str "back ")) (.call (ix 52) (.cons (.idx (.var 0) (.con (.int 1))) .nil))) .nil))) (.ret .nil)))⟩
def cf_number_in (ix : Nat → Nat) : CF := ⟨2, 3, (.seq (.ife (.or (.not (.chain .le .le (.con (.int 1)) (.blt .len (.cons (.var 0) .nil)) (.var 1))) (.not (.blt .all (.cons (.comp (.cmp .isin (.var 2) (.con (.str "0123456789"))) (.nm 2) (.one (.var 0)) (.con (.bl true)) [2] false) .nil)))) (.ret (.con .non)) .skip) (.seq (.ife (.and (.cmp .eq (.idx (.var 0) (.con (.int 0))) (.con (.str "0"))) (.cmp .ne (.var 0) (.con (.str "0")))) (.ret (.con .non)) .skip) (.ret (.blt .int (.cons (.var 0) .nil)))))⟩
def cf_fraction_in (ix : Nat → Nat) : CF := ⟨2, 7, (.seq (.asg (.tp (.cons (.nm 2) (.cons (.nm 3) (.cons (.nm 4) .nil)))) .nil) (.seq (.asg (.tp (.cons (.nm 5) (.cons (.nm 6) .nil))) (.tup (.cons (.call (ix 54) (.cons (.var 2) (.cons (.var 1) .nil))) (.cons (.con (.int 1)) .nil)))) (.seq (.ife (.cmp .ne (.var 3) (.con (.str ""))) (.asg (.nm 6) (.call (ix 54) (.cons (.var 4) (.cons (.var 1) .nil)))) .skip) (.seq (.ife (.or (.cmp .is (.var 5) (.con .non)) (.or (.cmp .is (.var 6) (.con .non)) (.or (.and (.cmp .ne (.var 3) (.con (.str ""))) (.cmp .lt (.var 6) (.con (.int 2)))) (.not (.call (ix 27) (.cons (.tup (.cons (.var 5) (.cons (.var 6) .nil))) .nil)))))) (.ret (.con .non)) .skip) (.ret (.tup (.cons (.var 5) (.cons (.var 6) .nil))))))))⟩
def cf_back_in (ix : Nat → Nat) : CF := ⟨1, 3, (.seq (.asg (.nm 1) .nil) (.seq (.ife (.or (.cmp .ne (.blt .len (.cons (.var 1) .nil)) (.con (.int 2))) (.cmp .ne (.idx (.var 1) (.con (.int 0))) (.con (.str "back")))) (.ret (.con .non)) .skip) (.seq (.asg (.nm 2) (.call (ix 55) (.cons (.idx (.var 1) (.con (.int 1))) (.cons (.con (.int 3)) .nil)))) (.seq (.ife (.or (.cmp .is (.var 2) (.con .non)) (.not (.call (ix 29) (.cons (.var 2) .nil)))) (.ret (.con .non)) .skip) (.ret (.var 2))))))⟩
def cf_length_in (ix : Nat → Nat) : CF := ⟨1, 3, (.seq (.asg (.nm 1) .nil) (.seq (.ife (.or (.cmp .ne (.blt .len (.cons (.var 1) .nil)) (.con (.int 3))) (.cmp .ne (.idx (.var 1) (.con (.int 1))) (.con (.str "x")))) (.ret (.con .non)) .skip) (.seq (.asg (.nm 2) (.tup (.cons (.call (ix 54) (.cons (.idx (.var 1) (.con (.int 0))) (.cons (.con (.int 3)) .nil))) (.cons (.call (ix 55) (.cons (.idx (.var 1) (.con (.int 2))) (.cons (.con (.int 3)) .nil))) .nil)))) (.seq (.ife (.not (.call (ix 30) (.cons (.var 2) .nil))) (.ret (.con .non)) .skip) (.ret (.var 2))))))⟩
def cb_read_cable_1 (ix : Nat → Nat) : CS := (.seq (.asg (.nm 6) (.call (ix 57) (.cons (.var 5) .nil))) (.seq (.ife (.or (.cmp .is (.var 6) (.con .non)) (.cmp .eq (.var 4) (.con (.int 12)))) .never .skip) (.asg (.nm 3) (.bin .add (.var 3) (.tup (.cons (.var 6) .nil))))))
def cf_read_cable (ix : Nat → Nat) : CF := ⟨1, 7, (.seq (.ife (.not (.isi (.var 0) .str)) .never .skip) (.seq (.asg (.nm 1) .nil) (.seq (.asg (.nm 2) (.call (ix 56) (.cons (.idx (.var 1) (.con (.int 0))) .nil))) (.seq (.ife (.cmp .is (.var 2) (.con .non)) .never .skip) (.seq (.asg (.nm 3) (.tup .nil)) (.seq (.fr (.tp (.cons (.nm 4) (.cons (.nm 5) .nil))) (.one .nil) (cb_read_cable_1 ix)) (.seq (.ife (.cmp .eq (.var 3) (.tup .nil)) .never .skip) (.ret (.tup (.cons (.var 3) (.cons (.var 2) .nil)))))))))))⟩
def cf_law_fraction_text (ix : Nat → Nat) : CF := ⟨1, 1, (.ret (.bin .add (.blt .str (.cons (.idx (.var 0) (.con (.int 0))) .nil)) (.idx (.lst (.cons (.bin .add (.con (.str "/")) (.blt .str (.cons (.idx (.var 0) (.con (.int 1))) .nil))) (.cons (.con (.str "")) .nil))) (.blt .int (.cons (.cmp .eq (.idx (.var 0) (.con (.int 1))) (.con (.int 1))) .nil)))))⟩
def cb_law_text_1 (ix : Nat → Nat) : CS := (.expr (.mth .append (.var 1) (.cons (.bin .add (.bin .add (.blt .str (.cons (.var 2) .nil)) (.con (.str " x "))) (.call (ix 59) (.cons (.var 3) .nil))) .nil)))
def cf_law_text (ix : Nat → Nat) : CF := ⟨1, 4, (.seq (.asg (.nm 1) (.mlst (.cons (.bin .add (.con (.str "back ")) (.call (ix 59) (.cons (.idx (.var 0) (.con (.int 1))) .nil))) .nil))) (.seq (.fr (.tp (.cons (.nm 2) (.cons (.nm 3) .nil))) (.one (.idx (.var 0) (.con (.int 0)))) (cb_law_text_1 ix)) (.ret .nil)))⟩
def cf_is_leak (ix : Nat → Nat) : CF := ⟨2, 2, (.ret (.and (.isi (.var 1) .tup) (.and (.cmp .eq (.blt .len (.cons (.var 1) .nil)) (.con (.int 2))) (.and (.call (ix 41) (.cons (.var 0) (.cons (.idx (.var 1) (.con (.int 0))) .nil))) (.call (ix 28) (.cons (.idx (.var 1) (.con (.int 1))) .nil))))))⟩
def cf_are_leaks (ix : Nat → Nat) : CF := ⟨2, 4, (.seq (.ife (.or (.not (.isi (.var 1) .tup)) (.or (.cmp .gt (.blt .len (.cons (.var 1) .nil)) (.con (.int 6))) (.not (.blt .all (.cons (.comp (.call (ix 61) (.cons (.var 0) (.cons (.var 2) .nil))) (.nm 2) (.one (.var 1)) (.con (.bl true)) [2] false) .nil))))) (.ret (.con (.bl false))) .skip) (.ret (.blt .all (.cons (.comp (.call (ix 9) (.cons (.idx (.idx (.var 1) (.var 3)) (.con (.int 0))) (.cons (.idx (.idx (.var 1) (.bin .add (.var 3) (.con (.int 1)))) (.con (.int 0))) .nil))) (.nm 3) (.rng (.con (.int 0)) (.bin .sub (.blt .len (.cons (.var 1) .nil)) (.con (.int 1)))) (.con (.bl true)) [3] false) .nil))))⟩
def cf_is_leaks (ix : Nat → Nat) : CF := ⟨2, 2, (.ret (.and (.call (ix 31) (.cons (.var 0) .nil)) (.call (ix 62) (.cons (.var 0) (.cons (.var 1) .nil)))))⟩
def cf_law_sixths (ix : Nat → Nat) : CF := ⟨2, 5, (.seq (.asg (.nm 2) (.comp (.idx (.var 4) (.con (.int 0))) (.nm 4) (.one (.idx (.var 1) (.con (.int 0)))) (.con (.bl true)) [4] false)) (.seq (.asg (.nm 3) (.call (ix 19) (.cons (.var 0) (.cons (.con (.int 5)) .nil)))) (.seq (.ife (.cmp .eq (.var 3) (.con (.int 0))) (.ret (.bin .mul (.bin .mul (.con (.int 6)) (.blt .sum (.cons (.var 2) .nil))) (.call (ix 19) (.cons (.var 0) (.cons (.con (.int 2)) .nil))))) .skip) (.seq (.ife (.cmp .eq (.var 3) (.con (.int 1))) (.ret (.bin .mul (.con (.int 6)) (.blt .sum (.cons (.sl (.var 2) .nil (.one (.call (ix 19) (.cons (.var 0) (.cons (.bin .add (.blt .len (.cons (.var 2) .nil)) (.con (.int 1))) .nil))))) .nil)))) .skip) (.ret (.call (ix 19) (.cons (.var 0) (.cons (.bin .add (.bin .mul (.con (.int 6)) (.blt .sum (.cons (.var 2) .nil))) (.con (.int 1))) .nil))))))))⟩
def cf_check_leaks (ix : Nat → Nat) : CF := ⟨2, 2, (.ife (.not (.call (ix 62) (.cons (.var 0) (.cons (.var 1) .nil)))) (.rais 4 (.con .non)) .skip)⟩
def cf_both_seen (ix : Nat → Nat) : CF := ⟨2, 6, (.seq (.asg (.nm 2) (.call (ix 5) (.cons (.idx (.var 0) (.con (.int 1))) (.cons (.idx (.var 1) (.con (.int 0))) .nil)))) (.seq (.asg (.nm 3) (.call (ix 5) (.cons (.call (ix 5) (.cons (.idx (.var 0) (.con (.int 2))) (.cons (.idx (.var 1) (.con (.int 2))) .nil))) (.cons (.var 2) .nil)))) (.seq (.asg (.nm 4) (.call (ix 5) (.cons (.idx (.var 0) (.con (.int 0))) (.cons (.call (ix 8) (.cons (.call (ix 7) (.cons (.idx (.var 0) (.con (.int 2))) (.cons (.var 2) .nil))) (.cons (.var 3) .nil))) .nil)))) (.seq (.asg (.nm 5) (.call (ix 5) (.cons (.idx (.var 1) (.con (.int 1))) (.cons (.call (ix 8) (.cons (.call (ix 7) (.cons (.idx (.var 1) (.con (.int 2))) (.cons (.var 2) .nil))) (.cons (.var 3) .nil))) .nil)))) (.ret (.tup (.cons (.var 4) (.cons (.var 5) (.cons (.call (ix 8) (.cons (.call (ix 7) (.cons (.idx (.var 0) (.con (.int 2))) (.cons (.idx (.var 1) (.con (.int 2))) .nil))) (.cons (.var 3) .nil))) .nil)))))))))⟩
def cf_join (ix : Nat → Nat) : CF := ⟨2, 5, (.seq (.asg (.nm 2) (.call (ix 5) (.cons (.idx (.var 0) (.con (.int 0))) (.cons (.idx (.var 1) (.con (.int 0))) .nil)))) (.seq (.asg (.tp (.cons (.nm 3) (.cons (.nm 4) .nil))) (.tup (.cons (.idx (.var 0) (.con (.int 1))) (.cons (.idx (.var 1) (.con (.int 1))) .nil)))) (.seq (.ife (.and (.cmp .is (.var 3) (.con .non)) (.cmp .is (.var 4) (.con .non))) (.ret (.tup (.cons (.var 2) (.cons (.con .non) .nil)))) .skip) (.seq (.ife (.cmp .is (.var 3) (.con .non)) (.ret (.tup (.cons (.var 2) (.cons (.tup (.cons (.call (ix 5) (.cons (.idx (.var 4) (.con (.int 0))) (.cons (.idx (.var 0) (.con (.int 0))) .nil))) (.cons (.idx (.var 4) (.con (.int 1))) (.cons (.idx (.var 4) (.con (.int 2))) .nil)))) .nil)))) .skip) (.seq (.ife (.cmp .is (.var 4) (.con .non)) (.ret (.tup (.cons (.var 2) (.cons (.tup (.cons (.idx (.var 3) (.con (.int 0))) (.cons (.call (ix 5) (.cons (.idx (.var 3) (.con (.int 1))) (.cons (.idx (.var 1) (.con (.int 0))) .nil))) (.cons (.idx (.var 3) (.con (.int 2))) .nil)))) .nil)))) .skip) (.ret (.tup (.cons (.var 2) (.cons (.call (ix 66) (.cons (.var 3) (.cons (.var 4) .nil))) .nil)))))))))⟩
def cb_stretch_by_1 (ix : Nat → Nat) : CS := (.seq (.asg (.nm 6) (.call (ix 43) (.cons (.var 0) (.cons (.var 4) .nil)))) (.seq (.asg (.nm 2) (.call (ix 67) (.cons (.var 2) (.cons (.tup (.cons (.call (ix 6) (.cons (.var 6) (.cons (.var 3) .nil))) (.cons (.con .non) .nil))) .nil)))) (.seq (.asg (.nm 2) (.call (ix 67) (.cons (.var 2) (.cons (.tup (.cons (.con (.tup [(.int 0), (.int 1)])) (.cons (.tup (.cons (.con (.tup [(.int 0), (.int 1)])) (.cons (.con (.tup [(.int 0), (.int 1)])) (.cons (.var 5) .nil)))) .nil))) .nil)))) (.asg (.nm 3) (.var 6)))))
def cf_stretch_by (ix : Nat → Nat) : CF := ⟨2, 7, (.seq (.asg (.nm 2) (.tup (.cons (.con (.tup [(.int 0), (.int 1)])) (.cons (.con .non) .nil)))) (.seq (.asg (.nm 3) (.con (.tup [(.int 0), (.int 1)]))) (.seq (.fr (.tp (.cons (.nm 4) (.cons (.nm 5) .nil))) (.one (.var 1)) (cb_stretch_by_1 ix)) (.ret (.call (ix 67) (.cons (.var 2) (.cons (.tup (.cons (.call (ix 6) (.cons (.call (ix 34) (.cons (.var 0) .nil)) (.cons (.var 3) .nil))) (.cons (.con .non) .nil))) .nil)))))))⟩
def cf_beside (ix : Nat → Nat) : CF := ⟨2, 2, (.ret (.call (ix 8) (.cons (.call (ix 7) (.cons (.var 0) (.cons (.var 1) .nil))) (.cons (.call (ix 5) (.cons (.var 0) (.cons (.var 1) .nil))) .nil))))⟩
def cf_reading (ix : Nat → Nat) : CF := ⟨3, 7, (.seq (.asg (.tp (.cons (.nm 3) (.cons (.nm 4) .nil))) (.var 0)) (.seq (.ife (.cmp .eq (.var 2) (.con (.str "loop"))) (.seq (.ife (.cmp .is (.var 4) (.con .non)) (.ret (.call (ix 5) (.cons (.var 1) (.cons (.var 3) .nil)))) .skip) (.ret (.call (ix 5) (.cons (.var 1) (.cons (.call (ix 5) (.cons (.idx (.var 4) (.con (.int 0))) (.cons (.idx (.var 4) (.con (.int 1))) .nil))) .nil))))) .skip) (.seq (.ife (.cmp .is (.var 4) (.con .non)) (.ret (.idx (.lst (.cons (.con .non) (.cons (.var 3) .nil))) (.blt .int (.cons (.cmp .isin (.var 2) (.tup (.cons (.con (.str "west earth")) (.cons (.con (.str "east earth")) .nil)))) .nil)))) .skip) (.seq (.asg (.tp (.cons (.nm 5) (.cons (.nm 6) .nil))) (.tup (.cons (.idx (.var 4) (.con (.int 0))) (.cons (.idx (.var 4) (.con (.int 1))) .nil)))) (.seq (.ife (.cmp .isin (.var 2) (.tup (.cons (.con (.str "east free")) (.cons (.con (.str "east earth")) .nil)))) (.asg (.tp (.cons (.nm 5) (.cons (.nm 6) .nil))) (.tup (.cons (.idx (.var 4) (.con (.int 1))) (.cons (.idx (.var 4) (.con (.int 0))) .nil)))) .skip) (.seq (.ife (.cmp .isin (.var 2) (.tup (.cons (.con (.str "west free")) (.cons (.con (.str "east free")) .nil)))) (.ret (.call (ix 5) (.cons (.var 5) (.cons (.idx (.var 4) (.con (.int 2))) .nil)))) .skip) (.ret (.call (ix 5) (.cons (.var 5) (.cons (.call (ix 69) (.cons (.idx (.var 4) (.con (.int 2))) (.cons (.var 6) .nil))) .nil))))))))))⟩
def cf_measure (ix : Nat → Nat) : CF := ⟨3, 3, (.seq (.expr (.call (ix 32) (.cons (.var 0) .nil))) (.seq (.expr (.call (ix 65) (.cons (.var 0) (.cons (.var 1) .nil)))) (.seq (.ife (.or (.not (.isi (.var 2) .str)) (.cmp .notin (.var 2) (.con (.tup [(.str "west free"), (.str "east free"), (.str "west earth"), (.str "east earth"), (.str "loop")])))) (.rais 6 (.con .non)) .skip) (.ret (.call (ix 70) (.cons (.call (ix 68) (.cons (.var 0) (.cons (.var 1) .nil))) (.cons (.idx (.var 0) (.con (.int 1))) (.cons (.var 2) .nil))))))))⟩
def cb_law_drag_to_1 (ix : Nat → Nat) : CS := (.seq (.asg (.nm 6) (.call (ix 47) (.cons (.var 1) (.cons (.tup (.cons (.var 3) (.cons (.con (.int 1)) .nil))) .nil)))) (.seq (.ife (.call (ix 49) (.cons (.tup (.cons (.var 4) (.cons (.con (.int 1)) .nil))) (.cons (.var 6) .nil))) (.asg (.nm 6) (.tup (.cons (.var 4) (.cons (.con (.int 1)) .nil)))) .skip) (.seq (.ife (.cmp .gt (.idx (.var 6) (.con (.int 0))) (.con (.int 0))) (.asg (.nm 2) (.call (ix 39) (.cons (.var 2) (.cons (.call (ix 40) (.cons (.var 6) (.cons (.var 5) .nil))) .nil)))) .skip) (.asg (.nm 3) (.bin .add (.var 3) (.var 4))))))
def cf_law_drag_to (ix : Nat → Nat) : CF := ⟨2, 7, (.seq (.asg (.tp (.cons (.nm 2) (.cons (.nm 3) .nil))) (.tup (.cons (.tup (.cons (.con (.int 0)) (.cons (.con (.int 1)) .nil))) (.cons (.con (.int 0)) .nil)))) (.seq (.fr (.tp (.cons (.nm 4) (.cons (.nm 5) .nil))) (.one (.idx (.var 0) (.con (.int 0)))) (cb_law_drag_to_1 ix)) (.ret (.var 2))))⟩
def cf_law_points (ix : Nat → Nat) : CF := ⟨3, 7, (.seq (.asg (.nm 3) (.comp (.tup (.cons (.call (ix 72) (.cons (.var 0) (.cons (.var 4) .nil))) (.cons (.var 5) .nil))) (.tp (.cons (.nm 4) (.cons (.nm 5) .nil))) (.one (.var 1)) (.con (.bl true)) [4, 5] false)) (.seq (.ife (.var 2) (.ret (.var 3)) .skip) (.ret (.comp (.tup (.cons (.call (ix 47) (.cons (.call (ix 50) (.cons (.var 0) .nil)) (.cons (.var 6) .nil))) (.cons (.var 5) .nil))) (.tp (.cons (.nm 6) (.cons (.nm 5) .nil))) (.one (.rev (.var 3))) (.con (.bl true)) [6, 5] false))))⟩
def cb_law_steps_seen_1 (ix : Nat → Nat) : CS := (.seq (.ife (.cmp .isnot (.var 2) (.con .non)) (.seq (.asg (.nm 7) (.call (ix 39) (.cons (.var 2) (.cons (.call (ix 47) (.cons (.var 4) (.cons (.var 5) .nil))) .nil)))) (.asg (.nm 2) (.call (ix 48) (.cons (.call (ix 40) (.cons (.var 6) (.cons (.var 7) .nil))) (.cons (.call (ix 39) (.cons (.var 6) (.cons (.var 7) .nil))) .nil))))) (.asg (.nm 2) (.var 6))) (.seq (.expr (.mth .append (.var 3) (.cons (.var 2) .nil))) (.asg (.nm 4) (.var 5))))
def cf_law_steps_seen (ix : Nat → Nat) : CF := ⟨3, 8, (.seq (.asg (.tp (.cons (.nm 3) (.cons (.nm 4) .nil))) (.tup (.cons (.mlst .nil) (.cons (.var 1) .nil)))) (.seq (.fr (.tp (.cons (.nm 5) (.cons (.nm 6) .nil))) (.one (.rev (.var 0))) (cb_law_steps_seen_1 ix)) (.ret (.rev (.var 3)))))⟩
def cf_law_seen (ix : Nat → Nat) : CF := ⟨4, 6, (.seq (.asg (.tp (.cons (.nm 4) (.cons (.nm 5) .nil))) (.tup (.cons (.call (ix 73) (.cons (.var 0) (.cons (.var 1) (.cons (.var 2) .nil)))) (.cons (.call (ix 50) (.cons (.var 0) .nil)) .nil)))) (.seq (.ife (.and (.cmp .eq (.var 4) (.lst .nil)) (.cmp .is (.var 3) (.con .non))) (.ret (.con .non)) .skip) (.seq (.ife (.cmp .eq (.var 4) (.lst .nil)) (.ret (.var 5)) .skip) (.ret (.call (ix 39) (.cons (.idx (.idx (.var 4) (.con (.int 0))) (.con (.int 0))) (.cons (.idx (.call (ix 74) (.cons (.var 4) (.cons (.var 5) (.cons (.var 3) .nil)))) (.con (.int 0))) .nil)))))))⟩
def cb_law_day_1 (ix : Nat → Nat) : CS := (.seq (.asg (.nm 7) (.call (ix 47) (.cons (.idx (.idx (.var 2) (.var 6)) (.con (.int 0))) (.cons (.idx (.idx (.var 2) (.bin .sub (.var 6) (.con (.int 1)))) (.con (.int 0))) .nil)))) (.asg (.nm 5) (.call (ix 48) (.cons (.call (ix 40) (.cons (.var 5) (.cons (.idx (.var 4) (.var 6)) .nil))) (.cons (.call (ix 39) (.cons (.idx (.var 4) (.var 6)) (.cons (.var 7) .nil))) .nil)))))
def cf_law_day (ix : Nat → Nat) : CF := ⟨2, 11, (.seq (.ife (.cmp .eq (.var 1) (.tup .nil)) (.ret (.tup (.cons (.con .non) (.cons (.con .non) (.cons (.call (ix 39) (.cons (.idx (.var 0) (.con (.int 1))) (.cons (.call (ix 50) (.cons (.var 0) .nil)) .nil))) .nil))))) .skip) (.seq (.asg (.tp (.cons (.nm 2) (.cons (.nm 3) .nil))) (.tup (.cons (.call (ix 73) (.cons (.var 0) (.cons (.var 1) (.cons (.con (.bl true)) .nil)))) (.cons (.call (ix 50) (.cons (.var 0) .nil)) .nil)))) (.seq (.asg (.nm 4) (.call (ix 74) (.cons (.var 2) (.cons (.var 3) (.cons (.con .non) .nil))))) (.seq (.asg (.nm 5) (.idx (.var 4) (.con (.int 0)))) (.seq (.fr (.nm 6) (.rng (.con (.int 1)) (.blt .len (.cons (.var 4) .nil))) (cb_law_day_1 ix)) (.seq (.asg (.tp (.cons (.nm 8) (.cons (.nm 9) .nil))) (.tup (.cons (.call (ix 75) (.cons (.var 0) (.cons (.var 1) (.cons (.con (.bl true)) (.cons (.con .non) .nil))))) (.cons (.call (ix 75) (.cons (.var 0) (.cons (.var 1) (.cons (.con (.bl false)) (.cons (.con .non) .nil))))) .nil)))) (.seq (.asg (.nm 10) (.call (ix 47) (.cons (.call (ix 39) (.cons (.var 8) (.cons (.var 9) .nil))) (.cons (.call (ix 40) (.cons (.tup (.cons (.con (.int 2)) (.cons (.con (.int 1)) .nil))) (.cons (.var 5) .nil))) .nil)))) (.ret (.tup (.cons (.var 8) (.cons (.var 9) (.cons (.call (ix 39) (.cons (.idx (.var 0) (.con (.int 1))) (.cons (.var 10) .nil))) .nil))))))))))))⟩
def cb_law_leaks_2_1 (ix : Nat → Nat) : CS := (.set (.var 3) (.call (ix 64) (.cons (.var 0) (.cons (.var 1) .nil))) (.call (ix 21) (.cons (.bin .add (.con (.int 1)) (.call (ix 19) (.cons (.var 0) (.cons (.con (.int 60)) .nil)))) (.cons (.idx (.lst (.cons (.con (.int 1)) (.cons (.con (.int 1)) (.cons (.con (.int 2)) (.cons (.con (.int 7)) .nil))))) (.call (ix 19) (.cons (.var 0) (.cons (.con (.int 4)) .nil)))) .nil))))
def cf_law_leaks_2 (ix : Nat → Nat) : CF := ⟨3, 6, (.seq (.asg (.nm 3) .mdk) (.seq (.fr (.nm 4) (.rng (.con (.int 0)) (.call (ix 19) (.cons (.var 0) (.cons (.bin .add (.var 2) (.con (.int 1))) .nil)))) (cb_law_leaks_2_1 ix)) (.ret (.blt .tuple (.cons (.comp (.tup (.cons (.call (ix 21) (.cons (.var 5) (.cons (.con (.int 6)) .nil))) (.cons (.idx (.var 3) (.var 5)) .nil))) (.nm 5) (.one (.blt .sorted (.cons (.var 3) .nil))) (.con (.bl true)) [5] false) .nil)))))⟩
def cf_law_sort_2 (ix : Nat → Nat) : CF := ⟨1, 3, (.tr (.seq (.asg (.nm 1) (.lst (.cons (.isi (.var 0) (.own 1)) (.cons (.isi (.var 0) (.own 2)) (.cons (.isi (.var 0) (.own 3)) (.cons (.isi (.var 0) (.own 4)) .nil)))))) (.seq (.asg (.nm 1) (.bin .add (.var 1) (.lst (.cons (.isi (.var 0) (.own 5)) (.cons (.isi (.var 0) (.own 6)) (.cons (.isi (.var 0) (.own 7)) (.cons (.isi (.var 0) (.own 8)) .nil))))))) (.seq (.asg (.nm 1) (.bin .add (.var 1) (.lst (.cons (.isi (.var 0) (.own 9)) (.cons (.isi (.var 0) (.own 10)) (.cons (.isi (.var 0) (.own 11)) (.cons (.isi (.var 0) (.own 12)) .nil))))))) (.seq (.asg (.nm 1) (.bin .add (.var 1) (.lst (.cons (.isi (.var 0) (.own 13)) (.cons (.isi (.var 0) (.own 14)) (.cons (.isi (.var 0) (.own 15)) (.cons (.isi (.var 0) (.own 16)) .nil))))))) (.seq (.asg (.nm 1) (.bin .add (.var 1) (.lst (.cons (.isi (.var 0) (.own 17)) (.cons (.isi (.var 0) (.own 18)) .nil))))) (.seq (.ife (.or (.cmp .ne (.mth .count (.var 1) (.cons (.con (.bl true)) .nil)) (.con (.int 1))) (.not (.isi (.var 0) (.own 99)))) (.ret (.con (.str "other"))) .skip) (.seq (.asg (.nm 2) (.lst (.cons (.con (.str "number")) (.cons (.con (.str "cable")) (.cons (.con (.str "drag")) (.cons (.con (.str "leaks")) (.cons (.con (.str "stretch")) (.cons (.con (.str "word")) (.cons (.con (.str "reading")) (.cons (.con (.str "place")) (.cons (.con (.str "day")) (.cons (.con (.str "pair")) (.cons (.con (.str "splice")) (.cons (.con (.str "days")) .nil)))))))))))))) (.ret (.idx (.bin .add (.var 2) (.lst (.cons (.con (.str "places")) (.cons (.con (.str "length")) (.cons (.con (.str "deed")) (.cons (.con (.str "back")) (.cons (.con (.str "row")) (.cons (.con (.str "text")) .nil)))))))) (.mth .index (.var 1) (.cons (.con (.bl true)) .nil))))))))))) 100 0 .never)⟩
def cf_lack_of (ix : Nat → Nat) : CF := ⟨1, 3, (.seq (.asg (.tp (.cons (.nm 1) (.cons (.nm 2) .nil))) (.var 0)) (.ret (.call (ix 6) (.cons (.call (ix 6) (.cons (.var 1) (.cons (.idx (.var 2) (.con (.int 0))) .nil))) (.cons (.idx (.var 2) (.con (.int 1))) .nil)))))⟩
def cf_is_seen (ix : Nat → Nat) : CF := ⟨2, 3, (.seq (.ife (.or (.not (.isi (.var 1) .tup)) (.or (.cmp .ne (.blt .len (.cons (.var 1) .nil)) (.con (.int 3))) (.or (.not (.call (ix 27) (.cons (.idx (.var 1) (.con (.int 0))) .nil))) (.not (.call (ix 27) (.cons (.idx (.var 1) (.con (.int 1))) .nil)))))) (.ret (.con (.bl false))) .skip) (.seq (.ife (.not (.call (ix 28) (.cons (.idx (.var 1) (.con (.int 2))) .nil))) (.ret (.con (.bl false))) .skip) (.seq (.asg (.nm 2) (.call (ix 79) (.cons (.tup (.cons (.var 0) (.cons (.var 1) .nil))) .nil))) (.ret (.and (.call (ix 27) (.cons (.var 2) .nil)) (.not (.call (ix 9) (.cons (.call (ix 7) (.cons (.idx (.var 1) (.con (.int 0))) (.cons (.idx (.var 1) (.con (.int 1))) .nil))) (.cons (.call (ix 7) (.cons (.idx (.var 1) (.con (.int 2))) (.cons (.var 2) .nil))) .nil)))))))))⟩
def cf_is_stretch (ix : Nat → Nat) : CF := ⟨1, 1, (.seq (.ife (.or (.not (.isi (.var 0) .tup)) (.or (.cmp .ne (.blt .len (.cons (.var 0) .nil)) (.con (.int 2))) (.not (.call (ix 27) (.cons (.idx (.var 0) (.con (.int 0))) .nil))))) (.ret (.con (.bl false))) .skip) (.ret (.or (.cmp .is (.idx (.var 0) (.con (.int 1))) (.con .non)) (.call (ix 80) (.cons (.idx (.var 0) (.con (.int 0))) (.cons (.idx (.var 0) (.con (.int 1))) .nil))))))⟩
def cf_joined (ix : Nat → Nat) : CF := ⟨2, 2, (.seq (.ife (.or (.not (.call (ix 81) (.cons (.var 0) .nil))) (.not (.call (ix 81) (.cons (.var 1) .nil)))) (.rais 5 (.con .non)) .skip) (.ret (.call (ix 67) (.cons (.var 0) (.cons (.var 1) .nil)))))⟩
def cf_law_stretch (ix : Nat → Nat) : CF := ⟨1, 6, (.seq (.asg (.nm 1) (.call (ix 19) (.cons (.var 0) (.cons (.con (.int 4)) .nil)))) (.seq (.ife (.cmp .eq (.var 1) (.con (.int 0))) (.ret (.tup (.cons (.call (ix 21) (.cons (.call (ix 19) (.cons (.var 0) (.cons (.con (.int 50)) .nil))) (.cons (.bin .add (.con (.int 1)) (.call (ix 19) (.cons (.var 0) (.cons (.con (.int 4)) .nil)))) .nil))) (.cons (.con .non) .nil)))) .skip) (.seq (.asg (.nm 2) (.call (ix 21) (.cons (.call (ix 19) (.cons (.var 0) (.cons (.con (.int 40)) .nil))) (.cons (.bin .add (.con (.int 1)) (.call (ix 19) (.cons (.var 0) (.cons (.con (.int 4)) .nil)))) .nil)))) (.seq (.asg (.nm 3) (.call (ix 21) (.cons (.call (ix 19) (.cons (.var 0) (.cons (.con (.int 40)) .nil))) (.cons (.bin .add (.con (.int 1)) (.call (ix 19) (.cons (.var 0) (.cons (.con (.int 4)) .nil)))) .nil)))) (.seq (.asg (.nm 4) (.call (ix 21) (.cons (.bin .add (.con (.int 1)) (.call (ix 19) (.cons (.var 0) (.cons (.con (.int 90)) .nil)))) (.cons (.bin .add (.con (.int 1)) (.call (ix 19) (.cons (.var 0) (.cons (.con (.int 6)) .nil)))) .nil)))) (.seq (.asg (.nm 5) (.tup (.cons (.con (.int 0)) (.cons (.con (.int 1)) .nil)))) (.seq (.ife (.cmp .gt (.var 1) (.con (.int 1))) (.asg (.nm 5) (.call (ix 48) (.cons (.call (ix 40) (.cons (.var 2) (.cons (.var 3) .nil))) (.cons (.var 4) .nil)))) .skip) (.seq (.ife (.cmp .eq (.var 1) (.con (.int 3))) (.asg (.nm 5) (.call (ix 40) (.cons (.var 5) (.cons (.call (ix 21) (.cons (.call (ix 19) (.cons (.var 0) (.cons (.con (.int 12)) .nil))) (.cons (.con (.int 11)) .nil))) .nil)))) .skip) (.ret (.tup (.cons (.call (ix 39) (.cons (.call (ix 39) (.cons (.var 2) (.cons (.var 3) .nil))) (.cons (.var 5) .nil))) (.cons (.tup (.cons (.var 2) (.cons (.var 3) (.cons (.var 4) .nil)))) .nil))))))))))))⟩
def cf_stretch_of (ix : Nat → Nat) : CF := ⟨2, 2, (.seq (.expr (.call (ix 32) (.cons (.var 0) .nil))) (.seq (.expr (.call (ix 65) (.cons (.var 0) (.cons (.var 1) .nil)))) (.ret (.call (ix 68) (.cons (.var 0) (.cons (.var 1) .nil))))))⟩
def cf_check_word (ix : Nat → Nat) : CF := ⟨1, 1, (.ife (.or (.not (.isi (.var 0) .str)) (.cmp .notin (.var 0) (.con (.tup [(.str "west free"), (.str "east free"), (.str "west earth"), (.str "east earth")])))) (.rais 6 (.con .non)) .skip)⟩
def cf_check_reading (ix : Nat → Nat) : CF := ⟨1, 1, (.ife (.not (.call (ix 27) (.cons (.var 0) .nil))) (.rais 7 (.con .non)) .skip)⟩
def cf_drag_with (ix : Nat → Nat) : CF := ⟨4, 5, (.seq (.asg (.nm 4) (.call (ix 6) (.cons (.var 3) (.cons (.var 0) .nil)))) (.seq (.ife (.not (.call (ix 28) (.cons (.var 4) .nil))) (.ret (.con .non)) .skip) (.seq (.ife (.cmp .isin (.var 2) (.con (.tup [(.str "west free"), (.str "east free")]))) (.ret (.var 4)) .skip) (.seq (.ife (.not (.call (ix 9) (.cons (.var 4) (.cons (.var 1) .nil)))) (.ret (.con .non)) .skip) (.ret (.call (ix 8) (.cons (.call (ix 7) (.cons (.var 4) (.cons (.var 1) .nil))) (.cons (.call (ix 6) (.cons (.var 1) (.cons (.var 4) .nil))) .nil))))))))⟩
def cf_drag_by (ix : Nat → Nat) : CF := ⟨4, 6, (.seq (.expr (.call (ix 32) (.cons (.var 0) .nil))) (.seq (.expr (.call (ix 85) (.cons (.var 1) .nil))) (.seq (.expr (.call (ix 86) (.cons (.var 2) .nil))) (.seq (.expr (.call (ix 42) (.cons (.var 0) (.cons (.var 3) .nil)))) (.seq (.asg (.nm 4) (.call (ix 43) (.cons (.var 0) (.cons (.var 3) .nil)))) (.seq (.asg (.nm 5) (.call (ix 6) (.cons (.call (ix 34) (.cons (.var 0) .nil)) (.cons (.var 4) .nil)))) (.seq (.ife (.cmp .isin (.var 1) (.con (.tup [(.str "east free"), (.str "east earth")]))) (.asg (.tp (.cons (.nm 4) (.cons (.nm 5) .nil))) (.tup (.cons (.var 5) (.cons (.var 4) .nil)))) .skip) (.ret (.call (ix 87) (.cons (.var 4) (.cons (.var 5) (.cons (.var 1) (.cons (.var 2) .nil)))))))))))))⟩
def cb_law_place_at_1 (ix : Nat → Nat) : CS := (.seq (.asg (.nm 5) (.call (ix 40) (.cons (.tup (.cons (.var 3) (.cons (.con (.int 1)) .nil))) (.cons (.var 4) .nil)))) (.seq (.ife (.not (.call (ix 49) (.cons (.var 5) (.cons (.var 1) .nil)))) (.ret (.call (ix 39) (.cons (.tup (.cons (.var 2) (.cons (.con (.int 1)) .nil))) (.cons (.call (ix 48) (.cons (.var 1) (.cons (.var 4) .nil))) .nil)))) .skip) (.seq (.asg (.nm 1) (.call (ix 47) (.cons (.var 1) (.cons (.var 5) .nil)))) (.asg (.nm 2) (.bin .add (.var 2) (.var 3))))))
def cf_law_place_at (ix : Nat → Nat) : CF := ⟨2, 6, (.seq (.asg (.nm 2) (.con (.int 0))) (.seq (.fr (.tp (.cons (.nm 3) (.cons (.nm 4) .nil))) (.one (.idx (.var 0) (.con (.int 0)))) (cb_law_place_at_1 ix)) (.ret (.tup (.cons (.var 2) (.cons (.con (.int 1)) .nil))))))⟩
def cf_law_read (ix : Nat → Nat) : CF := ⟨3, 4, (.seq (.asg (.nm 3) (.idx (.lst (.cons (.con .non) (.cons (.tup (.cons (.con (.int 0)) (.cons (.con (.int 1)) .nil))) .nil))) (.blt .int (.cons (.cmp .eq (.sl (.var 2) (.one (.con (.int 5))) .nil) (.con (.str "earth"))) .nil)))) (.ret (.call (ix 75) (.cons (.var 0) (.cons (.var 1) (.cons (.cmp .eq (.sl (.var 2) .nil (.one (.con (.int 4)))) (.con (.str "west"))) (.cons (.var 3) .nil)))))))⟩
def cf_law_leak (ix : Nat → Nat) : CF := ⟨2, 3, (.seq (.asg (.nm 2) (.call (ix 21) (.cons (.call (ix 64) (.cons (.var 0) (.cons (.var 1) .nil))) (.cons (.con (.int 6)) .nil)))) (.seq (.ife (.cmp .eq (.call (ix 19) (.cons (.var 0) (.cons (.con (.int 5)) .nil))) (.con (.int 1))) (.asg (.nm 2) (.call (ix 89) (.cons (.var 1) (.cons (.call (ix 40) (.cons (.call (ix 50) (.cons (.var 1) .nil)) (.cons (.tup (.cons (.con (.int 1)) (.cons (.con (.int 2)) .nil))) .nil))) .nil)))) .skip) (.ret (.tup (.cons (.var 2) (.cons (.call (ix 21) (.cons (.bin .add (.con (.int 1)) (.call (ix 19) (.cons (.var 0) (.cons (.con (.int 60)) .nil)))) (.cons (.idx (.lst (.cons (.con (.int 1)) (.cons (.con (.int 1)) (.cons (.con (.int 2)) (.cons (.con (.int 7)) .nil))))) (.call (ix 19) (.cons (.var 0) (.cons (.con (.int 4)) .nil)))) .nil))) .nil))))))⟩
def cf_half (ix : Nat → Nat) : CF := ⟨1, 1, (.ret (.call (ix 2) (.cons (.idx (.var 0) (.con (.int 0))) (.cons (.bin .mul (.con (.int 2)) (.idx (.var 0) (.con (.int 1)))) .nil))))⟩
def cf_by_free_and_earth (ix : Nat → Nat) : CF := ⟨3, 5, (.seq (.asg (.nm 3) (.call (ix 7) (.cons (.call (ix 6) (.cons (.var 1) (.cons (.var 2) .nil))) (.cons (.call (ix 6) (.cons (.var 0) (.cons (.var 2) .nil))) .nil)))) (.seq (.asg (.nm 4) (.call (ix 26) (.cons (.var 3) .nil))) (.seq (.ife (.cmp .is (.var 4) (.con .non)) (.ret (.lst .nil)) .skip) (.ret (.lst (.cons (.call (ix 6) (.cons (.var 2) (.cons (.var 4) .nil))) .nil))))))⟩
def cf_by_free_and_far_earth (ix : Nat → Nat) : CF := ⟨3, 4, (.seq (.asg (.nm 3) (.call (ix 26) (.cons (.call (ix 7) (.cons (.var 1) (.cons (.call (ix 6) (.cons (.var 0) (.cons (.var 2) .nil))) .nil))) .nil))) (.seq (.ife (.cmp .is (.var 3) (.con .non)) (.ret (.lst .nil)) .skip) (.ret (.lst (.cons (.var 3) .nil)))))⟩
def cf_by_earths (ix : Nat → Nat) : CF := ⟨3, 8, (.seq (.asg (.tp (.cons (.nm 3) (.cons (.nm 4) .nil))) (.tup (.cons (.call (ix 6) (.cons (.var 0) (.cons (.var 1) .nil))) (.cons (.call (ix 6) (.cons (.var 0) (.cons (.var 2) .nil))) .nil)))) (.seq (.ife (.or (.cmp .eq (.var 3) (.con (.tup [(.int 0), (.int 1)]))) (.cmp .eq (.var 4) (.con (.tup [(.int 0), (.int 1)])))) (.ret (.lst (.cons (.con (.tup [(.int 0), (.int 1)])) (.cons (.var 0) .nil)))) .skip) (.seq (.ife (.cmp .eq (.var 3) (.var 4)) (.ret (.lst (.cons (.call (ix 92) (.cons (.var 0) .nil)) .nil))) .skip) (.seq (.asg (.nm 5) (.call (ix 7) (.cons (.var 4) (.cons (.call (ix 6) (.cons (.var 0) (.cons (.var 3) .nil))) .nil)))) (.seq (.asg (.nm 6) (.call (ix 26) (.cons (.call (ix 7) (.cons (.call (ix 7) (.cons (.var 3) (.cons (.var 4) .nil))) (.cons (.call (ix 7) (.cons (.call (ix 6) (.cons (.var 0) (.cons (.var 3) .nil))) (.cons (.call (ix 6) (.cons (.var 0) (.cons (.var 4) .nil))) .nil))) .nil))) .nil))) (.seq (.ife (.cmp .is (.var 6) (.con .non)) (.ret (.lst .nil)) .skip) (.seq (.asg (.nm 7) (.call (ix 6) (.cons (.var 4) (.cons (.var 3) .nil)))) (.ret (.lst (.cons (.call (ix 8) (.cons (.call (ix 5) (.cons (.var 5) (.cons (.var 6) .nil))) (.cons (.var 7) .nil))) (.cons (.call (ix 8) (.cons (.call (ix 6) (.cons (.var 5) (.cons (.var 6) .nil))) (.cons (.var 7) .nil))) .nil)))))))))))⟩
def cf_possible_drags (ix : Nat → Nat) : CF := ⟨2, 5, (.seq (.asg (.nm 2) (.blt .sorted (.cons (.var 1) .nil))) (.seq (.ife (.cmp .eq (.var 2) (.lst (.cons (.con (.str "east free")) (.cons (.con (.str "west free")) .nil)))) (.ret (.lst (.cons (.call (ix 92) (.cons (.call (ix 6) (.cons (.call (ix 5) (.cons (.var 0) (.cons (.idx (.var 1) (.con (.str "west free"))) .nil))) (.cons (.idx (.var 1) (.con (.str "east free"))) .nil))) .nil)) .nil))) .skip) (.seq (.ife (.cmp .eq (.var 2) (.lst (.cons (.con (.str "east earth")) (.cons (.con (.str "west earth")) .nil)))) (.ret (.call (ix 95) (.cons (.var 0) (.cons (.idx (.var 1) (.con (.str "west earth"))) (.cons (.idx (.var 1) (.con (.str "east earth"))) .nil))))) .skip) (.seq (.ife (.cmp .eq (.var 2) (.lst (.cons (.con (.str "west earth")) (.cons (.con (.str "west free")) .nil)))) (.ret (.call (ix 93) (.cons (.var 0) (.cons (.idx (.var 1) (.con (.str "west free"))) (.cons (.idx (.var 1) (.con (.str "west earth"))) .nil))))) .skip) (.seq (.ife (.cmp .eq (.var 2) (.lst (.cons (.con (.str "east earth")) (.cons (.con (.str "west free")) .nil)))) (.ret (.call (ix 94) (.cons (.var 0) (.cons (.idx (.var 1) (.con (.str "west free"))) (.cons (.idx (.var 1) (.con (.str "east earth"))) .nil))))) .skip) (.seq (.ife (.cmp .eq (.var 2) (.lst (.cons (.con (.str "east earth")) (.cons (.con (.str "east free")) .nil)))) (.asg (.nm 3) (.call (ix 93) (.cons (.var 0) (.cons (.idx (.var 1) (.con (.str "east free"))) (.cons (.idx (.var 1) (.con (.str "east earth"))) .nil))))) (.asg (.nm 3) (.call (ix 94) (.cons (.var 0) (.cons (.idx (.var 1) (.con (.str "east free"))) (.cons (.idx (.var 1) (.con (.str "west earth"))) .nil)))))) (.ret (.comp (.call (ix 6) (.cons (.var 0) (.cons (.var 4) .nil))) (.nm 4) (.one (.var 3)) (.con (.bl true)) [4] false))))))))⟩
def cb_leak_with_1 (ix : Nat → Nat) : CS := (.seq (.asg (.tp (.cons (.nm 6) (.cons (.nm 7) .nil))) (.tup (.cons (.var 3) (.cons (.call (ix 6) (.cons (.var 1) (.cons (.var 3) .nil))) .nil)))) (.seq (.ife (.cmp .isin (.var 5) (.con (.tup [(.str "east free"), (.str "east earth")]))) (.asg (.tp (.cons (.nm 6) (.cons (.nm 7) .nil))) (.tup (.cons (.var 7) (.cons (.var 6) .nil)))) .skip) (.seq (.asg (.nm 8) (.call (ix 87) (.cons (.var 6) (.cons (.var 7) (.cons (.var 5) (.cons (.idx (.var 2) (.var 5)) .nil)))))) (.ife (.cmp .isnot (.var 8) (.con .non)) (.seq (.asg (.nm 9) (.call (ix 68) (.cons (.var 0) (.cons (.tup (.cons (.tup (.cons (.var 4) (.cons (.var 8) .nil))) .nil)) .nil)))) (.ife (.blt .all (.cons (.comp (.cmp .eq (.call (ix 70) (.cons (.var 9) (.cons (.idx (.var 0) (.con (.int 1))) (.cons (.var 10) .nil)))) (.idx (.var 2) (.var 10))) (.nm 10) (.one (.var 2)) (.con (.bl true)) [10] false) .nil)) (.ret (.tup (.cons (.var 4) (.cons (.var 8) .nil)))) .skip)) .skip))))
def cf_leak_with (ix : Nat → Nat) : CF := ⟨4, 11, (.seq (.ife (.or (.not (.call (ix 27) (.cons (.var 3) .nil))) (.call (ix 9) (.cons (.var 1) (.cons (.var 3) .nil)))) (.ret (.con .non)) .skip) (.seq (.asg (.nm 4) (.call (ix 44) (.cons (.var 0) (.cons (.var 3) .nil)))) (.seq (.fr (.nm 5) (.one (.var 2)) (cb_leak_with_1 ix)) (.ret (.con .non)))))⟩
def cb_one_leak_1 (ix : Nat → Nat) : CS := (.seq (.asg (.nm 8) (.call (ix 97) (.cons (.var 0) (.cons (.var 5) (.cons (.var 6) (.cons (.var 7) .nil)))))) (.ife (.cmp .isnot (.var 8) (.con .non)) (.ret (.var 8)) .skip))
def cf_one_leak (ix : Nat → Nat) : CF := ⟨5, 9, (.seq (.expr (.call (ix 32) (.cons (.var 0) .nil))) (.seq (.expr (.call (ix 85) (.cons (.var 1) .nil))) (.seq (.expr (.call (ix 86) (.cons (.var 2) .nil))) (.seq (.expr (.call (ix 85) (.cons (.var 3) .nil))) (.seq (.ife (.cmp .eq (.var 3) (.var 1)) (.rais 6 (.con .non)) .skip) (.seq (.expr (.call (ix 86) (.cons (.var 4) .nil))) (.seq (.asg (.nm 5) (.call (ix 34) (.cons (.var 0) .nil))) (.seq (.asg (.nm 6) .nil) (.seq (.fr (.nm 7) (.one (.call (ix 96) (.cons (.var 5) (.cons (.var 6) .nil)))) (cb_one_leak_1 ix)) (.ret (.con .non)))))))))))⟩
def cf_is_day (ix : Nat → Nat) : CF := ⟨1, 1, (.seq (.ife (.or (.not (.isi (.var 0) .tup)) (.or (.cmp .ne (.blt .len (.cons (.var 0) .nil)) (.con (.int 3))) (.not (.call (ix 27) (.cons (.idx (.var 0) (.con (.int 2))) .nil))))) (.ret (.con (.bl false))) .skip) (.seq (.ife (.or (.cmp .is (.idx (.var 0) (.con (.int 0))) (.con .non)) (.cmp .is (.idx (.var 0) (.con (.int 1))) (.con .non))) (.ret (.and (.cmp .is (.idx (.var 0) (.con (.int 0))) (.con .non)) (.cmp .is (.idx (.var 0) (.con (.int 1))) (.con .non)))) .skip) (.ret (.and (.call (ix 28) (.cons (.idx (.var 0) (.con (.int 0))) .nil)) (.call (ix 28) (.cons (.idx (.var 0) (.con (.int 1))) .nil))))))⟩
def cf_check_day (ix : Nat → Nat) : CF := ⟨1, 1, (.ife (.not (.call (ix 99) (.cons (.var 0) .nil))) (.rais 9 (.con .non)) .skip)⟩
def cf_day_by (ix : Nat → Nat) : CF := ⟨2, 7, (.seq (.asg (.tp (.cons (.nm 2) (.cons (.nm 3) .nil))) (.var 0)) (.seq (.ife (.cmp .is (.var 3) (.con .non)) (.ret (.tup (.cons (.con .non) (.cons (.con .non) (.cons (.call (ix 5) (.cons (.var 1) (.cons (.var 2) .nil))) .nil))))) .skip) (.seq (.asg (.tp (.cons (.nm 4) (.cons (.nm 5) (.cons (.nm 6) .nil)))) (.var 3)) (.ret (.tup (.cons (.call (ix 5) (.cons (.var 4) (.cons (.var 6) .nil))) (.cons (.call (ix 5) (.cons (.var 5) (.cons (.var 6) .nil))) (.cons (.call (ix 5) (.cons (.var 1) (.cons (.call (ix 5) (.cons (.var 4) (.cons (.var 5) .nil))) .nil))) .nil))))))))⟩
def cf_day_of (ix : Nat → Nat) : CF := ⟨2, 2, (.seq (.expr (.call (ix 32) (.cons (.var 0) .nil))) (.seq (.expr (.call (ix 65) (.cons (.var 0) (.cons (.var 1) .nil)))) (.ret (.call (ix 101) (.cons (.call (ix 68) (.cons (.var 0) (.cons (.var 1) .nil))) (.cons (.idx (.var 0) (.con (.int 1))) .nil))))))⟩
def cf_four_of (ix : Nat → Nat) : CF := ⟨2, 7, (.seq (.asg (.tp (.cons (.nm 2) (.cons (.nm 3) (.cons (.nm 4) .nil)))) (.var 1)) (.seq (.asg (.nm 5) (.call (ix 92) (.cons (.call (ix 6) (.cons (.call (ix 5) (.cons (.call (ix 5) (.cons (.var 2) (.cons (.var 3) .nil))) (.cons (.idx (.var 0) (.con (.int 1))) .nil))) (.cons (.var 4) .nil))) .nil))) (.seq (.asg (.nm 6) (.call (ix 6) (.cons (.call (ix 5) (.cons (.idx (.var 0) (.con (.int 1))) (.cons (.call (ix 34) (.cons (.var 0) .nil)) .nil))) (.cons (.var 4) .nil)))) (.ret (.tup (.cons (.call (ix 6) (.cons (.var 2) (.cons (.var 5) .nil))) (.cons (.call (ix 6) (.cons (.var 3) (.cons (.var 5) .nil))) (.cons (.var 5) (.cons (.var 6) .nil)))))))))⟩
def cf_fault_in (ix : Nat → Nat) : CF := ⟨1, 5, (.seq (.asg (.tp (.cons (.nm 1) (.cons (.nm 2) (.cons (.nm 3) (.cons (.nm 4) .nil))))) (.var 0)) (.seq (.ife (.call (ix 9) (.cons (.var 4) (.cons (.con (.tup [(.int 0), (.int 1)])) .nil))) (.ret (.con (.str "loop"))) .skip) (.seq (.ife (.not (.call (ix 9) (.cons (.con (.tup [(.int 0), (.int 1)])) (.cons (.var 3) .nil)))) (.ret (.con (.str "earth"))) .skip) (.seq (.ife (.call (ix 9) (.cons (.var 1) (.cons (.con (.tup [(.int 0), (.int 1)])) .nil))) (.ret (.con (.str "west"))) .skip) (.seq (.ife (.call (ix 9) (.cons (.var 2) (.cons (.con (.tup [(.int 0), (.int 1)])) .nil))) (.ret (.con (.str "east"))) .skip) (.seq (.ife (.call (ix 9) (.cons (.call (ix 7) (.cons (.var 1) (.cons (.var 2) .nil))) (.cons (.call (ix 7) (.cons (.var 3) (.cons (.var 4) .nil))) .nil))) (.ret (.con (.str "lack"))) .skip) (.ret (.con .non))))))))⟩
def cf_kind_by (ix : Nat → Nat) : CF := ⟨2, 4, (.seq (.ife (.cmp .is (.idx (.var 1) (.con (.int 0))) (.con .non)) (.seq (.ife (.cmp .eq (.idx (.var 1) (.con (.int 2))) (.call (ix 5) (.cons (.idx (.var 0) (.con (.int 1))) (.cons (.call (ix 34) (.cons (.var 0) .nil)) .nil)))) (.ret (.tup (.cons (.con (.str "sound")) .nil))) .skip) (.ret (.tup (.cons (.con (.str "wrong")) (.cons (.con (.str "loop")) .nil))))) .skip) (.seq (.asg (.nm 2) (.call (ix 103) (.cons (.var 0) (.cons (.var 1) .nil)))) (.seq (.asg (.nm 3) (.call (ix 104) (.cons (.var 2) .nil))) (.seq (.ife (.cmp .isnot (.var 3) (.con .non)) (.ret (.tup (.cons (.con (.str "wrong")) (.cons (.var 3) .nil)))) .skip) (.seq (.ife (.cmp .eq (.idx (.var 2) (.con (.int 3))) (.con (.tup [(.int 0), (.int 1)]))) (.ret (.tup (.cons (.con (.str "one")) (.cons (.tup (.cons (.call (ix 44) (.cons (.var 0) (.cons (.idx (.var 2) (.con (.int 0))) .nil))) (.cons (.idx (.var 2) (.con (.int 2))) .nil))) .nil)))) .skip) (.ret (.tup (.cons (.con (.str "two")) .nil))))))))⟩
def cf_seen_of (ix : Nat → Nat) : CF := ⟨2, 2, (.seq (.ife (.cmp .is (.idx (.var 1) (.con (.int 0))) (.con .non)) (.ret (.con .non)) .skip) (.ret (.sl (.call (ix 103) (.cons (.var 0) (.cons (.var 1) .nil))) .nil (.one (.con (.int 3))))))⟩
def cf_seen_by (ix : Nat → Nat) : CF := ⟨2, 2, (.seq (.expr (.call (ix 32) (.cons (.var 0) .nil))) (.seq (.expr (.call (ix 100) (.cons (.var 1) .nil))) (.seq (.ife (.cmp .eq (.idx (.call (ix 105) (.cons (.var 0) (.cons (.var 1) .nil))) (.con (.int 0))) (.con (.str "wrong"))) (.rais 9 (.con .non)) .skip) (.ret (.call (ix 106) (.cons (.var 0) (.cons (.var 1) .nil)))))))⟩
def cf_law_star (ix : Nat → Nat) : CF := ⟨2, 7, (.seq (.asg (.tp (.cons (.nm 2) (.cons (.nm 3) (.cons (.nm 4) .nil)))) (.var 1)) (.seq (.asg (.nm 5) (.call (ix 40) (.cons (.call (ix 47) (.cons (.call (ix 39) (.cons (.call (ix 39) (.cons (.var 2) (.cons (.var 3) .nil))) (.cons (.idx (.var 0) (.con (.int 1))) .nil))) (.cons (.var 4) .nil))) (.cons (.tup (.cons (.con (.int 1)) (.cons (.con (.int 2)) .nil))) .nil)))) (.seq (.asg (.nm 6) (.call (ix 47) (.cons (.call (ix 39) (.cons (.idx (.var 0) (.con (.int 1))) (.cons (.call (ix 50) (.cons (.var 0) .nil)) .nil))) (.cons (.var 4) .nil)))) (.ret (.tup (.cons (.call (ix 47) (.cons (.var 2) (.cons (.var 5) .nil))) (.cons (.call (ix 47) (.cons (.var 3) (.cons (.var 5) .nil))) (.cons (.var 5) (.cons (.var 6) .nil)))))))))⟩
def cf_kind_of (ix : Nat → Nat) : CF := ⟨2, 2, (.seq (.expr (.call (ix 32) (.cons (.var 0) .nil))) (.seq (.expr (.call (ix 100) (.cons (.var 1) .nil))) (.ret (.call (ix 105) (.cons (.var 0) (.cons (.var 1) .nil))))))⟩
def cf_check_two (ix : Nat → Nat) : CF := ⟨2, 3, (.seq (.expr (.call (ix 100) (.cons (.var 1) .nil))) (.seq (.asg (.nm 2) (.call (ix 105) (.cons (.var 0) (.cons (.var 1) .nil)))) (.seq (.ife (.cmp .eq (.idx (.var 2) (.con (.int 0))) (.con (.str "wrong"))) (.rais 9 (.con .non)) .skip) (.seq (.ife (.cmp .ne (.idx (.var 2) (.con (.int 0))) (.con (.str "two"))) (.rais 10 (.con .non)) .skip) (.ret (.call (ix 103) (.cons (.var 0) (.cons (.var 1) .nil))))))))⟩
def cf_spans_by (ix : Nat → Nat) : CF := ⟨2, 8, (.seq (.asg (.tp (.cons (.nm 2) (.cons (.nm 3) (.cons (.nm 4) (.cons (.nm 5) .nil))))) (.var 1)) (.seq (.asg (.tp (.cons (.nm 6) (.cons (.nm 7) .nil))) (.tup (.cons (.call (ix 34) (.cons (.var 0) .nil)) (.cons (.call (ix 7) (.cons (.var 4) (.cons (.var 5) .nil))) .nil)))) (.ret (.tup (.cons (.tup (.cons (.con (.tup [(.int 0), (.int 1)])) (.cons (.call (ix 6) (.cons (.var 2) (.cons (.call (ix 8) (.cons (.var 7) (.cons (.var 3) .nil))) .nil))) .nil))) (.cons (.tup (.cons (.call (ix 5) (.cons (.call (ix 6) (.cons (.var 6) (.cons (.var 3) .nil))) (.cons (.call (ix 8) (.cons (.var 7) (.cons (.var 2) .nil))) .nil))) (.cons (.var 6) .nil))) .nil))))))⟩
def cf_partner_by (ix : Nat → Nat) : CF := ⟨3, 10, (.seq (.asg (.tp (.cons (.nm 3) (.cons (.nm 4) (.cons (.nm 5) (.cons (.nm 6) .nil))))) (.var 1)) (.seq (.asg (.nm 7) (.call (ix 6) (.cons (.var 3) (.cons (.var 2) .nil)))) (.seq (.asg (.nm 8) (.call (ix 8) (.cons (.call (ix 7) (.cons (.var 5) (.cons (.var 6) .nil))) (.cons (.var 7) .nil)))) (.seq (.asg (.nm 9) (.call (ix 5) (.cons (.var 6) (.cons (.call (ix 5) (.cons (.var 7) (.cons (.var 8) .nil))) .nil)))) (.ret (.tup (.cons (.var 2) (.cons (.call (ix 8) (.cons (.call (ix 7) (.cons (.var 7) (.cons (.var 9) .nil))) (.cons (.var 6) .nil))) (.cons (.call (ix 5) (.cons (.var 2) (.cons (.var 9) .nil))) (.cons (.call (ix 8) (.cons (.call (ix 7) (.cons (.var 8) (.cons (.var 9) .nil))) (.cons (.var 6) .nil))) .nil))))))))))⟩
def cf_partner_west (ix : Nat → Nat) : CF := ⟨3, 8, (.seq (.asg (.tp (.cons (.nm 3) (.cons (.nm 4) (.cons (.nm 5) (.cons (.nm 6) .nil))))) (.var 1)) (.seq (.asg (.nm 7) (.call (ix 6) (.cons (.var 4) (.cons (.call (ix 6) (.cons (.call (ix 34) (.cons (.var 0) .nil)) (.cons (.var 2) .nil))) .nil)))) (.ret (.call (ix 6) (.cons (.var 3) (.cons (.call (ix 8) (.cons (.call (ix 7) (.cons (.var 5) (.cons (.var 6) .nil))) (.cons (.var 7) .nil))) .nil))))))⟩
def cf_drag_within (ix : Nat → Nat) : CF := ⟨3, 4, (.seq (.expr (.call (ix 42) (.cons (.var 0) (.cons (.var 2) .nil)))) (.seq (.asg (.nm 3) (.call (ix 43) (.cons (.var 0) (.cons (.var 2) .nil)))) (.seq (.ife (.or (.call (ix 9) (.cons (.var 3) (.cons (.idx (.var 1) (.con (.int 0))) .nil))) (.call (ix 9) (.cons (.idx (.var 1) (.con (.int 1))) (.cons (.var 3) .nil)))) (.rais 8 (.con .non)) .skip) (.ret (.var 3)))))⟩
def cf_places_with (ix : Nat → Nat) : CF := ⟨2, 2, (.ret (.tup (.cons (.call (ix 44) (.cons (.var 0) (.cons (.idx (.var 1) (.con (.int 0))) .nil))) (.cons (.call (ix 44) (.cons (.var 0) (.cons (.idx (.var 1) (.con (.int 1))) .nil))) .nil))))⟩
def cf_west_span (ix : Nat → Nat) : CF := ⟨2, 2, (.seq (.expr (.call (ix 32) (.cons (.var 0) .nil))) (.ret (.call (ix 115) (.cons (.var 0) (.cons (.idx (.call (ix 111) (.cons (.var 0) (.cons (.call (ix 110) (.cons (.var 0) (.cons (.var 1) .nil))) .nil))) (.con (.int 0))) .nil)))))⟩
def cf_east_span (ix : Nat → Nat) : CF := ⟨2, 2, (.seq (.expr (.call (ix 32) (.cons (.var 0) .nil))) (.ret (.call (ix 115) (.cons (.var 0) (.cons (.idx (.call (ix 111) (.cons (.var 0) (.cons (.call (ix 110) (.cons (.var 0) (.cons (.var 1) .nil))) .nil))) (.con (.int 1))) .nil)))))⟩
def cf_pair_at (ix : Nat → Nat) : CF := ⟨3, 8, (.seq (.expr (.call (ix 32) (.cons (.var 0) .nil))) (.seq (.asg (.nm 3) (.call (ix 110) (.cons (.var 0) (.cons (.var 1) .nil)))) (.seq (.asg (.nm 4) (.call (ix 114) (.cons (.var 0) (.cons (.idx (.call (ix 111) (.cons (.var 0) (.cons (.var 3) .nil))) (.con (.int 0))) (.cons (.var 2) .nil))))) (.seq (.asg (.tp (.cons (.nm 4) (.cons (.nm 5) (.cons (.nm 6) (.cons (.nm 7) .nil))))) (.call (ix 112) (.cons (.var 0) (.cons (.var 3) (.cons (.var 4) .nil))))) (.ret (.tup (.cons (.tup (.cons (.var 2) (.cons (.var 5) .nil))) (.cons (.tup (.cons (.call (ix 44) (.cons (.var 0) (.cons (.var 6) .nil))) (.cons (.var 7) .nil))) .nil))))))))⟩
def cf_east_of (ix : Nat → Nat) : CF := ⟨3, 3, (.ret (.idx (.idx (.call (ix 118) (.cons (.var 0) (.cons (.var 1) (.cons (.var 2) .nil)))) (.con (.int 1))) (.con (.int 0))))⟩
def cf_west_of (ix : Nat → Nat) : CF := ⟨3, 5, (.seq (.expr (.call (ix 32) (.cons (.var 0) .nil))) (.seq (.asg (.nm 3) (.call (ix 110) (.cons (.var 0) (.cons (.var 1) .nil)))) (.seq (.asg (.nm 4) (.call (ix 114) (.cons (.var 0) (.cons (.idx (.call (ix 111) (.cons (.var 0) (.cons (.var 3) .nil))) (.con (.int 1))) (.cons (.var 2) .nil))))) (.ret (.call (ix 44) (.cons (.var 0) (.cons (.call (ix 113) (.cons (.var 0) (.cons (.var 3) (.cons (.var 4) .nil)))) .nil)))))))⟩
def cf_law_partner (ix : Nat → Nat) : CF := ⟨3, 7, (.seq (.asg (.nm 3) (.call (ix 47) (.cons (.idx (.var 1) (.con (.int 0))) (.cons (.var 2) .nil)))) (.seq (.asg (.nm 4) (.call (ix 48) (.cons (.call (ix 40) (.cons (.idx (.var 1) (.con (.int 2))) (.cons (.idx (.var 1) (.con (.int 3))) .nil))) (.cons (.var 3) .nil)))) (.seq (.asg (.nm 5) (.call (ix 39) (.cons (.idx (.var 1) (.con (.int 3))) (.cons (.call (ix 39) (.cons (.var 3) (.cons (.var 4) .nil))) .nil)))) (.seq (.asg (.nm 6) (.call (ix 48) (.cons (.call (ix 40) (.cons (.var 3) (.cons (.var 5) .nil))) (.cons (.idx (.var 1) (.con (.int 3))) .nil)))) (.ret (.tup (.cons (.var 2) (.cons (.var 6) (.cons (.call (ix 47) (.cons (.idx (.var 1) (.con (.int 1))) (.cons (.var 4) .nil))) (.cons (.call (ix 48) (.cons (.call (ix 40) (.cons (.var 4) (.cons (.var 5) .nil))) (.cons (.idx (.var 1) (.con (.int 3))) .nil))) .nil))))))))))⟩
def cb_law_pair_1 (ix : Nat → Nat) : CS := (.set (.var 6) (.var 7) (.call (ix 21) (.cons (.bin .add (.con (.int 1)) (.call (ix 19) (.cons (.var 0) (.cons (.con (.int 60)) .nil)))) (.cons (.idx (.lst (.cons (.con (.int 1)) (.cons (.con (.int 1)) (.cons (.con (.int 2)) (.cons (.con (.int 7)) .nil))))) (.call (ix 19) (.cons (.var 0) (.cons (.con (.int 4)) .nil)))) .nil))))
def cf_law_pair (ix : Nat → Nat) : CF := ⟨2, 9, (.seq (.asg (.nm 2) (.comp (.idx (.var 8) (.con (.int 0))) (.nm 8) (.one (.idx (.var 1) (.con (.int 0)))) (.con (.bl true)) [8] false)) (.seq (.asg (.nm 3) (.bin .mul (.con (.int 6)) (.blt .sum (.cons (.var 2) .nil)))) (.seq (.asg (.nm 4) (.idx (.lst (.cons (.call (ix 19) (.cons (.var 0) (.cons (.var 3) .nil))) (.cons (.con (.int 0)) (.cons (.bin .mul (.con (.int 6)) (.blt .sum (.cons (.sl (.var 2) .nil (.one (.call (ix 19) (.cons (.var 0) (.cons (.blt .len (.cons (.var 2) .nil)) .nil))))) .nil))) .nil)))) (.call (ix 19) (.cons (.var 0) (.cons (.con (.int 3)) .nil))))) (.seq (.asg (.nm 5) (.idx (.lst (.cons (.bin .add (.bin .add (.var 4) (.con (.int 1))) (.call (ix 19) (.cons (.var 0) (.cons (.bin .sub (.var 3) (.var 4)) .nil)))) (.cons (.var 3) .nil))) (.blt .int (.cons (.cmp .eq (.call (ix 19) (.cons (.var 0) (.cons (.con (.int 4)) .nil))) (.con (.int 1))) .nil)))) (.seq (.asg (.nm 6) .mdk) (.seq (.fr (.nm 7) (.one (.lst (.cons (.var 4) (.cons (.var 5) .nil)))) (cb_law_pair_1 ix)) (.ret (.var 6))))))))⟩
def cf_law_listed (ix : Nat → Nat) : CF := ⟨1, 2, (.ret (.blt .tuple (.cons (.comp (.tup (.cons (.call (ix 21) (.cons (.var 1) (.cons (.con (.int 6)) .nil))) (.cons (.idx (.var 0) (.var 1)) .nil))) (.nm 1) (.one (.blt .sorted (.cons (.var 0) .nil))) (.con (.bl true)) [1] false) .nil)))⟩
def cb_law_two_more_1 (ix : Nat → Nat) : CS := (.expr (.setd (.var 2) (.call (ix 64) (.cons (.var 0) (.cons (.var 1) .nil))) (.tup (.cons (.bin .add (.con (.int 1)) (.call (ix 19) (.cons (.var 0) (.cons (.con (.int 60)) .nil)))) (.cons (.con (.int 1)) .nil)))))
def cf_law_two_more (ix : Nat → Nat) : CF := ⟨2, 4, (.seq (.asg (.nm 2) (.call (ix 122) (.cons (.var 0) (.cons (.var 1) .nil)))) (.seq (.fr (.nm 3) (.rng (.con (.int 0)) (.idx (.lst (.cons (.con (.int 0)) (.cons (.con (.int 0)) (.cons (.con (.int 2)) .nil)))) (.call (ix 19) (.cons (.var 0) (.cons (.con (.int 3)) .nil))))) (cb_law_two_more_1 ix)) (.ret (.call (ix 123) (.cons (.var 2) .nil)))))⟩
def cf_law_spans (ix : Nat → Nat) : CF := ⟨2, 9, (.seq (.asg (.tp (.cons (.nm 2) (.cons (.nm 3) (.cons (.nm 4) (.cons (.nm 5) .nil))))) (.var 1)) (.seq (.asg (.tp (.cons (.nm 6) (.cons (.nm 7) .nil))) (.tup (.cons (.call (ix 40) (.cons (.var 4) (.cons (.var 5) .nil))) (.cons (.call (ix 50) (.cons (.var 0) .nil)) .nil)))) (.seq (.asg (.nm 8) (.call (ix 39) (.cons (.call (ix 47) (.cons (.var 7) (.cons (.var 3) .nil))) (.cons (.call (ix 48) (.cons (.var 6) (.cons (.var 2) .nil))) .nil)))) (.ret (.lst (.cons (.tup (.cons (.tup (.cons (.con (.int 0)) (.cons (.con (.int 1)) .nil))) (.cons (.call (ix 47) (.cons (.var 2) (.cons (.call (ix 48) (.cons (.var 6) (.cons (.var 3) .nil))) .nil))) .nil))) (.cons (.tup (.cons (.var 8) (.cons (.var 7) .nil))) .nil)))))))⟩
def cb_law_spots_1 (ix : Nat → Nat) : CS := (.seq (.asg (.nm 6) (.bin .add (.con (.int 2)) (.call (ix 19) (.cons (.var 0) (.cons (.con (.int 11)) .nil))))) (.expr (.mth .append (.var 4) (.cons (.call (ix 39) (.cons (.idx (.var 1) (.con (.int 0))) (.cons (.call (ix 40) (.cons (.var 3) (.cons (.call (ix 21) (.cons (.bin .add (.con (.int 1)) (.call (ix 19) (.cons (.var 0) (.cons (.bin .sub (.var 6) (.con (.int 1))) .nil)))) (.cons (.var 6) .nil))) .nil))) .nil))) .nil))))
def cf_law_spots (ix : Nat → Nat) : CF := ⟨3, 7, (.seq (.asg (.nm 3) (.call (ix 47) (.cons (.idx (.var 1) (.con (.int 1))) (.cons (.idx (.var 1) (.con (.int 0))) .nil)))) (.seq (.asg (.nm 4) (.mlst (.cons (.idx (.var 1) (.con (.int 0))) (.cons (.idx (.var 1) (.con (.int 1))) .nil)))) (.seq (.fr (.nm 5) (.rng (.con (.int 0)) (.var 2)) (cb_law_spots_1 ix)) (.retF 4))))⟩
def cf_check_splice (ix : Nat → Nat) : CF := ⟨2, 2, (.ife (.or (.not (.call (ix 0) (.cons (.var 1) .nil))) (.not (.chain .le .lt (.con (.int 1)) (.var 1) (.blt .len (.cons (.idx (.var 0) (.con (.int 0))) .nil))))) (.rais 11 (.con .non)) .skip)⟩
def cf_part_cables (ix : Nat → Nat) : CF := ⟨2, 4, (.seq (.asg (.tp (.cons (.nm 2) (.cons (.nm 3) .nil))) (.var 0)) (.ret (.tup (.cons (.tup (.cons (.sl (.var 2) .nil (.one (.var 1))) (.cons (.var 3) .nil))) (.cons (.tup (.cons (.sl (.var 2) (.one (.var 1)) .nil) (.cons (.var 3) .nil))) .nil)))))⟩
def cf_parts (ix : Nat → Nat) : CF := ⟨2, 2, (.seq (.expr (.call (ix 32) (.cons (.var 0) .nil))) (.seq (.expr (.call (ix 127) (.cons (.var 0) (.cons (.var 1) .nil)))) (.ret (.call (ix 128) (.cons (.var 0) (.cons (.var 1) .nil))))))⟩
def cf_leaks_parted (ix : Nat → Nat) : CF := ⟨3, 9, (.seq (.expr (.call (ix 32) (.cons (.var 0) .nil))) (.seq (.expr (.call (ix 65) (.cons (.var 0) (.cons (.var 1) .nil)))) (.seq (.expr (.call (ix 127) (.cons (.var 0) (.cons (.var 2) .nil)))) (.seq (.asg (.nm 3) (.tup (.cons (.idx (.call (ix 35) (.cons (.var 0) .nil)) (.bin .sub (.var 2) (.con (.int 1)))) (.cons (.con (.int 1)) .nil)))) (.seq (.asg (.nm 4) (.blt .tuple (.cons (.comp (.var 6) (.nm 6) (.one (.var 1)) (.not (.call (ix 9) (.cons (.var 3) (.cons (.idx (.var 6) (.con (.int 0))) .nil)))) [6] false) .nil))) (.seq (.asg (.nm 5) (.blt .tuple (.cons (.comp (.tup (.cons (.call (ix 6) (.cons (.var 7) (.cons (.var 3) .nil))) (.cons (.var 8) .nil))) (.tp (.cons (.nm 7) (.cons (.nm 8) .nil))) (.one (.var 1)) (.call (ix 9) (.cons (.var 3) (.cons (.var 7) .nil))) [7, 8] false) .nil))) (.ret (.tup (.cons (.var 4) (.cons (.var 5) .nil))))))))))⟩
def cf_east_drag (ix : Nat → Nat) : CF := ⟨3, 3, (.ret (.call (ix 5) (.cons (.call (ix 6) (.cons (.var 0) (.cons (.idx (.var 1) (.con (.int 1))) .nil))) (.cons (.call (ix 8) (.cons (.call (ix 7) (.cons (.idx (.var 1) (.con (.int 2))) (.cons (.idx (.var 1) (.con (.int 3))) .nil))) (.cons (.call (ix 6) (.cons (.idx (.var 1) (.con (.int 0))) (.cons (.var 2) .nil))) .nil))) .nil))))⟩
def cf_west_drag (ix : Nat → Nat) : CF := ⟨3, 4, (.seq (.asg (.nm 3) (.call (ix 6) (.cons (.idx (.var 1) (.con (.int 1))) (.cons (.call (ix 6) (.cons (.var 0) (.cons (.var 2) .nil))) .nil)))) (.seq (.ife (.not (.call (ix 28) (.cons (.var 3) .nil))) (.ret (.con .non)) .skip) (.ret (.call (ix 6) (.cons (.idx (.var 1) (.con (.int 0))) (.cons (.call (ix 8) (.cons (.call (ix 7) (.cons (.idx (.var 1) (.con (.int 2))) (.cons (.idx (.var 1) (.con (.int 3))) .nil))) (.cons (.var 3) .nil))) .nil))))))⟩
def cf_next_cut (ix : Nat → Nat) : CF := ⟨4, 7, (.seq (.asg (.nm 4) (.comp (.var 6) (.nm 6) (.rng (.con (.int 0)) (.blt .len (.cons (.var 0) .nil))) (.not (.call (ix 9) (.cons (.idx (.var 0) (.var 6)) (.cons (.var 3) .nil)))) [6] false)) (.seq (.ife (.and (.cmp .ne (.var 4) (.lst .nil)) (.call (ix 9) (.cons (.idx (.var 0) (.idx (.var 4) (.con (.int 0)))) (.cons (.call (ix 131) (.cons (.var 1) (.cons (.var 2) (.cons (.var 3) .nil)))) .nil)))) (.ret (.tup (.cons (.idx (.var 4) (.con (.int 0))) (.cons (.var 3) .nil)))) .skip) (.seq (.asg (.nm 5) (.bin .sub (.blt .len (.cons (.var 0) .nil)) (.blt .len (.cons (.var 4) .nil)))) (.seq (.ife (.cmp .eq (.var 5) (.con (.int 0))) (.ret (.con .non)) .skip) (.ret (.tup (.cons (.bin .sub (.var 5) (.con (.int 1))) (.cons (.idx (.var 0) (.bin .sub (.var 5) (.con (.int 1)))) .nil))))))))⟩
def cb_cover_by_1 (ix : Nat → Nat) : CS := (.seq (.asg (.nm 7) (.call (ix 133) (.cons (.var 3) (.cons (.var 2) (.cons (.var 1) (.cons (.var 6) .nil)))))) (.seq (.ife (.cmp .is (.var 7) (.con .non)) .brk .skip) (.seq (.expr (.mth .append (.var 4) (.cons (.bin .add (.idx (.var 7) (.con (.int 0))) (.con (.int 1))) .nil))) (.seq (.expr (.mth .append (.var 5) (.cons (.idx (.var 7) (.con (.int 1))) .nil))) (.asg (.nm 6) (.call (ix 132) (.cons (.var 2) (.cons (.var 1) (.cons (.idx (.var 3) (.idx (.var 7) (.con (.int 0)))) .nil)))))))))
def cf_cover_by (ix : Nat → Nat) : CF := ⟨2, 9, (.seq (.asg (.nm 2) (.call (ix 34) (.cons (.var 0) .nil))) (.seq (.asg (.nm 3) (.comp (.call (ix 43) (.cons (.var 0) (.cons (.tup (.cons (.var 8) (.cons (.con (.int 1)) .nil))) .nil))) (.nm 8) (.one (.call (ix 35) (.cons (.var 0) .nil))) (.con (.bl true)) [8] false)) (.seq (.asg (.tp (.cons (.nm 4) (.cons (.nm 5) .nil))) (.tup (.cons (.mlst .nil) (.cons (.mlst .nil) .nil)))) (.seq (.asg (.nm 6) (.call (ix 6) (.cons (.idx (.var 1) (.con (.int 0))) (.cons (.call (ix 8) (.cons (.call (ix 7) (.cons (.idx (.var 1) (.con (.int 2))) (.cons (.idx (.var 1) (.con (.int 3))) .nil))) (.cons (.idx (.var 1) (.con (.int 1))) .nil))) .nil)))) (.seq (.whl (.and (.cmp .isnot (.var 6) (.con .non)) (.not (.call (ix 9) (.cons (.var 6) (.cons (.con (.tup [(.int 0), (.int 1)])) .nil))))) (cb_cover_by_1 ix)) (.seq (.expr (.mth .reverse (.var 4) .nil)) (.seq (.expr (.mth .reverse (.var 5) .nil)) (.ret (.tup (.cons (.blt .tuple (.cons (.var 4) .nil)) (.cons (.blt .tuple (.cons (.var 5) .nil)) .nil)))))))))))⟩
def cf_cover_of (ix : Nat → Nat) : CF := ⟨2, 6, (.seq (.expr (.call (ix 32) (.cons (.var 0) .nil))) (.seq (.asg (.nm 2) (.call (ix 110) (.cons (.var 0) (.cons (.var 1) .nil)))) (.seq (.asg (.tp (.cons (.nm 3) (.cons (.nm 4) .nil))) (.call (ix 134) (.cons (.var 0) (.cons (.var 2) .nil)))) (.ret (.tup (.cons (.var 3) (.cons (.blt .tuple (.cons (.comp (.call (ix 44) (.cons (.var 0) (.cons (.var 5) .nil))) (.nm 5) (.one (.var 4)) (.con (.bl true)) [5] false) .nil)) .nil)))))))⟩
def cf_law_east (ix : Nat → Nat) : CF := ⟨3, 4, (.seq (.asg (.nm 3) (.call (ix 47) (.cons (.idx (.var 1) (.con (.int 0))) (.cons (.var 2) .nil)))) (.ret (.call (ix 39) (.cons (.call (ix 47) (.cons (.call (ix 50) (.cons (.var 0) .nil)) (.cons (.idx (.var 1) (.con (.int 1))) .nil))) (.cons (.call (ix 48) (.cons (.call (ix 40) (.cons (.idx (.var 1) (.con (.int 2))) (.cons (.idx (.var 1) (.con (.int 3))) .nil))) (.cons (.var 3) .nil))) .nil)))))⟩
def cf_law_west (ix : Nat → Nat) : CF := ⟨3, 5, (.seq (.asg (.nm 3) (.call (ix 47) (.cons (.idx (.var 1) (.con (.int 1))) (.cons (.call (ix 47) (.cons (.call (ix 50) (.cons (.var 0) .nil)) (.cons (.var 2) .nil))) .nil)))) (.seq (.ife (.cmp .lt (.idx (.var 3) (.con (.int 0))) (.con (.int 1))) (.ret (.con .non)) .skip) (.seq (.asg (.nm 4) (.call (ix 47) (.cons (.idx (.var 1) (.con (.int 0))) (.cons (.call (ix 48) (.cons (.call (ix 40) (.cons (.idx (.var 1) (.con (.int 2))) (.cons (.idx (.var 1) (.con (.int 3))) .nil))) (.cons (.var 3) .nil))) .nil)))) (.ret (.idx (.lst (.cons (.var 4) (.cons (.con .non) .nil))) (.blt .int (.cons (.cmp .lt (.idx (.var 4) (.con (.int 0))) (.con (.int 0))) .nil)))))))⟩
def cb_law_splices_1 (ix : Nat → Nat) : CS := (.seq (.asg (.nm 2) (.bin .add (.var 2) (.var 3))) (.expr (.mth .append (.var 1) (.cons (.call (ix 72) (.cons (.var 0) (.cons (.tup (.cons (.var 2) (.cons (.con (.int 1)) .nil))) .nil))) .nil))))
def cf_law_splices (ix : Nat → Nat) : CF := ⟨1, 5, (.seq (.asg (.tp (.cons (.nm 1) (.cons (.nm 2) .nil))) (.tup (.cons (.mlst .nil) (.cons (.con (.int 0)) .nil)))) (.seq (.fr (.tp (.cons (.nm 3) (.cons (.nm 4) .nil))) (.one (.sl (.idx (.var 0) (.con (.int 0))) .nil (.one (.neg (.con (.int 1)))))) (cb_law_splices_1 ix)) (.retF 1)))⟩
def cf_law_most_west (ix : Nat → Nat) : CF := ⟨2, 2, (.ret (.call (ix 47) (.cons (.idx (.var 1) (.con (.int 0))) (.cons (.call (ix 48) (.cons (.call (ix 40) (.cons (.idx (.var 1) (.con (.int 2))) (.cons (.idx (.var 1) (.con (.int 3))) .nil))) (.cons (.idx (.var 1) (.con (.int 1))) .nil))) .nil))))⟩
def cb_law_two_1 (ix : Nat → Nat) : CS := (.expr (.mth .append (.var 9) (.cons (.call (ix 21) (.cons (.bin .add (.con (.int 1)) (.call (ix 19) (.cons (.var 0) (.cons (.idx (.lst (.cons (.con (.int 60)) (.cons (.con (.int 3)) (.cons (.con (.int 900)) .nil)))) (.call (ix 19) (.cons (.var 0) (.cons (.con (.int 3)) .nil)))) .nil)))) (.cons (.bin .add (.con (.int 1)) (.call (ix 19) (.cons (.var 0) (.cons (.con (.int 2)) .nil)))) .nil))) .nil)))
def cf_law_two (ix : Nat → Nat) : CF := ⟨2, 12, (.seq (.asg (.nm 2) (.comp (.idx (.var 11) (.con (.int 0))) (.nm 11) (.one (.idx (.var 1) (.con (.int 0)))) (.con (.bl true)) [11] false)) (.seq (.asg (.nm 3) (.bin .mul (.con (.int 6)) (.blt .sum (.cons (.var 2) .nil)))) (.seq (.asg (.nm 4) (.call (ix 19) (.cons (.var 0) (.cons (.var 3) .nil)))) (.seq (.asg (.nm 5) (.idx (.lst (.cons (.bin .sub (.var 3) (.var 4)) (.cons (.blt .min (.cons (.bin .sub (.var 3) (.var 4)) (.cons (.con (.int 60)) .nil))) (.cons (.blt .min (.cons (.bin .sub (.var 3) (.var 4)) (.cons (.con (.int 6)) .nil))) .nil)))) (.call (ix 19) (.cons (.var 0) (.cons (.con (.int 3)) .nil))))) (.seq (.asg (.nm 6) (.bin .add (.bin .add (.var 4) (.con (.int 1))) (.call (ix 19) (.cons (.var 0) (.cons (.var 5) .nil))))) (.seq (.ife (.cmp .eq (.call (ix 19) (.cons (.var 0) (.cons (.con (.int 4)) .nil))) (.con (.int 1))) (.seq (.asg (.nm 7) (.call (ix 19) (.cons (.var 0) (.cons (.blt .len (.cons (.var 2) .nil)) .nil)))) (.seq (.asg (.nm 8) (.bin .add (.bin .add (.var 7) (.con (.int 1))) (.call (ix 19) (.cons (.var 0) (.cons (.bin .sub (.blt .len (.cons (.var 2) .nil)) (.var 7)) .nil))))) (.asg (.tp (.cons (.nm 4) (.cons (.nm 6) .nil))) (.tup (.cons (.bin .mul (.con (.int 6)) (.blt .sum (.cons (.sl (.var 2) .nil (.one (.var 7))) .nil))) (.cons (.bin .mul (.con (.int 6)) (.blt .sum (.cons (.sl (.var 2) .nil (.one (.var 8))) .nil))) .nil)))))) .skip) (.seq (.asg (.nm 9) (.mlst .nil)) (.seq (.fr (.nm 10) (.rng (.con (.int 0)) (.con (.int 2))) (cb_law_two_1 ix)) (.ret (.tup (.cons (.tup (.cons (.call (ix 21) (.cons (.var 4) (.cons (.con (.int 6)) .nil))) (.cons (.idx (.var 9) (.con (.int 0))) .nil))) (.cons (.tup (.cons (.call (ix 21) (.cons (.var 6) (.cons (.con (.int 6)) .nil))) (.cons (.idx (.var 9) (.con (.int 1))) .nil))) .nil))))))))))))⟩
def cb_needed_for_1 (ix : Nat → Nat) : CS := (.asg (.tp (.cons (.nm 1) (.cons (.nm 2) .nil))) (.tup (.cons (.bin .add (.var 1) (.con (.int 1))) (.cons (.bin .mul (.var 2) (.con (.int 2))) .nil))))
def cf_needed_for (ix : Nat → Nat) : CF := ⟨1, 3, (.seq (.asg (.tp (.cons (.nm 1) (.cons (.nm 2) .nil))) (.tup (.cons (.con (.int 0)) (.cons (.con (.int 1)) .nil)))) (.seq (.whl (.cmp .le (.var 2) (.var 0)) (cb_needed_for_1 ix)) (.ret (.var 1))))⟩
def cf_cuts_needed (ix : Nat → Nat) : CF := ⟨2, 2, (.seq (.expr (.call (ix 32) (.cons (.var 0) .nil))) (.ret (.call (ix 141) (.cons (.blt .len (.cons (.idx (.call (ix 134) (.cons (.var 0) (.cons (.call (ix 110) (.cons (.var 0) (.cons (.var 1) .nil))) .nil))) (.con (.int 0))) .nil)) .nil))))⟩
def cf_stretch_told (ix : Nat → Nat) : CF := ⟨2, 2, (.ret (.tup (.cons (.call (ix 34) (.cons (.var 0) .nil)) (.cons (.call (ix 106) (.cons (.var 0) (.cons (.var 1) .nil))) .nil))))⟩
def cb_edge_drags_1 (ix : Nat → Nat) : CS := (.expr (.mth .append (.var 1) (.cons (.call (ix 5) (.cons (.idx (.var 1) (.neg (.con (.int 1)))) (.cons (.call (ix 7) (.cons (.tup (.cons (.var 2) (.cons (.con (.int 1)) .nil))) (.cons (.var 3) .nil))) .nil))) .nil)))
def cf_edge_drags (ix : Nat → Nat) : CF := ⟨1, 4, (.seq (.asg (.nm 1) (.mlst (.cons (.con (.tup [(.int 0), (.int 1)])) .nil))) (.seq (.fr (.tp (.cons (.nm 2) (.cons (.nm 3) .nil))) (.one (.idx (.var 0) (.con (.int 0)))) (cb_edge_drags_1 ix)) (.retF 1)))⟩
def cf_leak_moved (ix : Nat → Nat) : CF := ⟨2, 2, (.ret (.tup (.cons (.call (ix 5) (.cons (.idx (.var 0) (.con (.int 0))) (.cons (.tup (.cons (.var 1) (.cons (.con (.int 1)) .nil))) .nil))) (.cons (.idx (.var 0) (.con (.int 1))) .nil))))⟩
def cb_law_small_3_1 (ix : Nat → Nat) : CS := (.seq (.asg (.nm 5) (.bin .add (.con (.int 1)) (.call (ix 19) (.cons (.var 0) (.cons (.idx (.lst (.cons (.con (.int 9)) (.cons (.con (.int 40)) .nil))) (.blt .int (.cons (.cmp .eq (.call (ix 19) (.cons (.var 0) (.cons (.con (.int 6)) .nil))) (.con (.int 3))) .nil))) .nil))))) (.expr (.mth .append (.var 3) (.cons (.tup (.cons (.var 5) (.cons (.call (ix 21) (.cons (.bin .add (.con (.int 1)) (.call (ix 19) (.cons (.var 0) (.cons (.con (.int 9)) .nil)))) (.cons (.idx (.lst (.cons (.con (.int 1)) (.cons (.con (.int 1)) (.cons (.con (.int 1)) (.cons (.con (.int 2)) .nil))))) (.call (ix 19) (.cons (.var 0) (.cons (.con (.int 4)) .nil)))) .nil))) .nil))) .nil))))
def cf_law_small_3 (ix : Nat → Nat) : CF := ⟨3, 6, (.seq (.asg (.nm 3) (.mlst .nil)) (.seq (.fr (.nm 4) (.rng (.con (.int 0)) (.bin .add (.var 1) (.call (ix 19) (.cons (.var 0) (.cons (.bin .add (.bin .sub (.var 2) (.var 1)) (.con (.int 1))) .nil))))) (cb_law_small_3_1 ix)) (.ret (.tup (.cons (.blt .tuple (.cons (.var 3) .nil)) (.cons (.tup (.cons (.call (ix 19) (.cons (.var 0) (.cons (.con (.int 20)) .nil))) (.cons (.con (.int 1)) .nil))) .nil))))))⟩
def cf_law_pair_2 (ix : Nat → Nat) : CF := ⟨2, 12, (.seq (.asg (.nm 2) (.comp (.idx (.var 9) (.con (.int 0))) (.nm 9) (.one (.idx (.var 1) (.con (.int 0)))) (.con (.bl true)) [9] false)) (.seq (.asg (.nm 3) (.call (ix 19) (.cons (.var 0) (.cons (.bin .mul (.con (.int 6)) (.blt .sum (.cons (.var 2) .nil))) .nil)))) (.seq (.asg (.nm 4) (.bin .add (.bin .add (.var 3) (.con (.int 1))) (.call (ix 19) (.cons (.var 0) (.cons (.bin .sub (.bin .mul (.con (.int 6)) (.blt .sum (.cons (.var 2) .nil))) (.var 3)) .nil))))) (.seq (.asg (.nm 5) (.call (ix 19) (.cons (.var 0) (.cons (.con (.int 8)) .nil)))) (.seq (.asg (.nm 6) (.comp (.bin .mul (.con (.int 6)) (.blt .sum (.cons (.sl (.var 2) .nil (.one (.var 10))) .nil))) (.nm 10) (.rng (.con (.int 0)) (.bin .add (.blt .len (.cons (.var 2) .nil)) (.con (.int 1)))) (.con (.bl true)) [10] false)) (.seq (.ife (.or (.cmp .eq (.var 5) (.con (.int 0))) (.cmp .eq (.var 5) (.con (.int 1)))) (.seq (.asg (.nm 3) (.idx (.var 6) (.call (ix 19) (.cons (.var 0) (.cons (.blt .len (.cons (.var 2) .nil)) .nil))))) (.asg (.nm 4) (.bin .add (.bin .add (.var 3) (.con (.int 1))) (.call (ix 19) (.cons (.var 0) (.cons (.bin .sub (.bin .mul (.con (.int 6)) (.blt .sum (.cons (.var 2) .nil))) (.var 3)) .nil)))))) .skip) (.seq (.ife (.or (.cmp .eq (.var 5) (.con (.int 1))) (.cmp .eq (.var 5) (.con (.int 2)))) (.seq (.asg (.nm 7) (.comp (.var 11) (.nm 11) (.one (.var 6)) (.cmp .gt (.var 11) (.var 3)) [11] false)) (.asg (.nm 4) (.idx (.var 7) (.call (ix 19) (.cons (.var 0) (.cons (.blt .len (.cons (.var 7) .nil)) .nil)))))) .skip) (.seq (.asg (.nm 8) (.comp (.call (ix 21) (.cons (.bin .add (.con (.int 1)) (.call (ix 19) (.cons (.var 0) (.cons (.con (.int 30)) .nil)))) (.cons (.idx (.lst (.cons (.con (.int 1)) (.cons (.con (.int 1)) (.cons (.con (.int 2)) .nil)))) (.call (ix 19) (.cons (.var 0) (.cons (.con (.int 3)) .nil)))) .nil))) (.nm 10) (.rng (.con (.int 0)) (.con (.int 2))) (.con (.bl true)) [10] false)) (.ret (.tup (.cons (.tup (.cons (.call (ix 21) (.cons (.var 3) (.cons (.con (.int 6)) .nil))) (.cons (.idx (.var 8) (.con (.int 0))) .nil))) (.cons (.tup (.cons (.call (ix 21) (.cons (.var 4) (.cons (.con (.int 6)) .nil))) (.cons (.idx (.var 8) (.con (.int 1))) .nil))) .nil))))))))))))⟩
def cb_law_drags_1 (ix : Nat → Nat) : CS := (.expr (.mth .append (.var 1) (.cons (.call (ix 39) (.cons (.idx (.var 1) (.neg (.con (.int 1)))) (.cons (.call (ix 40) (.cons (.tup (.cons (.var 2) (.cons (.con (.int 1)) .nil))) (.cons (.var 3) .nil))) .nil))) .nil)))
def cf_law_drags (ix : Nat → Nat) : CF := ⟨1, 4, (.seq (.asg (.nm 1) (.mlst (.cons (.tup (.cons (.con (.int 0)) (.cons (.con (.int 1)) .nil))) .nil))) (.seq (.fr (.tp (.cons (.nm 2) (.cons (.nm 3) .nil))) (.one (.idx (.var 0) (.con (.int 0)))) (cb_law_drags_1 ix)) (.retF 1)))⟩
def cf_law_least (ix : Nat → Nat) : CF := ⟨3, 5, (.seq (.asg (.nm 3) (.call (ix 47) (.cons (.idx (.var 1) (.con (.int 1))) (.cons (.call (ix 47) (.cons (.call (ix 50) (.cons (.var 0) .nil)) (.cons (.var 2) .nil))) .nil)))) (.seq (.ife (.cmp .le (.idx (.var 3) (.con (.int 0))) (.con (.int 0))) (.ret (.tup (.cons (.neg (.con (.int 1))) (.cons (.con (.int 1)) .nil)))) .skip) (.seq (.asg (.nm 4) (.call (ix 47) (.cons (.idx (.var 1) (.con (.int 0))) (.cons (.call (ix 48) (.cons (.call (ix 40) (.cons (.idx (.var 1) (.con (.int 2))) (.cons (.idx (.var 1) (.con (.int 3))) .nil))) (.cons (.var 3) .nil))) .nil)))) (.ret (.idx (.lst (.cons (.var 4) (.cons (.tup (.cons (.neg (.con (.int 1))) (.cons (.con (.int 1)) .nil))) .nil))) (.blt .int (.cons (.cmp .lt (.idx (.var 4) (.con (.int 0))) (.con (.int 0))) .nil)))))))⟩
def cb_law_part_1 (ix : Nat → Nat) : CS := (.ife (.and (.or (.call (ix 49) (.cons (.var 5) (.cons (.var 8) .nil))) (.cmp .eq (.var 1) (.con (.int 0)))) (.not (.call (ix 49) (.cons (.var 6) (.cons (.var 8) .nil))))) (.expr (.mth .append (.var 7) (.cons (.tup (.cons (.call (ix 47) (.cons (.var 8) (.cons (.var 5) .nil))) (.cons (.var 9) .nil))) .nil))) .skip)
def cf_law_part (ix : Nat → Nat) : CF := ⟨4, 11, (.seq (.asg (.nm 4) (.comp (.idx (.var 10) (.con (.int 0))) (.nm 10) (.one (.idx (.var 0) (.con (.int 0)))) (.con (.bl true)) [10] false)) (.seq (.asg (.tp (.cons (.nm 5) (.cons (.nm 6) .nil))) (.tup (.cons (.tup (.cons (.blt .sum (.cons (.sl (.var 4) .nil (.one (.var 1))) .nil)) (.cons (.con (.int 1)) .nil))) (.cons (.tup (.cons (.blt .sum (.cons (.sl (.var 4) .nil (.one (.var 2))) .nil)) (.cons (.con (.int 1)) .nil))) .nil)))) (.seq (.asg (.nm 7) (.mlst .nil)) (.seq (.fr (.tp (.cons (.nm 8) (.cons (.nm 9) .nil))) (.one (.var 3)) (cb_law_part_1 ix)) (.ret (.tup (.cons (.tup (.cons (.sl (.idx (.var 0) (.con (.int 0))) (.one (.var 1)) (.one (.var 2))) (.cons (.idx (.var 0) (.con (.int 1))) .nil))) (.cons (.blt .tuple (.cons (.var 7) .nil)) .nil))))))))⟩
def cf_law_days_cut (ix : Nat → Nat) : CF := ⟨5, 9, (.seq (.asg (.tp (.cons (.nm 5) (.cons (.nm 6) .nil))) (.call (ix 150) (.cons (.var 0) (.cons (.var 1) (.cons (.var 2) (.cons (.var 4) .nil)))))) (.seq (.asg (.tp (.cons (.nm 7) (.cons (.nm 8) .nil))) (.call (ix 150) (.cons (.var 0) (.cons (.var 2) (.cons (.var 3) (.cons (.var 4) .nil)))))) (.ret (.tup (.cons (.call (ix 76) (.cons (.var 5) (.cons (.var 6) .nil))) (.cons (.call (ix 76) (.cons (.var 7) (.cons (.var 8) .nil))) (.cons (.blt .len (.cons (.var 6) .nil)) .nil)))))))⟩
def cf_check_days (ix : Nat → Nat) : CF := ⟨1, 2, (.ife (.or (.not (.isi (.var 0) .tup)) (.or (.cmp .gt (.blt .len (.cons (.var 0) .nil)) (.con (.int 12))) (.not (.blt .all (.cons (.comp (.call (ix 99) (.cons (.var 1) .nil)) (.nm 1) (.one (.var 0)) (.con (.bl true)) [1] false) .nil))))) (.rais 12 (.con .non)) .skip)⟩
def cf_two_drags (ix : Nat → Nat) : CF := ⟨3, 12, (.seq (.asg (.tp (.cons (.nm 3) (.cons (.nm 4) (.cons (.nm 5) (.cons (.nm 6) .nil))))) (.call (ix 103) (.cons (.var 0) (.cons (.var 1) .nil)))) (.seq (.asg (.tp (.cons (.nm 7) (.cons (.nm 8) .nil))) (.tup (.cons (.call (ix 43) (.cons (.var 0) (.cons (.idx (.var 2) (.con (.int 0))) .nil))) (.cons (.call (ix 43) (.cons (.var 0) (.cons (.idx (.var 2) (.con (.int 1))) .nil))) .nil)))) (.seq (.asg (.tp (.cons (.nm 9) (.cons (.nm 10) .nil))) (.tup (.cons (.call (ix 6) (.cons (.var 3) (.cons (.var 7) .nil))) (.cons (.call (ix 6) (.cons (.var 4) (.cons (.call (ix 6) (.cons (.call (ix 34) (.cons (.var 0) .nil)) (.cons (.var 8) .nil))) .nil))) .nil)))) (.seq (.ife (.or (.not (.call (ix 9) (.cons (.con (.tup [(.int 0), (.int 1)])) (.cons (.var 9) .nil)))) (.or (.not (.call (ix 9) (.cons (.con (.tup [(.int 0), (.int 1)])) (.cons (.var 10) .nil)))) (.cmp .ne (.call (ix 7) (.cons (.var 9) (.cons (.var 10) .nil))) (.call (ix 7) (.cons (.var 5) (.cons (.var 6) .nil)))))) (.ret (.con .non)) .skip) (.seq (.asg (.nm 11) (.call (ix 8) (.cons (.call (ix 6) (.cons (.var 8) (.cons (.var 7) .nil))) (.cons (.var 6) .nil)))) (.ret (.tup (.cons (.call (ix 7) (.cons (.var 9) (.cons (.var 11) .nil))) (.cons (.call (ix 7) (.cons (.var 10) (.cons (.var 11) .nil))) .nil)))))))))⟩
def cf_fits_by (ix : Nat → Nat) : CF := ⟨3, 5, (.seq (.asg (.nm 3) (.call (ix 105) (.cons (.var 0) (.cons (.var 1) .nil)))) (.seq (.ife (.cmp .eq (.idx (.var 3) (.con (.int 0))) (.con (.str "sound"))) (.ret (.bin .mul (.tup (.cons (.con .non) .nil)) (.blt .len (.cons (.var 2) .nil)))) .skip) (.seq (.ife (.and (.cmp .eq (.idx (.var 3) (.con (.int 0))) (.con (.str "one"))) (.cmp .isin (.idx (.idx (.var 3) (.con (.int 1))) (.con (.int 0))) (.var 2))) (.ret (.blt .tuple (.cons (.comp (.ife (.cmp .eq (.var 4) (.idx (.idx (.var 3) (.con (.int 1))) (.con (.int 0)))) (.idx (.idx (.var 3) (.con (.int 1))) (.con (.int 1))) (.con .non)) (.nm 4) (.one (.var 2)) (.con (.bl true)) [4] false) .nil))) .skip) (.seq (.ife (.and (.cmp .eq (.idx (.var 3) (.con (.int 0))) (.con (.str "two"))) (.cmp .eq (.blt .len (.cons (.var 2) .nil)) (.con (.int 2)))) (.ret (.call (ix 153) (.cons (.var 0) (.cons (.var 1) (.cons (.var 2) .nil))))) .skip) (.ret (.con .non))))))⟩
def cf_east_drag_2 (ix : Nat → Nat) : CF := ⟨3, 9, (.seq (.asg (.tp (.cons (.nm 3) (.cons (.nm 4) (.cons (.nm 5) (.cons (.nm 6) .nil))))) (.var 1)) (.seq (.asg (.nm 7) (.call (ix 6) (.cons (.var 3) (.cons (.var 2) .nil)))) (.seq (.ife (.or (.call (ix 9) (.cons (.var 2) (.cons (.con (.tup [(.int 0), (.int 1)])) .nil))) (.not (.call (ix 9) (.cons (.con (.tup [(.int 0), (.int 1)])) (.cons (.var 7) .nil))))) (.ret (.con .non)) .skip) (.seq (.asg (.nm 8) (.call (ix 8) (.cons (.call (ix 7) (.cons (.var 5) (.cons (.var 6) .nil))) (.cons (.var 7) .nil)))) (.seq (.ife (.call (ix 9) (.cons (.var 4) (.cons (.var 8) .nil))) (.ret (.con .non)) .skip) (.ret (.call (ix 5) (.cons (.call (ix 6) (.cons (.call (ix 34) (.cons (.var 0) .nil)) (.cons (.var 4) .nil))) (.cons (.var 8) .nil)))))))))⟩
def cf_west_drag_2 (ix : Nat → Nat) : CF := ⟨3, 9, (.seq (.asg (.tp (.cons (.nm 3) (.cons (.nm 4) (.cons (.nm 5) (.cons (.nm 6) .nil))))) (.var 1)) (.seq (.asg (.nm 7) (.call (ix 6) (.cons (.var 4) (.cons (.call (ix 6) (.cons (.call (ix 34) (.cons (.var 0) .nil)) (.cons (.var 2) .nil))) .nil)))) (.seq (.ife (.not (.call (ix 9) (.cons (.con (.tup [(.int 0), (.int 1)])) (.cons (.var 7) .nil)))) (.ret (.con .non)) .skip) (.seq (.asg (.nm 8) (.call (ix 8) (.cons (.call (ix 7) (.cons (.var 5) (.cons (.var 6) .nil))) (.cons (.var 7) .nil)))) (.seq (.ife (.call (ix 9) (.cons (.var 3) (.cons (.var 8) .nil))) (.ret (.con .non)) .skip) (.ret (.call (ix 6) (.cons (.var 3) (.cons (.var 8) .nil)))))))))⟩
def cf_roots_of (ix : Nat → Nat) : CF := ⟨3, 5, (.seq (.ife (.and (.cmp .eq (.var 0) (.con (.tup [(.int 0), (.int 1)]))) (.cmp .eq (.var 1) (.con (.tup [(.int 0), (.int 1)])))) (.ret (.lst .nil)) .skip) (.seq (.ife (.cmp .eq (.var 0) (.con (.tup [(.int 0), (.int 1)]))) (.ret (.lst (.cons (.call (ix 6) (.cons (.con (.tup [(.int 0), (.int 1)])) (.cons (.call (ix 8) (.cons (.var 2) (.cons (.var 1) .nil))) .nil))) .nil))) .skip) (.seq (.asg (.nm 3) (.call (ix 26) (.cons (.call (ix 6) (.cons (.call (ix 7) (.cons (.var 1) (.cons (.var 1) .nil))) (.cons (.call (ix 7) (.cons (.tup (.cons (.con (.int 4)) (.cons (.con (.int 1)) .nil))) (.cons (.call (ix 7) (.cons (.var 0) (.cons (.var 2) .nil))) .nil))) .nil))) .nil))) (.seq (.ife (.cmp .is (.var 3) (.con .non)) (.ret (.lst .nil)) .skip) (.seq (.asg (.nm 4) (.call (ix 7) (.cons (.tup (.cons (.con (.int 2)) (.cons (.con (.int 1)) .nil))) (.cons (.var 0) .nil)))) (.ret (.lst (.cons (.call (ix 8) (.cons (.call (ix 6) (.cons (.var 3) (.cons (.var 1) .nil))) (.cons (.var 4) .nil))) (.cons (.call (ix 8) (.cons (.call (ix 6) (.cons (.call (ix 6) (.cons (.con (.tup [(.int 0), (.int 1)])) (.cons (.var 3) .nil))) (.cons (.var 1) .nil))) (.cons (.var 4) .nil))) .nil)))))))))⟩
def cb_pairs_of_two_1 (ix : Nat → Nat) : CS := (.seq (.asg (.nm 9) (.call (ix 6) (.cons (.idx (.var 1) (.con (.int 0))) (.cons (.var 8) .nil)))) (.expr (.mth .append (.var 7) (.cons (.tup (.cons (.var 9) (.cons (.call (ix 155) (.cons (.var 0) (.cons (.var 1) (.cons (.var 9) .nil)))) .nil))) .nil))))
def cf_pairs_of_two (ix : Nat → Nat) : CF := ⟨3, 10, (.seq (.asg (.tp (.cons (.nm 3) (.cons (.nm 4) .nil))) (.tup (.cons (.call (ix 6) (.cons (.idx (.var 2) (.con (.int 0))) (.cons (.idx (.var 1) (.con (.int 0))) .nil))) (.cons (.call (ix 6) (.cons (.idx (.var 2) (.con (.int 1))) (.cons (.idx (.var 1) (.con (.int 1))) .nil))) .nil)))) (.seq (.asg (.tp (.cons (.nm 5) (.cons (.nm 6) .nil))) (.tup (.cons (.call (ix 7) (.cons (.idx (.var 1) (.con (.int 2))) (.cons (.idx (.var 1) (.con (.int 3))) .nil))) (.cons (.call (ix 7) (.cons (.idx (.var 2) (.con (.int 2))) (.cons (.idx (.var 2) (.con (.int 3))) .nil))) .nil)))) (.seq (.asg (.nm 7) (.mlst .nil)) (.seq (.fr (.nm 8) (.one (.call (ix 157) (.cons (.var 4) (.cons (.call (ix 6) (.cons (.call (ix 5) (.cons (.call (ix 7) (.cons (.var 4) (.cons (.var 3) .nil))) (.cons (.var 5) .nil))) (.cons (.var 6) .nil))) (.cons (.call (ix 7) (.cons (.var 5) (.cons (.var 3) .nil))) .nil))))) (cb_pairs_of_two_1 ix)) (.retF 7)))))⟩
def cf_pairs_with (ix : Nat → Nat) : CF := ⟨3, 3, (.ret (.lst (.cons (.tup (.cons (.var 2) (.cons (.call (ix 155) (.cons (.var 0) (.cons (.var 1) (.cons (.var 2) .nil)))) .nil))) (.cons (.tup (.cons (.call (ix 156) (.cons (.var 0) (.cons (.var 1) (.cons (.var 2) .nil)))) (.cons (.var 2) .nil))) .nil))))⟩
def cf_pairs_of (ix : Nat → Nat) : CF := ⟨3, 9, (.seq (.asg (.tp (.cons (.nm 3) (.cons (.nm 4) .nil))) (.tup (.cons (.call (ix 105) (.cons (.var 0) (.cons (.var 1) .nil))) (.cons (.call (ix 105) (.cons (.var 0) (.cons (.var 2) .nil))) .nil)))) (.seq (.ife (.and (.cmp .eq (.idx (.var 3) (.con (.int 0))) (.con (.str "one"))) (.cmp .eq (.idx (.var 4) (.con (.int 0))) (.con (.str "one")))) (.seq (.asg (.nm 5) (.tup (.cons (.idx (.idx (.var 3) (.con (.int 1))) (.con (.int 0))) (.cons (.idx (.idx (.var 4) (.con (.int 1))) (.con (.int 0))) .nil)))) (.ret (.lst (.cons (.ife (.call (ix 9) (.cons (.idx (.var 5) (.con (.int 0))) (.cons (.idx (.var 5) (.con (.int 1))) .nil))) (.var 5) (.rev (.var 5))) .nil)))) .skip) (.seq (.ife (.cmp .eq (.idx (.var 3) (.con (.int 0))) (.con (.str "one"))) (.asg (.nm 6) (.call (ix 159) (.cons (.var 0) (.cons (.call (ix 103) (.cons (.var 0) (.cons (.var 2) .nil))) (.cons (.call (ix 43) (.cons (.var 0) (.cons (.idx (.idx (.var 3) (.con (.int 1))) (.con (.int 0))) .nil))) .nil))))) (.ife (.cmp .eq (.idx (.var 4) (.con (.int 0))) (.con (.str "one"))) (.asg (.nm 6) (.call (ix 159) (.cons (.var 0) (.cons (.call (ix 103) (.cons (.var 0) (.cons (.var 1) .nil))) (.cons (.call (ix 43) (.cons (.var 0) (.cons (.idx (.idx (.var 4) (.con (.int 1))) (.con (.int 0))) .nil))) .nil))))) (.asg (.nm 6) (.call (ix 158) (.cons (.var 0) (.cons (.call (ix 103) (.cons (.var 0) (.cons (.var 1) .nil))) (.cons (.call (ix 103) (.cons (.var 0) (.cons (.var 2) .nil))) .nil))))))) (.ret (.comp (.tup (.cons (.call (ix 44) (.cons (.var 0) (.cons (.var 7) .nil))) (.cons (.call (ix 44) (.cons (.var 0) (.cons (.var 8) .nil))) .nil))) (.tp (.cons (.nm 7) (.cons (.nm 8) .nil))) (.one (.var 6)) (.and (.cmp .isnot (.var 7) (.con .non)) (.cmp .isnot (.var 8) (.con .non))) [7, 8] false)))))⟩
def cf_fit_all (ix : Nat → Nat) : CF := ⟨3, 4, (.ret (.blt .all (.cons (.comp (.cmp .isnot (.call (ix 154) (.cons (.var 0) (.cons (.var 3) (.cons (.var 2) .nil)))) (.con .non)) (.nm 3) (.one (.var 1)) (.con (.bl true)) [3] false) .nil)))⟩
def cf_is_before (ix : Nat → Nat) : CF := ⟨2, 2, (.ret (.or (.call (ix 9) (.cons (.idx (.var 0) (.con (.int 0))) (.cons (.idx (.var 1) (.con (.int 0))) .nil))) (.and (.cmp .eq (.idx (.var 0) (.con (.int 0))) (.idx (.var 1) (.con (.int 0)))) (.call (ix 9) (.cons (.idx (.var 0) (.con (.int 1))) (.cons (.idx (.var 1) (.con (.int 1))) .nil))))))⟩
def cb_pairs_told_1 (ix : Nat → Nat) : CS := (.ife (.and (.cmp .notin (.var 5) (.var 4)) (.call (ix 161) (.cons (.var 0) (.cons (.var 1) (.cons (.var 5) .nil))))) (.expr (.mth .append (.var 4) (.cons (.var 5) .nil))) .skip)
def cf_pairs_told (ix : Nat → Nat) : CF := ⟨4, 6, (.seq (.asg (.nm 4) (.mlst .nil)) (.seq (.fr (.nm 5) (.one (.call (ix 160) (.cons (.var 0) (.cons (.var 2) (.cons (.var 3) .nil))))) (cb_pairs_told_1 ix)) (.seq (.ife (.and (.cmp .eq (.blt .len (.cons (.var 4) .nil)) (.con (.int 2))) (.call (ix 162) (.cons (.idx (.var 4) (.con (.int 1))) (.cons (.idx (.var 4) (.con (.int 0))) .nil)))) (.asg (.nm 4) (.rev (.var 4))) .skip) (.ret (.blt .tuple (.cons (.var 4) .nil))))))⟩
def cf_are_apart (ix : Nat → Nat) : CF := ⟨3, 5, (.seq (.ife (.cmp .eq (.var 1) (.var 2)) (.ret (.con (.bl false))) .skip) (.seq (.asg (.tp (.cons (.nm 3) (.cons (.nm 4) .nil))) (.tup (.cons (.call (ix 105) (.cons (.var 0) (.cons (.var 1) .nil))) (.cons (.call (ix 105) (.cons (.var 0) (.cons (.var 2) .nil))) .nil)))) (.ret (.or (.cmp .eq (.idx (.var 3) (.con (.int 0))) (.con (.str "two"))) (.or (.cmp .eq (.idx (.var 4) (.con (.int 0))) (.con (.str "two"))) (.cmp .ne (.idx (.idx (.var 3) (.con (.int 1))) (.con (.int 0))) (.idx (.idx (.var 4) (.con (.int 1))) (.con (.int 0)))))))))⟩
def cf_telling_by (ix : Nat → Nat) : CF := ⟨2, 10, (.seq (.asg (.nm 2) (.comp (.call (ix 105) (.cons (.var 0) (.cons (.var 7) .nil))) (.nm 7) (.one (.var 1)) (.con (.bl true)) [7] false)) (.seq (.asg (.nm 3) (.comp (.var 8) (.nm 8) (.rng (.con (.int 0)) (.blt .len (.cons (.var 1) .nil))) (.cmp .ne (.idx (.var 2) (.var 8)) (.tup (.cons (.con (.str "sound")) .nil))) [8] false)) (.seq (.ife (.cmp .eq (.var 3) (.lst .nil)) (.ret (.tup (.cons (.con (.str "sound")) .nil))) .skip) (.seq (.ife (.cmp .isin (.con (.str "wrong")) (.comp (.idx (.var 9) (.con (.int 0))) (.nm 9) (.one (.var 2)) (.con (.bl true)) [9] false)) (.ret (.tup (.cons (.con (.str "clash")) .nil))) .skip) (.seq (.asg (.nm 4) (.idx (.var 3) (.con (.int 0)))) (.seq (.asg (.nm 5) (.comp (.var 8) (.nm 8) (.one (.var 3)) (.call (ix 164) (.cons (.var 0) (.cons (.idx (.var 1) (.var 4)) (.cons (.idx (.var 1) (.var 8)) .nil)))) [8] false)) (.seq (.ife (.and (.cmp .eq (.var 5) (.lst .nil)) (.cmp .eq (.idx (.idx (.var 2) (.var 4)) (.con (.int 0))) (.con (.str "one")))) (.ret (.tup (.cons (.con (.str "one")) (.cons (.idx (.idx (.idx (.var 2) (.var 4)) (.con (.int 1))) (.con (.int 0))) .nil)))) .skip) (.seq (.ife (.cmp .eq (.var 5) (.lst .nil)) (.ret (.tup (.cons (.con (.str "curve")) (.cons (.var 4) .nil)))) .skip) (.seq (.asg (.nm 6) (.call (ix 163) (.cons (.var 0) (.cons (.var 1) (.cons (.idx (.var 1) (.var 4)) (.cons (.idx (.var 1) (.idx (.var 5) (.con (.int 0)))) .nil)))))) (.seq (.ife (.cmp .eq (.var 6) (.tup .nil)) (.ret (.tup (.cons (.con (.str "clash")) .nil))) .skip) (.ret (.tup (.cons (.con (.str "pairs")) (.cons (.var 6) .nil))))))))))))))⟩
def cf_telling (ix : Nat → Nat) : CF := ⟨2, 2, (.seq (.expr (.call (ix 32) (.cons (.var 0) .nil))) (.seq (.expr (.call (ix 152) (.cons (.var 1) .nil))) (.ret (.call (ix 165) (.cons (.var 0) (.cons (.var 1) .nil))))))⟩
def cf_law_kind_2 (ix : Nat → Nat) : CF := ⟨2, 6, (.seq (.ife (.cmp .is (.idx (.var 1) (.con (.int 0))) (.con .non)) (.ret (.idx (.lst (.cons (.tup (.cons (.con (.str "wrong")) .nil)) (.cons (.tup (.cons (.con (.str "sound")) .nil)) .nil))) (.blt .int (.cons (.cmp .eq (.idx (.var 1) (.con (.int 2))) (.call (ix 39) (.cons (.idx (.var 0) (.con (.int 1))) (.cons (.call (ix 50) (.cons (.var 0) .nil)) .nil)))) .nil)))) .skip) (.seq (.asg (.tp (.cons (.nm 2) (.cons (.nm 3) (.cons (.nm 4) (.cons (.nm 5) .nil))))) (.call (ix 108) (.cons (.var 0) (.cons (.var 1) .nil)))) (.seq (.ife (.or (.cmp .lt (.idx (.var 5) (.con (.int 0))) (.con (.int 0))) (.or (.cmp .le (.idx (.var 4) (.con (.int 0))) (.con (.int 0))) (.or (.cmp .lt (.idx (.var 2) (.con (.int 0))) (.con (.int 0))) (.cmp .lt (.idx (.var 3) (.con (.int 0))) (.con (.int 0)))))) (.ret (.tup (.cons (.con (.str "wrong")) .nil))) .skip) (.seq (.ife (.call (ix 49) (.cons (.call (ix 40) (.cons (.var 2) (.cons (.var 3) .nil))) (.cons (.call (ix 40) (.cons (.var 4) (.cons (.var 5) .nil))) .nil))) (.ret (.tup (.cons (.con (.str "wrong")) .nil))) .skip) (.seq (.ife (.cmp .eq (.var 5) (.tup (.cons (.con (.int 0)) (.cons (.con (.int 1)) .nil)))) (.ret (.tup (.cons (.con (.str "one")) (.cons (.var 2) (.cons (.var 4) .nil))))) .skip) (.ret (.tup (.cons (.con (.str "two")) (.cons (.var 2) (.cons (.var 3) (.cons (.var 4) (.cons (.var 5) .nil))))))))))))⟩
def cf_law_fits (ix : Nat → Nat) : CF := ⟨3, 12, (.seq (.ife (.cmp .eq (.idx (.var 1) (.con (.int 0))) (.con (.str "sound"))) (.ret (.bin .mul (.tup (.cons (.con .non) .nil)) (.blt .len (.cons (.var 2) .nil)))) .skip) (.seq (.ife (.and (.cmp .eq (.idx (.var 1) (.con (.int 0))) (.con (.str "one"))) (.cmp .isin (.idx (.var 1) (.con (.int 1))) (.var 2))) (.ret (.blt .tuple (.cons (.comp (.idx (.lst (.cons (.con .non) (.cons (.idx (.var 1) (.con (.int 2))) .nil))) (.blt .int (.cons (.cmp .eq (.var 11) (.idx (.var 1) (.con (.int 1)))) .nil))) (.nm 11) (.one (.var 2)) (.con (.bl true)) [11] false) .nil))) .skip) (.seq (.ife (.or (.cmp .ne (.idx (.var 1) (.con (.int 0))) (.con (.str "two"))) (.cmp .lt (.blt .len (.cons (.var 2) .nil)) (.con (.int 2)))) (.ret (.con .non)) .skip) (.seq (.asg (.tp (.cons (.nm 3) (.cons (.nm 4) (.cons (.nm 5) (.cons (.nm 6) (.cons (.nm 7) .nil)))))) (.var 1)) (.seq (.asg (.tp (.cons (.nm 8) (.cons (.nm 9) .nil))) (.tup (.cons (.call (ix 47) (.cons (.var 4) (.cons (.idx (.var 2) (.con (.int 0))) .nil))) (.cons (.call (ix 47) (.cons (.call (ix 39) (.cons (.var 5) (.cons (.idx (.var 2) (.con (.int 1))) .nil))) (.cons (.var 0) .nil))) .nil)))) (.seq (.ife (.or (.cmp .le (.idx (.var 8) (.con (.int 0))) (.con (.int 0))) (.or (.cmp .le (.idx (.var 9) (.con (.int 0))) (.con (.int 0))) (.cmp .ne (.call (ix 40) (.cons (.var 8) (.cons (.var 9) .nil))) (.call (ix 40) (.cons (.var 6) (.cons (.var 7) .nil)))))) (.ret (.con .non)) .skip) (.seq (.asg (.nm 10) (.call (ix 48) (.cons (.call (ix 47) (.cons (.idx (.var 2) (.con (.int 1))) (.cons (.idx (.var 2) (.con (.int 0))) .nil))) (.cons (.var 7) .nil)))) (.ret (.tup (.cons (.call (ix 40) (.cons (.var 8) (.cons (.var 10) .nil))) (.cons (.call (ix 40) (.cons (.var 9) (.cons (.var 10) .nil))) .nil)))))))))))⟩
def cf_law_some_drag (ix : Nat → Nat) : CF := ⟨1, 1, (.ret (.call (ix 21) (.cons (.bin .add (.con (.int 1)) (.call (ix 19) (.cons (.var 0) (.cons (.idx (.lst (.cons (.con (.int 9)) (.cons (.con (.int 60)) .nil))) (.call (ix 19) (.cons (.var 0) (.cons (.con (.int 2)) .nil)))) .nil)))) (.cons (.idx (.lst (.cons (.con (.int 1)) (.cons (.con (.int 1)) (.cons (.con (.int 2)) (.cons (.con (.int 7)) .nil))))) (.call (ix 19) (.cons (.var 0) (.cons (.con (.int 4)) .nil)))) .nil))))⟩
def cf_law_hidden_2 (ix : Nat → Nat) : CF := ⟨2, 6, (.seq (.asg (.nm 2) (.bin .mul (.con (.int 6)) (.blt .sum (.cons (.comp (.idx (.var 5) (.con (.int 0))) (.nm 5) (.one (.idx (.var 1) (.con (.int 0)))) (.con (.bl true)) [5] false) .nil)))) (.seq (.asg (.nm 3) (.call (ix 19) (.cons (.var 0) (.cons (.var 2) .nil)))) (.seq (.asg (.nm 4) (.bin .add (.bin .add (.var 3) (.con (.int 1))) (.call (ix 19) (.cons (.var 0) (.cons (.bin .sub (.var 2) (.var 3)) .nil))))) (.seq (.ife (.cmp .eq (.call (ix 19) (.cons (.var 0) (.cons (.con (.int 4)) .nil))) (.con (.int 1))) (.asg (.nm 3) (.con (.int 0))) .skip) (.seq (.ife (.cmp .eq (.call (ix 19) (.cons (.var 0) (.cons (.con (.int 4)) .nil))) (.con (.int 1))) (.asg (.nm 4) (.var 2)) .skip) (.ret (.tup (.cons (.call (ix 21) (.cons (.var 3) (.cons (.con (.int 6)) .nil))) (.cons (.call (ix 21) (.cons (.var 4) (.cons (.con (.int 6)) .nil))) .nil)))))))))⟩
def cf_law_hidden_day (ix : Nat → Nat) : CF := ⟨4, 6, (.seq (.asg (.nm 4) (.comp (.tup (.cons (.var 5) (.cons (.call (ix 169) (.cons (.var 0) .nil)) .nil))) (.nm 5) (.one (.var 2)) (.con (.bl true)) [5] false)) (.ret (.call (ix 76) (.cons (.var 1) (.cons (.blt .tuple (.cons (.idx (.lst (.cons (.lst .nil) (.cons (.sl (.var 4) .nil (.one (.con (.int 1)))) (.cons (.sl (.var 4) (.one (.con (.int 1))) .nil) (.cons (.var 4) .nil))))) (.var 3)) .nil)) .nil)))))⟩
def cb_law_days_1 (ix : Nat → Nat) : CS := (.seq (.asg (.nm 6) (.call (ix 19) (.cons (.var 0) (.cons (.idx (.lst (.cons (.con (.int 6)) (.cons (.con (.int 9)) .nil))) (.blt .int (.cons (.var 3) .nil))) .nil)))) (.seq (.ife (.and (.cmp .gt (.var 6) (.con (.int 3))) (.cmp .ne (.var 4) (.lst .nil))) (.asg (.nm 7) (.idx (.var 4) (.call (ix 19) (.cons (.var 0) (.cons (.blt .len (.cons (.var 4) .nil)) .nil))))) (.asg (.nm 7) (.call (ix 171) (.cons (.var 0) (.cons (.var 1) (.cons (.var 2) (.cons (.idx (.lst (.cons (.con (.int 0)) (.cons (.con (.int 1)) (.cons (.con (.int 2)) (.cons (.con (.int 3)) (.cons (.con (.int 3)) (.cons (.con (.int 3)) (.cons (.con (.int 1)) (.cons (.con (.int 2)) (.cons (.con (.int 3)) .nil)))))))))) (.var 6)) .nil))))))) (.seq (.ife (.cmp .eq (.var 6) (.con (.int 6))) (.asg (.nm 7) (.call (ix 76) (.cons (.var 1) (.cons (.call (ix 77) (.cons (.var 0) (.cons (.var 1) (.cons (.con (.int 2)) .nil)))) .nil)))) .skip) (.seq (.ife (.and (.cmp .eq (.var 6) (.con (.int 7))) (.cmp .isnot (.idx (.var 7) (.con (.int 0))) (.con .non))) (.asg (.nm 7) (.tup (.cons (.call (ix 39) (.cons (.idx (.var 7) (.con (.int 0))) (.cons (.tup (.cons (.con (.int 1)) (.cons (.bin .add (.con (.int 1)) (.call (ix 19) (.cons (.var 0) (.cons (.con (.int 9)) .nil)))) .nil))) .nil))) (.cons (.idx (.var 7) (.con (.int 1))) (.cons (.idx (.var 7) (.con (.int 2))) .nil))))) .skip) (.seq (.ife (.cmp .eq (.var 6) (.con (.int 8))) (.asg (.nm 7) (.tup (.cons (.idx (.var 7) (.con (.int 0))) (.cons (.idx (.var 7) (.con (.int 1))) (.cons (.call (ix 39) (.cons (.idx (.var 7) (.con (.int 2))) (.cons (.tup (.cons (.bin .add (.con (.int 1)) (.call (ix 19) (.cons (.var 0) (.cons (.con (.int 3)) .nil)))) (.cons (.bin .add (.con (.int 1)) (.call (ix 19) (.cons (.var 0) (.cons (.con (.int 30)) .nil)))) .nil))) .nil))) .nil))))) .skip) (.expr (.mth .append (.var 4) (.cons (.var 7) .nil))))))))
def cf_law_days (ix : Nat → Nat) : CF := ⟨4, 8, (.seq (.asg (.nm 4) (.mlst .nil)) (.seq (.fr (.nm 5) (.rng (.con (.int 0)) (.bin .add (.con (.int 1)) (.call (ix 19) (.cons (.var 0) (.cons (.idx (.lst (.cons (.con (.int 5)) (.cons (.con (.int 12)) .nil))) (.blt .int (.cons (.cmp .eq (.call (ix 19) (.cons (.var 0) (.cons (.con (.int 8)) .nil))) (.con (.int 5))) .nil))) .nil))))) (cb_law_days_1 ix)) (.ret (.blt .tuple (.cons (.var 4) .nil)))))⟩
def cf_check_places (ix : Nat → Nat) : CF := ⟨2, 3, (.seq (.ife (.or (.not (.isi (.var 1) .tup)) (.cmp .gt (.blt .len (.cons (.var 1) .nil)) (.con (.int 2)))) (.rais 13 (.con .non)) .skip) (.seq (.ife (.not (.blt .all (.cons (.comp (.call (ix 41) (.cons (.var 0) (.cons (.var 2) .nil))) (.nm 2) (.one (.var 1)) (.con (.bl true)) [2] false) .nil))) (.rais 13 (.con .non)) .skip) (.ife (.and (.cmp .eq (.blt .len (.cons (.var 1) .nil)) (.con (.int 2))) (.not (.call (ix 9) (.cons (.idx (.var 1) (.con (.int 0))) (.cons (.idx (.var 1) (.con (.int 1))) .nil))))) (.rais 13 (.con .non)) .skip)))⟩
def cf_drags_by (ix : Nat → Nat) : CF := ⟨3, 5, (.seq (.expr (.call (ix 32) (.cons (.var 0) .nil))) (.seq (.expr (.call (ix 152) (.cons (.var 1) .nil))) (.seq (.expr (.call (ix 173) (.cons (.var 0) (.cons (.var 2) .nil)))) (.seq (.asg (.nm 3) (.blt .tuple (.cons (.comp (.call (ix 154) (.cons (.var 0) (.cons (.var 4) (.cons (.var 2) .nil)))) (.nm 4) (.one (.var 1)) (.con (.bl true)) [4] false) .nil))) (.seq (.ife (.cmp .isin (.con .non) (.var 3)) (.ret (.con .non)) .skip) (.ret (.var 3)))))))⟩
def cb_clash_by_1 (ix : Nat → Nat) : CS := (.seq (.asg (.nm 4) (.comp (.var 5) (.nm 5) (.one (.var 2)) (.cmp .ne (.var 5) (.var 3)) [5] false)) (.ife (.cmp .eq (.call (ix 165) (.cons (.var 0) (.cons (.blt .tuple (.cons (.comp (.idx (.var 1) (.var 5)) (.nm 5) (.one (.var 4)) (.con (.bl true)) [5] false) .nil)) .nil))) (.tup (.cons (.con (.str "clash")) .nil))) (.asg (.nm 2) (.var 4)) .skip))
def cf_clash_by (ix : Nat → Nat) : CF := ⟨2, 6, (.seq (.ife (.cmp .ne (.call (ix 165) (.cons (.var 0) (.cons (.var 1) .nil))) (.tup (.cons (.con (.str "clash")) .nil))) (.ret (.tup .nil)) .skip) (.seq (.asg (.nm 2) (.blt .list (.cons .nil .nil))) (.seq (.fr (.nm 3) (.one .nil) (cb_clash_by_1 ix)) (.ret (.blt .tuple (.cons (.var 2) .nil))))))⟩
def cf_clash_of (ix : Nat → Nat) : CF := ⟨2, 2, (.seq (.expr (.call (ix 32) (.cons (.var 0) .nil))) (.seq (.expr (.call (ix 152) (.cons (.var 1) .nil))) (.ret (.call (ix 175) (.cons (.var 0) (.cons (.var 1) .nil))))))⟩
def cf_check_length (ix : Nat → Nat) : CF := ⟨1, 1, (.ife (.not (.call (ix 30) (.cons (.var 0) .nil))) (.rais 14 (.con .non)) .skip)⟩
def cf_check_number (ix : Nat → Nat) : CF := ⟨2, 2, (.ife (.or (.not (.call (ix 0) (.cons (.var 1) .nil))) (.not (.chain .le .lt (.con (.int 0)) (.var 1) (.blt .len (.cons (.idx (.var 0) (.con (.int 0))) .nil))))) (.rais 1 (.con .non)) .skip)⟩
def cf_exchange (ix : Nat → Nat) : CF := ⟨3, 5, (.seq (.asg (.tp (.cons (.nm 3) (.cons (.nm 4) .nil))) (.var 0)) (.ret (.tup (.cons (.bin .add (.bin .add (.sl (.var 3) .nil (.one (.var 1))) (.tup (.cons (.var 2) .nil))) (.sl (.var 3) (.one (.bin .add (.var 1) (.con (.int 1)))) .nil)) (.cons (.var 4) .nil)))))⟩
def cf_exchanged (ix : Nat → Nat) : CF := ⟨3, 3, (.seq (.expr (.call (ix 32) (.cons (.var 0) .nil))) (.seq (.expr (.call (ix 178) (.cons (.var 0) (.cons (.var 1) .nil)))) (.seq (.expr (.call (ix 177) (.cons (.var 2) .nil))) (.ret (.call (ix 179) (.cons (.var 0) (.cons (.var 1) (.cons (.var 2) .nil))))))))⟩
def cf_check_room (ix : Nat → Nat) : CF := ⟨2, 2, (.ife (.cmp .gt (.bin .add (.blt .len (.cons (.idx (.var 0) (.con (.int 0))) .nil)) (.blt .len (.cons (.idx (.var 1) (.con (.int 0))) .nil))) (.con (.int 12))) (.rais 14 (.con .non)) .skip)⟩
def cf_add_cables (ix : Nat → Nat) : CF := ⟨2, 2, (.ret (.tup (.cons (.bin .add (.idx (.var 0) (.con (.int 0))) (.idx (.var 1) (.con (.int 0)))) (.cons (.idx (.var 0) (.con (.int 1))) .nil))))⟩
def cf_added (ix : Nat → Nat) : CF := ⟨2, 2, (.seq (.expr (.call (ix 32) (.cons (.var 0) .nil))) (.seq (.expr (.call (ix 32) (.cons (.var 1) .nil))) (.seq (.expr (.call (ix 181) (.cons (.var 0) (.cons (.var 1) .nil)))) (.ret (.call (ix 182) (.cons (.var 0) (.cons (.var 1) .nil)))))))⟩
def cf_turned (ix : Nat → Nat) : CF := ⟨1, 1, (.seq (.expr (.call (ix 32) (.cons (.var 0) .nil))) (.ret (.tup (.cons (.rev (.idx (.var 0) (.con (.int 0)))) (.cons (.idx (.var 0) (.con (.int 1))) .nil)))))⟩
def cf_leaks_turned (ix : Nat → Nat) : CF := ⟨2, 5, (.seq (.expr (.call (ix 32) (.cons (.var 0) .nil))) (.seq (.expr (.call (ix 65) (.cons (.var 0) (.cons (.var 1) .nil)))) (.seq (.asg (.nm 2) (.tup (.cons (.call (ix 33) (.cons (.var 0) .nil)) (.cons (.con (.int 1)) .nil)))) (.ret (.blt .tuple (.cons (.comp (.tup (.cons (.call (ix 6) (.cons (.var 2) (.cons (.var 3) .nil))) (.cons (.var 4) .nil))) (.tp (.cons (.nm 3) (.cons (.nm 4) .nil))) (.one (.rev (.var 1))) (.con (.bl true)) [3, 4] false) .nil))))))⟩
def cf_leaks_added (ix : Nat → Nat) : CF := ⟨4, 8, (.seq (.expr (.call (ix 32) (.cons (.var 0) .nil))) (.seq (.expr (.call (ix 65) (.cons (.var 0) (.cons (.var 1) .nil)))) (.seq (.expr (.call (ix 32) (.cons (.var 2) .nil))) (.seq (.expr (.call (ix 65) (.cons (.var 2) (.cons (.var 3) .nil)))) (.seq (.expr (.call (ix 181) (.cons (.var 0) (.cons (.var 2) .nil)))) (.seq (.asg (.nm 4) (.tup (.cons (.call (ix 33) (.cons (.var 0) .nil)) (.cons (.con (.int 1)) .nil)))) (.seq (.asg (.nm 5) (.bin .add (.var 1) (.blt .tuple (.cons (.comp (.tup (.cons (.call (ix 5) (.cons (.var 4) (.cons (.var 6) .nil))) (.cons (.var 7) .nil))) (.tp (.cons (.nm 6) (.cons (.nm 7) .nil))) (.one (.var 3)) (.con (.bl true)) [6, 7] false) .nil)))) (.seq (.expr (.call (ix 65) (.cons (.call (ix 182) (.cons (.var 0) (.cons (.var 2) .nil))) (.cons (.var 5) .nil)))) (.ret (.var 5))))))))))⟩
def cb_wall_1 (ix : Nat → Nat) : CS := .skip
def cf_wall (ix : Nat → Nat) : CF := ⟨1, 1, (.whl (.con (.bl true)) (cb_wall_1 ix))⟩
def cf_check_date (ix : Nat → Nat) : CF := ⟨1, 1, (.ife (.or (.not (.call (ix 0) (.cons (.var 0) .nil))) (.not (.chain .le .le (.con (.int 0)) (.var 0) (.con (.int 9999))))) (.rais 1 (.con .non)) .skip)⟩
def cf_law_length (ix : Nat → Nat) : CF := ⟨3, 3, (.seq (.ife (.cmp .eq (.call (ix 19) (.cons (.var 0) (.cons (.con (.int 4)) .nil))) (.con (.int 1))) (.ret (.idx (.idx (.var 1) (.con (.int 0))) (.var 2))) .skip) (.ret (.tup (.cons (.bin .add (.con (.int 1)) (.call (ix 19) (.cons (.var 0) (.cons (.con (.int 9)) .nil)))) (.cons (.call (ix 21) (.cons (.bin .add (.con (.int 1)) (.call (ix 19) (.cons (.var 0) (.cons (.con (.int 9)) .nil)))) (.cons (.bin .add (.con (.int 1)) (.call (ix 19) (.cons (.var 0) (.cons (.con (.int 2)) .nil)))) .nil))) .nil)))))⟩
def cf_law_any_readings (ix : Nat → Nat) : CF := ⟨1, 2, (.seq (.asg (.nm 1) (.call (ix 21) (.cons (.call (ix 19) (.cons (.var 0) (.cons (.con (.int 60)) .nil))) (.cons (.bin .add (.con (.int 1)) (.call (ix 19) (.cons (.var 0) (.cons (.con (.int 3)) .nil)))) .nil)))) (.seq (.ife (.cmp .eq (.call (ix 19) (.cons (.var 0) (.cons (.con (.int 4)) .nil))) (.con (.int 1))) (.ret (.tup (.cons (.con .non) (.cons (.con .non) (.cons (.var 1) .nil))))) .skip) (.ret (.tup (.cons (.call (ix 21) (.cons (.bin .add (.con (.int 1)) (.call (ix 19) (.cons (.var 0) (.cons (.con (.int 60)) .nil)))) (.cons (.bin .add (.con (.int 1)) (.call (ix 19) (.cons (.var 0) (.cons (.con (.int 3)) .nil)))) .nil))) (.cons (.tup (.cons (.bin .add (.con (.int 1)) (.call (ix 19) (.cons (.var 0) (.cons (.con (.int 60)) .nil)))) (.cons (.con (.int 1)) .nil))) (.cons (.var 1) .nil)))))))⟩
def cf_is_day_of (ix : Nat → Nat) : CF := ⟨1, 1, (.seq (.ife (.or (.not (.isi (.var 0) .tup)) (.or (.cmp .ne (.blt .len (.cons (.var 0) .nil)) (.con (.int 3))) (.not (.call (ix 27) (.cons (.idx (.var 0) (.con (.int 2))) .nil))))) (.ret (.con (.bl false))) .skip) (.ret (.or (.and (.cmp .is (.idx (.var 0) (.con (.int 0))) (.con .non)) (.cmp .is (.idx (.var 0) (.con (.int 1))) (.con .non))) (.and (.call (ix 28) (.cons (.idx (.var 0) (.con (.int 0))) .nil)) (.call (ix 28) (.cons (.idx (.var 0) (.con (.int 1))) .nil))))))⟩
def cf_read_by (ix : Nat → Nat) : CF := ⟨2, 4, (.seq (.asg (.tp (.cons (.nm 2) (.cons (.nm 3) .nil))) (.call (ix 68) (.cons (.var 0) (.cons (.var 1) .nil)))) (.seq (.ife (.cmp .is (.var 3) (.con .non)) (.ret (.tup (.cons (.con .non) (.cons (.con .non) (.cons (.call (ix 5) (.cons (.idx (.var 0) (.con (.int 1))) (.cons (.var 2) .nil))) .nil))))) .skip) (.ret (.tup (.cons (.call (ix 5) (.cons (.idx (.var 3) (.con (.int 0))) (.cons (.idx (.var 3) (.con (.int 2))) .nil))) (.cons (.call (ix 5) (.cons (.idx (.var 3) (.con (.int 1))) (.cons (.idx (.var 3) (.con (.int 2))) .nil))) (.cons (.call (ix 5) (.cons (.idx (.var 0) (.con (.int 1))) (.cons (.call (ix 5) (.cons (.idx (.var 3) (.con (.int 0))) (.cons (.idx (.var 3) (.con (.int 1))) .nil))) .nil))) .nil)))))))⟩
def cf_four_of_2 (ix : Nat → Nat) : CF := ⟨2, 6, (.seq (.asg (.tp (.cons (.nm 2) (.cons (.nm 3) (.cons (.nm 4) .nil)))) (.var 1)) (.seq (.asg (.nm 5) (.call (ix 92) (.cons (.call (ix 6) (.cons (.call (ix 5) (.cons (.call (ix 5) (.cons (.var 2) (.cons (.var 3) .nil))) (.cons (.idx (.var 0) (.con (.int 1))) .nil))) (.cons (.var 4) .nil))) .nil))) (.ret (.tup (.cons (.call (ix 6) (.cons (.var 2) (.cons (.var 5) .nil))) (.cons (.call (ix 6) (.cons (.var 3) (.cons (.var 5) .nil))) (.cons (.var 5) (.cons (.call (ix 6) (.cons (.call (ix 5) (.cons (.idx (.var 0) (.con (.int 1))) (.cons (.call (ix 34) (.cons (.var 0) .nil)) .nil))) (.cons (.var 4) .nil))) .nil))))))))⟩
def cf_is_quiet (ix : Nat → Nat) : CF := ⟨2, 2, (.ret (.cmp .eq (.var 1) (.call (ix 192) (.cons (.var 0) (.cons (.tup .nil) .nil)))))⟩
def cf_wrong_word (ix : Nat → Nat) : CF := ⟨2, 6, (.seq (.ife (.call (ix 194) (.cons (.var 0) (.cons (.var 1) .nil))) (.ret (.con .non)) .skip) (.seq (.ife (.cmp .is (.idx (.var 1) (.con (.int 0))) (.con .non)) (.ret (.con (.str "loop"))) .skip) (.seq (.asg (.tp (.cons (.nm 2) (.cons (.nm 3) (.cons (.nm 4) (.cons (.nm 5) .nil))))) .nil) (.seq (.ife (.call (ix 9) (.cons (.var 5) (.cons (.con (.tup [(.int 0), (.int 1)])) .nil))) (.ret (.con (.str "loop"))) .skip) (.seq (.ife (.not (.call (ix 28) (.cons (.var 4) .nil))) (.ret (.con (.str "earth"))) .skip) (.seq (.ife (.call (ix 9) (.cons (.var 2) (.cons (.con (.tup [(.int 0), (.int 1)])) .nil))) (.ret (.con (.str "west"))) .skip) (.seq (.ife (.call (ix 9) (.cons (.var 3) (.cons (.con (.tup [(.int 0), (.int 1)])) .nil))) (.ret (.con (.str "east"))) .skip) (.seq (.ife (.call (ix 9) (.cons (.call (ix 7) (.cons (.var 2) (.cons (.var 3) .nil))) (.cons (.call (ix 7) (.cons (.var 4) (.cons (.var 5) .nil))) .nil))) (.ret (.con (.str "lack"))) .skip) (.ret (.con .non))))))))))⟩
def cf_kind_seen (ix : Nat → Nat) : CF := ⟨2, 2, (.seq (.ife (.call (ix 194) (.cons (.var 0) (.cons (.var 1) .nil))) (.ret (.con (.str "sound"))) .skip) (.seq (.ife (.cmp .isnot (.call (ix 195) (.cons (.var 0) (.cons (.var 1) .nil))) (.con .non)) (.ret (.con (.str "wrong"))) .skip) (.ret (.idx (.lst (.cons (.con (.str "one")) (.cons (.con (.str "two")) .nil))) (.blt .int (.cons (.call (ix 28) (.cons (.idx .nil (.con (.int 3))) .nil)) .nil))))))⟩
def cf_one_taken (ix : Nat → Nat) : CF := ⟨3, 3, (.ret (.and (.call (ix 61) (.cons (.var 0) (.cons (.var 2) .nil))) (.cmp .eq (.call (ix 192) (.cons (.var 0) (.cons (.tup (.cons (.var 2) .nil)) .nil))) (.var 1))))⟩
def cf_pair_taken (ix : Nat → Nat) : CF := ⟨4, 5, (.seq (.ife (.or (.not (.isi (.var 2) .tup)) (.or (.cmp .ne (.blt .len (.cons (.var 2) .nil)) (.con (.int 2))) (.or (.not (.isi (.var 3) .tup)) (.cmp .ne (.blt .len (.cons (.var 3) .nil)) (.con (.int 2)))))) (.ret (.con (.bl false))) .skip) (.seq (.asg (.nm 4) (.tup (.cons (.tup (.cons (.idx (.var 2) (.con (.int 0))) (.cons (.idx (.var 3) (.con (.int 0))) .nil))) (.cons (.tup (.cons (.idx (.var 2) (.con (.int 1))) (.cons (.idx (.var 3) (.con (.int 1))) .nil))) .nil)))) (.ret (.and (.call (ix 62) (.cons (.var 0) (.cons (.var 4) .nil))) (.cmp .eq (.call (ix 192) (.cons (.var 0) (.cons (.var 4) .nil))) (.var 1))))))⟩
def cf_wrong_taken (ix : Nat → Nat) : CF := ⟨3, 3, (.ret (.and (.isi (.var 2) .str) (.cmp .eq (.var 2) (.call (ix 195) (.cons (.var 0) (.cons (.var 1) .nil))))))⟩
def cf_least_parted (ix : Nat → Nat) : CF := ⟨2, 3, (.seq (.asg (.nm 2) (.call (ix 6) (.cons (.idx (.var 0) (.con (.int 1))) (.cons (.call (ix 6) (.cons (.idx (.var 0) (.con (.int 4))) (.cons (.var 1) .nil))) .nil)))) (.seq (.ife (.not (.call (ix 28) (.cons (.var 2) .nil))) (.ret (.con .non)) .skip) (.ret (.call (ix 6) (.cons (.idx (.var 0) (.con (.int 0))) (.cons (.call (ix 8) (.cons (.call (ix 7) (.cons (.idx (.var 0) (.con (.int 2))) (.cons (.idx (.var 0) (.con (.int 3))) .nil))) (.cons (.var 2) .nil))) .nil))))))⟩
def cf_does_part (ix : Nat → Nat) : CF := ⟨3, 4, (.seq (.ife (.call (ix 9) (.cons (.var 1) (.cons (.var 2) .nil))) (.ret (.con (.bl false))) .skip) (.seq (.asg (.nm 3) (.call (ix 200) (.cons (.var 0) (.cons (.var 1) .nil)))) (.ret (.or (.cmp .is (.var 3) (.con .non)) (.call (ix 9) (.cons (.var 3) (.cons (.var 2) .nil)))))))⟩
def cf_most_west (ix : Nat → Nat) : CF := ⟨1, 1, (.ret (.call (ix 6) (.cons (.idx (.var 0) (.con (.int 0))) (.cons (.call (ix 8) (.cons (.call (ix 7) (.cons (.idx (.var 0) (.con (.int 2))) (.cons (.idx (.var 0) (.con (.int 3))) .nil))) (.cons (.idx (.var 0) (.con (.int 1))) .nil))) .nil))))⟩
def cb_is_covered_1 (ix : Nat → Nat) : CS := (.seq (.asg (.nm 5) (.comp (.var 6) (.nm 6) (.one (.var 1)) (.call (ix 201) (.cons (.var 0) (.cons (.var 6) (.cons (.var 4) .nil)))) [6] false)) (.seq (.ife (.cmp .eq (.var 5) (.lst .nil)) (.ret (.con (.bl false))) .skip) (.seq (.asg (.nm 4) (.call (ix 200) (.cons (.var 0) (.cons (.idx (.var 5) (.con (.int 0))) .nil)))) (.ife (.cmp .is (.var 4) (.con .non)) (.ret (.con (.bl true))) .skip))))
def cf_is_covered (ix : Nat → Nat) : CF := ⟨3, 7, (.seq (.asg (.nm 3) (.call (ix 200) (.cons (.var 0) (.cons (.var 2) .nil)))) (.seq (.asg (.nm 4) (.var 2)) (.seq (.ife (.call (ix 9) (.cons (.call (ix 202) (.cons (.var 0) .nil)) (.cons (.var 2) .nil))) (.asg (.nm 4) (.call (ix 202) (.cons (.var 0) .nil))) .skip) (.seq (.whl (.and (.not (.call (ix 9) (.cons (.var 4) (.cons (.con (.tup [(.int 0), (.int 1)])) .nil)))) (.or (.cmp .is (.var 3) (.con .non)) (.call (ix 9) (.cons (.var 3) (.cons (.var 4) .nil))))) (cb_is_covered_1 ix)) (.ret (.con (.bl true)))))))⟩
def cf_are_cuts (ix : Nat → Nat) : CF := ⟨2, 4, (.seq (.ife (.or (.not (.isi (.var 1) .tup)) (.not (.blt .all (.cons (.comp (.and (.call (ix 0) (.cons (.var 2) .nil)) (.chain .lt .lt (.con (.int 0)) (.var 2) (.blt .len (.cons (.idx (.var 0) (.con (.int 0))) .nil)))) (.nm 2) (.one (.var 1)) (.con (.bl true)) [2] false) .nil)))) (.ret (.con (.bl false))) .skip) (.ret (.blt .all (.cons (.comp (.cmp .lt (.idx (.var 1) (.var 3)) (.idx (.var 1) (.bin .add (.var 3) (.con (.int 1))))) (.nm 3) (.rng (.con (.int 0)) (.bin .sub (.blt .len (.cons (.var 1) .nil)) (.con (.int 1)))) (.con (.bl true)) [3] false) .nil))))⟩
def cf_are_spots (ix : Nat → Nat) : CF := ⟨2, 4, (.seq (.ife (.or (.not (.isi (.var 1) .tup)) (.not (.blt .all (.cons (.comp (.call (ix 41) (.cons (.var 0) (.cons (.var 2) .nil))) (.nm 2) (.one (.var 1)) (.con (.bl true)) [2] false) .nil)))) (.ret (.con (.bl false))) .skip) (.ret (.blt .all (.cons (.comp (.call (ix 9) (.cons (.idx (.var 1) (.var 3)) (.cons (.idx (.var 1) (.bin .add (.var 3) (.con (.int 1)))) .nil))) (.nm 3) (.rng (.con (.int 0)) (.bin .sub (.blt .len (.cons (.var 1) .nil)) (.con (.int 1)))) (.con (.bl true)) [3] false) .nil))))⟩
def cf_are_apart_2 (ix : Nat → Nat) : CF := ⟨3, 6, (.seq (.asg (.nm 3) (.call (ix 202) (.cons (.var 0) .nil))) (.seq (.ife (.blt .any (.cons (.comp (.call (ix 9) (.cons (.var 3) (.cons (.var 4) .nil))) (.nm 4) (.one (.var 2)) (.con (.bl true)) [4] false) .nil)) (.ret (.con (.bl false))) .skip) (.seq (.ife (.blt .any (.cons (.comp (.cmp .gt (.blt .len (.cons (.comp (.var 4) (.nm 4) (.one (.var 2)) (.call (ix 201) (.cons (.var 0) (.cons (.var 5) (.cons (.var 4) .nil)))) [4] false) .nil)) (.con (.int 1))) (.nm 5) (.one (.var 1)) (.con (.bl true)) [5] false) .nil)) (.ret (.con (.bl false))) .skip) (.ret (.blt .all (.cons (.comp (.blt .any (.cons (.comp (.call (ix 201) (.cons (.var 0) (.cons (.var 5) (.cons (.var 4) .nil)))) (.nm 5) (.one (.var 1)) (.con (.bl true)) [5] false) .nil)) (.nm 4) (.one (.var 2)) (.con (.bl true)) [4] false) .nil))))))⟩
def cf_are_days (ix : Nat → Nat) : CF := ⟨1, 2, (.ret (.and (.isi (.var 0) .tup) (.and (.cmp .le (.blt .len (.cons (.var 0) .nil)) (.con (.int 12))) (.blt .all (.cons (.comp (.call (ix 191) (.cons (.var 1) .nil)) (.nm 1) (.one (.var 0)) (.con (.bl true)) [1] false) .nil)))))⟩
def cf_are_places (ix : Nat → Nat) : CF := ⟨2, 3, (.seq (.ife (.or (.not (.isi (.var 1) .tup)) (.or (.cmp .gt (.blt .len (.cons (.var 1) .nil)) (.con (.int 2))) (.not (.blt .all (.cons (.comp (.call (ix 41) (.cons (.var 0) (.cons (.var 2) .nil))) (.nm 2) (.one (.var 1)) (.con (.bl true)) [2] false) .nil))))) (.ret (.con (.bl false))) .skip) (.ret (.or (.cmp .lt (.blt .len (.cons (.var 1) .nil)) (.con (.int 2))) (.call (ix 9) (.cons (.idx (.var 1) (.con (.int 0))) (.cons (.idx (.var 1) (.con (.int 1))) .nil))))))⟩
def cf_made_so (ix : Nat → Nat) : CF := ⟨4, 6, (.seq (.ife (.or (.not (.isi (.var 3) .tup)) (.cmp .ne (.blt .len (.cons (.var 3) .nil)) (.blt .len (.cons (.var 2) .nil)))) (.ret (.con (.bl false))) .skip) (.seq (.asg (.nm 4) (.blt .tuple (.cons (.comp (.var 5) (.nm 5) (.one .nil) (.cmp .isnot (.idx (.var 5) (.con (.int 1))) (.con .non)) [5] false) .nil))) (.ret (.and (.blt .all (.cons (.comp (.call (ix 61) (.cons (.var 0) (.cons (.var 5) .nil))) (.nm 5) (.one (.var 4)) (.con (.bl true)) [5] false) .nil)) (.cmp .eq (.call (ix 192) (.cons (.var 0) (.cons (.var 4) .nil))) (.var 1))))))⟩
def cf_do_fit (ix : Nat → Nat) : CF := ⟨2, 7, (.seq (.asg (.tp (.cons (.nm 2) (.cons (.nm 3) (.cons (.nm 4) .nil)))) (.var 0)) (.seq (.ife (.or (.not (.call (ix 207) (.cons (.var 3) .nil))) (.not (.call (ix 208) (.cons (.var 2) (.cons (.var 4) .nil))))) (.ret (.con (.bl false))) .skip) (.seq (.ife (.or (.not (.isi (.var 1) .tup)) (.cmp .ne (.blt .len (.cons (.var 1) .nil)) (.blt .len (.cons (.var 3) .nil)))) (.ret (.con (.bl false))) .skip) (.ret (.blt .all (.cons (.comp (.call (ix 209) (.cons (.var 2) (.cons (.var 5) (.cons (.var 4) (.cons (.var 6) .nil))))) (.tp (.cons (.nm 5) (.cons (.nm 6) .nil))) (.one .nil) (.con (.bl true)) [5, 6] false) .nil))))))⟩
def cf_arms_fit (ix : Nat → Nat) : CF := ⟨4, 6, (.seq (.asg (.tp (.cons (.nm 4) (.cons (.nm 5) .nil))) (.tup (.cons (.call (ix 6) (.cons (.idx (.var 1) (.con (.int 0))) (.cons (.var 2) .nil))) (.cons (.call (ix 6) (.cons (.idx (.var 1) (.con (.int 1))) (.cons (.call (ix 6) (.cons (.var 0) (.cons (.var 3) .nil))) .nil))) .nil)))) (.ret (.and (.call (ix 28) (.cons (.var 4) .nil)) (.and (.call (ix 28) (.cons (.var 5) .nil)) (.cmp .eq (.call (ix 7) (.cons (.var 4) (.cons (.var 5) .nil))) (.call (ix 7) (.cons (.idx (.var 1) (.con (.int 2))) (.cons (.idx (.var 1) (.con (.int 3))) .nil))))))))⟩
def cf_does_fit (ix : Nat → Nat) : CF := ⟨3, 6, (.seq (.ife (.call (ix 194) (.cons (.var 0) (.cons (.var 1) .nil))) (.ret (.con (.bl true))) .skip) (.seq (.ife (.cmp .eq (.call (ix 196) (.cons (.var 0) (.cons (.var 1) .nil))) (.con (.str "wrong"))) (.ret (.con (.bl false))) .skip) (.seq (.asg (.nm 3) .nil) (.seq (.asg (.nm 4) (.comp (.call (ix 43) (.cons (.var 0) (.cons (.var 5) .nil))) (.nm 5) (.one (.var 2)) (.con (.bl true)) [5] false)) (.seq (.ife (.cmp .eq (.idx (.var 3) (.con (.int 3))) (.con (.tup [(.int 0), (.int 1)]))) (.ret (.cmp .isin (.idx (.var 3) (.con (.int 0))) (.var 4))) .skip) (.ret (.and (.cmp .eq (.blt .len (.cons (.var 4) .nil)) (.con (.int 2))) (.call (ix 211) (.cons (.call (ix 34) (.cons (.var 0) .nil)) (.cons (.var 3) (.cons (.idx (.var 4) (.con (.int 0))) (.cons (.idx (.var 4) (.con (.int 1))) .nil))))))))))))⟩
def cf_fit_all_2 (ix : Nat → Nat) : CF := ⟨3, 4, (.ret (.blt .all (.cons (.comp (.call (ix 212) (.cons (.var 0) (.cons (.var 3) (.cons (.var 2) .nil)))) (.nm 3) (.one (.var 1)) (.con (.bl true)) [3] false) .nil)))⟩
def cf_are_unlike (ix : Nat → Nat) : CF := ⟨3, 5, (.seq (.ife (.or (.call (ix 194) (.cons (.var 0) (.cons (.var 1) .nil))) (.or (.call (ix 194) (.cons (.var 0) (.cons (.var 2) .nil))) (.cmp .eq (.var 1) (.var 2)))) (.ret (.con (.bl false))) .skip) (.seq (.asg (.tp (.cons (.nm 3) (.cons (.nm 4) .nil))) (.tup (.cons .nil (.cons .nil .nil)))) (.ret (.or (.cmp .ne (.idx (.var 3) (.con (.int 3))) (.con (.tup [(.int 0), (.int 1)]))) (.or (.cmp .ne (.idx (.var 4) (.con (.int 3))) (.con (.tup [(.int 0), (.int 1)]))) (.cmp .ne (.idx (.var 3) (.con (.int 0))) (.idx (.var 4) (.con (.int 0)))))))))⟩
def cf_beside_2 (ix : Nat → Nat) : CF := ⟨3, 6, (.seq (.asg (.nm 3) (.mlst .nil)) (.seq (.asg (.tp (.cons (.nm 4) (.cons (.nm 5) .nil))) (.tup (.cons (.call (ix 6) (.cons (.idx (.var 1) (.con (.int 0))) (.cons (.var 2) .nil))) (.cons (.call (ix 6) (.cons (.idx (.var 1) (.con (.int 1))) (.cons (.call (ix 6) (.cons (.var 0) (.cons (.var 2) .nil))) .nil))) .nil)))) (.seq (.ife (.call (ix 28) (.cons (.var 4) .nil)) (.expr (.mth .append (.var 3) (.cons (.tup (.cons (.var 2) (.cons (.call (ix 5) (.cons (.call (ix 6) (.cons (.var 0) (.cons (.idx (.var 1) (.con (.int 1))) .nil))) (.cons (.call (ix 8) (.cons (.call (ix 7) (.cons (.idx (.var 1) (.con (.int 2))) (.cons (.idx (.var 1) (.con (.int 3))) .nil))) (.cons (.var 4) .nil))) .nil))) .nil))) .nil))) .skip) (.seq (.ife (.call (ix 28) (.cons (.var 5) .nil)) (.expr (.mth .append (.var 3) (.cons (.tup (.cons (.call (ix 6) (.cons (.idx (.var 1) (.con (.int 0))) (.cons (.call (ix 8) (.cons (.call (ix 7) (.cons (.idx (.var 1) (.con (.int 2))) (.cons (.idx (.var 1) (.con (.int 3))) .nil))) (.cons (.var 5) .nil))) .nil))) (.cons (.var 2) .nil))) .nil))) .skip) (.retF 3)))))⟩
def cf_arms_of_both (ix : Nat → Nat) : CF := ⟨2, 10, (.seq (.asg (.tp (.cons (.nm 2) (.cons (.nm 3) .nil))) (.tup (.cons (.call (ix 6) (.cons (.idx (.var 1) (.con (.int 0))) (.cons (.idx (.var 0) (.con (.int 0))) .nil))) (.cons (.call (ix 6) (.cons (.idx (.var 1) (.con (.int 1))) (.cons (.idx (.var 0) (.con (.int 1))) .nil))) .nil)))) (.seq (.asg (.tp (.cons (.nm 4) (.cons (.nm 5) .nil))) (.tup (.cons (.call (ix 7) (.cons (.idx (.var 0) (.con (.int 2))) (.cons (.idx (.var 0) (.con (.int 3))) .nil))) (.cons (.call (ix 7) (.cons (.idx (.var 1) (.con (.int 2))) (.cons (.idx (.var 1) (.con (.int 3))) .nil))) .nil)))) (.seq (.asg (.tp (.cons (.nm 6) (.cons (.nm 7) .nil))) (.tup (.cons (.call (ix 5) (.cons (.call (ix 7) (.cons (.var 3) (.cons (.var 2) .nil))) (.cons (.call (ix 6) (.cons (.var 4) (.cons (.var 5) .nil))) .nil))) (.cons (.call (ix 7) (.cons (.var 4) (.cons (.var 2) .nil))) .nil)))) (.seq (.ife (.cmp .eq (.var 3) (.con (.tup [(.int 0), (.int 1)]))) (.ret (.ife (.cmp .eq (.var 6) (.con (.tup [(.int 0), (.int 1)]))) (.lst .nil) (.lst (.cons (.call (ix 6) (.cons (.con (.tup [(.int 0), (.int 1)])) (.cons (.call (ix 8) (.cons (.var 7) (.cons (.var 6) .nil))) .nil))) .nil)))) .skip) (.seq (.asg (.nm 8) (.call (ix 26) (.cons (.call (ix 6) (.cons (.call (ix 7) (.cons (.var 6) (.cons (.var 6) .nil))) (.cons (.call (ix 7) (.cons (.tup (.cons (.con (.int 4)) (.cons (.con (.int 1)) .nil))) (.cons (.call (ix 7) (.cons (.var 3) (.cons (.var 7) .nil))) .nil))) .nil))) .nil))) (.seq (.ife (.cmp .is (.var 8) (.con .non)) (.ret (.lst .nil)) .skip) (.seq (.asg (.nm 9) (.call (ix 7) (.cons (.tup (.cons (.con (.int 2)) (.cons (.con (.int 1)) .nil))) (.cons (.var 3) .nil)))) (.ret (.lst (.cons (.call (ix 8) (.cons (.call (ix 6) (.cons (.var 8) (.cons (.var 6) .nil))) (.cons (.var 9) .nil))) (.cons (.call (ix 8) (.cons (.call (ix 6) (.cons (.con (.tup [(.int 0), (.int 1)])) (.cons (.call (ix 5) (.cons (.var 8) (.cons (.var 6) .nil))) .nil))) (.cons (.var 9) .nil))) .nil)))))))))))⟩
def cb_possible_pairs_1 (ix : Nat → Nat) : CS := (.ife (.call (ix 28) (.cons (.var 7) .nil)) (.expr (.mth .append (.var 6) (.cons (.tup (.cons (.call (ix 6) (.cons (.idx (.var 4) (.con (.int 0))) (.cons (.var 7) .nil))) (.cons (.call (ix 5) (.cons (.call (ix 6) (.cons (.var 3) (.cons (.idx (.var 4) (.con (.int 1))) .nil))) (.cons (.call (ix 8) (.cons (.call (ix 7) (.cons (.idx (.var 4) (.con (.int 2))) (.cons (.idx (.var 4) (.con (.int 3))) .nil))) (.cons (.var 7) .nil))) .nil))) .nil))) .nil))) .skip)
def cf_possible_pairs (ix : Nat → Nat) : CF := ⟨3, 8, (.seq (.asg (.nm 3) (.call (ix 34) (.cons (.var 0) .nil))) (.seq (.asg (.tp (.cons (.nm 4) (.cons (.nm 5) .nil))) (.tup (.cons .nil (.cons .nil .nil)))) (.seq (.ife (.and (.cmp .eq (.idx (.var 4) (.con (.int 3))) (.con (.tup [(.int 0), (.int 1)]))) (.cmp .eq (.idx (.var 5) (.con (.int 3))) (.con (.tup [(.int 0), (.int 1)])))) (.asg (.nm 6) (.mlst (.cons (.tup (.cons (.idx (.var 4) (.con (.int 0))) (.cons (.idx (.var 5) (.con (.int 0))) .nil))) (.cons (.tup (.cons (.idx (.var 5) (.con (.int 0))) (.cons (.idx (.var 4) (.con (.int 0))) .nil))) .nil)))) (.ife (.cmp .eq (.idx (.var 4) (.con (.int 3))) (.con (.tup [(.int 0), (.int 1)]))) (.asg (.nm 6) (.call (ix 215) (.cons (.var 3) (.cons (.var 5) (.cons (.idx (.var 4) (.con (.int 0))) .nil))))) (.ife (.cmp .eq (.idx (.var 5) (.con (.int 3))) (.con (.tup [(.int 0), (.int 1)]))) (.asg (.nm 6) (.call (ix 215) (.cons (.var 3) (.cons (.var 4) (.cons (.idx (.var 5) (.con (.int 0))) .nil))))) (.seq (.asg (.nm 6) (.mlst .nil)) (.fr (.nm 7) (.one (.call (ix 216) (.cons (.var 4) (.cons (.var 5) .nil)))) (cb_possible_pairs_1 ix)))))) (.retF 6))))⟩
def cf_is_number (ix : Nat → Nat) : CF := ⟨2, 2, (.ret (.and (.call (ix 0) (.cons (.var 0) .nil)) (.chain .le .lt (.con (.int 0)) (.var 0) (.var 1))))⟩
def cf_are_numbers (ix : Nat → Nat) : CF := ⟨2, 4, (.seq (.ife (.or (.not (.isi (.var 1) .tup)) (.or (.cmp .eq (.var 1) (.tup .nil)) (.not (.blt .all (.cons (.comp (.call (ix 218) (.cons (.var 2) (.cons (.blt .len (.cons (.var 0) .nil)) .nil))) (.nm 2) (.one (.var 1)) (.con (.bl true)) [2] false) .nil))))) (.ret (.con (.bl false))) .skip) (.ret (.blt .all (.cons (.comp (.cmp .lt (.idx (.var 1) (.var 3)) (.idx (.var 1) (.bin .add (.var 3) (.con (.int 1))))) (.nm 3) (.rng (.con (.int 0)) (.bin .sub (.blt .len (.cons (.var 1) .nil)) (.con (.int 1)))) (.con (.bl true)) [3] false) .nil))))⟩
def cf_east_with (ix : Nat → Nat) : CF := ⟨2, 2, (.ret (.call (ix 5) (.cons (.call (ix 6) (.cons (.idx (.var 0) (.con (.int 4))) (.cons (.idx (.var 0) (.con (.int 1))) .nil))) (.cons (.call (ix 8) (.cons (.call (ix 7) (.cons (.idx (.var 0) (.con (.int 2))) (.cons (.idx (.var 0) (.con (.int 3))) .nil))) (.cons (.call (ix 6) (.cons (.idx (.var 0) (.con (.int 0))) (.cons (.var 1) .nil))) .nil))) .nil))))⟩
def cb_ways_seen_1 (ix : Nat → Nat) : CS := (.ife (.and (.not (.call (ix 9) (.cons (.var 5) (.cons (.con (.tup [(.int 0), (.int 1)])) .nil)))) (.not (.call (ix 9) (.cons (.var 2) (.cons (.var 5) .nil))))) (.seq (.asg (.nm 6) (.call (ix 220) (.cons (.var 0) (.cons (.var 5) .nil)))) (.seq (.asg (.nm 7) (.blt .len (.cons (.comp (.var 8) (.nm 8) (.one (.var 1)) (.call (ix 9) (.cons (.var 8) (.cons (.var 5) .nil))) [8] false) .nil))) (.expr (.mth .append (.var 4) (.cons (.tup (.cons (.var 7) (.cons (.blt .len (.cons (.comp (.var 8) (.nm 8) (.one (.var 1)) (.call (ix 9) (.cons (.var 8) (.cons (.var 6) .nil))) [8] false) .nil)) .nil))) .nil))))) .skip)
def cf_ways_seen (ix : Nat → Nat) : CF := ⟨2, 11, (.seq (.asg (.nm 2) (.call (ix 202) (.cons (.var 0) .nil))) (.seq (.asg (.nm 3) (.bin .add (.bin .add (.lst (.cons (.con (.tup [(.int 0), (.int 1)])) (.cons (.var 2) .nil))) (.var 1)) (.comp (.var 8) (.nm 8) (.one (.comp (.call (ix 200) (.cons (.var 0) (.cons (.var 9) .nil))) (.nm 9) (.one (.var 1)) (.con (.bl true)) [9] false)) (.cmp .isnot (.var 8) (.con .non)) [8] false))) (.seq (.asg (.nm 4) (.mlst .nil)) (.seq (.fr (.nm 5) (.one (.var 3)) (cb_ways_seen_1 ix)) (.ret (.blt .sorted (.cons (.comp (.idx (.var 4) (.var 10)) (.nm 10) (.rng (.con (.int 0)) (.blt .len (.cons (.var 4) .nil))) (.cmp .notin (.idx (.var 4) (.var 10)) (.sl (.var 4) .nil (.one (.var 10)))) [10] false) .nil)))))))⟩
def cb_left_by_1 (ix : Nat → Nat) : CS := (.ife (.cmp .lt (.idx (.idx (.var 0) (.var 5)) (.con (.int 1))) (.var 3)) (.expr (.mth .append (.idx (.var 4) (.con (.int 0))) (.cons (.var 5) .nil))) (.ife (.cmp .ge (.idx (.idx (.var 0) (.var 5)) (.con (.int 0))) (.var 3)) (.expr (.mth .append (.idx (.var 4) (.con (.int 2))) (.cons (.var 5) .nil))) (.expr (.mth .append (.idx (.var 4) (.con (.int 1))) (.cons (.var 5) .nil)))))
def cf_left_by (ix : Nat → Nat) : CF := ⟨4, 7, (.seq (.asg (.nm 4) (.lst (.cons (.lst .nil) (.cons (.lst .nil) (.cons (.lst .nil) .nil))))) (.seq (.fr (.nm 5) (.rng (.var 1) (.bin .add (.var 2) (.con (.int 1)))) (cb_left_by_1 ix)) (.ret (.comp (.ife (.cmp .ne (.var 6) (.lst .nil)) (.tup (.cons (.idx (.var 6) (.con (.int 0))) (.cons (.idx (.var 6) (.neg (.con (.int 1)))) .nil))) (.con .non)) (.nm 6) (.one (.var 4)) (.con (.bl true)) [6] false))))⟩
def cb_are_stretches_1 (ix : Nat → Nat) : CS := (.seq (.ife (.or (.not (.isi (.var 2) .tup)) (.or (.cmp .ne (.blt .len (.cons (.var 2) .nil)) (.con (.int 3))) (.not (.blt .all (.cons (.comp (.call (ix 0) (.cons (.var 3) .nil)) (.nm 3) (.one (.var 2)) (.con (.bl true)) [3] false) .nil))))) (.ret (.con (.bl false))) .skip) (.ife (.or (.not .nil) (.cmp .lt (.idx (.var 2) (.con (.int 2))) (.con (.int 1)))) (.ret (.con (.bl false))) .skip))
def cf_are_stretches (ix : Nat → Nat) : CF := ⟨2, 5, (.seq (.ife (.not (.isi (.var 1) .tup)) (.ret (.con (.bl false))) .skip) (.seq (.fr (.nm 2) (.one (.var 1)) (cb_are_stretches_1 ix)) (.ret (.blt .all (.cons (.comp (.cmp .lt (.idx (.var 1) (.var 4)) (.idx (.var 1) (.bin .add (.var 4) (.con (.int 1))))) (.nm 4) (.rng (.con (.int 0)) (.bin .sub (.blt .len (.cons (.var 1) .nil)) (.con (.int 1)))) (.con (.bl true)) [4] false) .nil)))))⟩
def cf_holds_one (ix : Nat → Nat) : CF := ⟨3, 4, (.ret (.blt .any (.cons (.comp (.and (.cmp .le (.idx (.var 1) (.con (.int 0))) (.idx (.var 3) (.con (.int 0)))) (.and (.cmp .le (.idx (.var 3) (.con (.int 1))) (.idx (.var 1) (.con (.int 1)))) (.cmp .ge (.idx (.var 3) (.con (.int 2))) (.var 2)))) (.nm 3) (.one (.var 0)) (.con (.bl true)) [3] false) .nil)))⟩
def cb_does_need_1 (ix : Nat → Nat) : CS := (.seq (.asg (.nm 5) (.comp (.var 6) (.nm 6) (.one (.call (ix 222) (.cons (.var 0) (.cons (.idx (.var 3) (.con (.int 0))) (.cons (.idx (.var 3) (.con (.int 1))) (.cons (.var 4) .nil)))))) (.cmp .isnot (.var 6) (.con .non)) [6] false)) (.ife (.not (.blt .any (.cons (.comp (.call (ix 224) (.cons (.var 2) (.cons (.var 6) (.cons (.bin .sub (.idx (.var 3) (.con (.int 2))) (.con (.int 1))) .nil)))) (.nm 6) (.one (.var 5)) (.con (.bl true)) [6] false) .nil))) (.ret (.con (.bl false))) .skip))
def cf_does_need (ix : Nat → Nat) : CF := ⟨4, 7, (.seq (.fr (.nm 4) (.rng (.con (.int 1)) (.bin .add (.var 1) (.con (.int 1)))) (cb_does_need_1 ix)) (.ret (.con (.bl true))))⟩
def cf_is_plan (ix : Nat → Nat) : CF := ⟨5, 7, (.seq (.ife (.cmp .is (.var 3) (.con .non)) (.ret (.cmp .is (.var 4) (.con .non))) .skip) (.seq (.ife (.cmp .eq (.idx (.var 3) (.con (.int 0))) (.idx (.var 3) (.con (.int 1)))) (.ret (.and (.isi (.var 4) .tup) (.cmp .eq (.var 4) (.tup .nil)))) .skip) (.seq (.ife (.or (.cmp .eq (.var 2) (.con (.int 0))) (.or (.not (.isi (.var 4) .tup)) (.or (.cmp .ne (.blt .len (.cons (.var 4) .nil)) (.con (.int 4))) (.not (.call (ix 0) (.cons (.idx (.var 4) (.con (.int 0))) .nil)))))) (.ret (.con (.bl false))) .skip) (.seq (.ife (.not (.chain .le .le (.con (.int 1)) (.idx (.var 4) (.con (.int 0))) (.var 1))) (.ret (.con (.bl false))) .skip) (.seq (.asg (.nm 5) (.call (ix 222) (.cons (.var 0) (.cons (.idx (.var 3) (.con (.int 0))) (.cons (.idx (.var 3) (.con (.int 1))) (.cons (.idx (.var 4) (.con (.int 0))) .nil)))))) (.ret (.blt .all (.cons (.comp (.call (ix 0) (.cons (.var 0) (.cons (.var 1) (.cons (.bin .sub (.var 2) (.con (.int 1))) (.cons (.idx (.var 5) (.var 6)) (.cons (.idx (.var 4) (.bin .add (.var 6) (.con (.int 1)))) .nil)))))) (.nm 6) (.rng (.con (.int 0)) (.con (.int 3))) (.con (.bl true)) [6] false) .nil))))))))⟩
def cf_lamp_taken (ix : Nat → Nat) : CF := ⟨4, 10, (.seq (.ife (.or (.cmp .ne (.call (ix 196) (.cons (.var 0) (.cons (.var 1) .nil))) (.con (.str "two"))) (.or (.not (.call (ix 0) (.cons (.var 2) .nil))) (.cmp .lt (.var 2) (.con (.int 0))))) (.ret (.con (.bl false))) .skip) (.seq (.ife (.or (.not (.isi (.var 3) .tup)) (.cmp .ne (.blt .len (.cons (.var 3) .nil)) (.con (.int 2)))) (.ret (.con (.bl false))) .skip) (.seq (.asg (.nm 4) (.bin .add .nil (.tup (.cons (.call (ix 34) (.cons (.var 0) .nil)) .nil)))) (.seq (.asg (.nm 5) (.comp (.call (ix 43) (.cons (.var 0) (.cons (.tup (.cons (.var 8) (.cons (.con (.int 1)) .nil))) .nil))) (.nm 8) (.one (.call (ix 35) (.cons (.var 0) .nil))) (.con (.bl true)) [8] false)) (.seq (.asg (.tp (.cons (.nm 6) (.cons (.nm 7) .nil))) (.tup (.cons (.call (ix 221) (.cons (.var 4) (.cons (.var 5) .nil))) (.cons (.blt .len (.cons (.var 5) .nil)) .nil)))) (.seq (.ife (.or (.not (.call (ix 226) (.cons (.var 6) (.cons (.var 7) (.cons (.var 2) (.cons (.tup (.cons (.con (.int 0)) (.cons (.bin .sub (.blt .len (.cons (.var 6) .nil)) (.con (.int 1))) .nil))) (.cons (.idx (.var 3) (.con (.int 0))) .nil))))))) (.not (.call (ix 223) (.cons (.var 6) (.cons (.idx (.var 3) (.con (.int 1))) .nil))))) (.ret (.con (.bl false))) .skip) (.seq (.ife (.not (.blt .all (.cons (.comp (.or (.cmp .eq (.idx (.var 9) (.con (.int 2))) (.con (.int 1))) (.call (ix 225) (.cons (.var 6) (.cons (.var 7) (.cons (.idx (.var 3) (.con (.int 1))) (.cons (.var 9) .nil)))))) (.nm 9) (.one (.idx (.var 3) (.con (.int 1)))) (.con (.bl true)) [9] false) .nil))) (.ret (.con (.bl false))) .skip) (.ret (.or (.cmp .eq (.var 2) (.con (.int 0))) (.blt .any (.cons (.comp (.cmp .eq (.idx (.var 9) (.con (.int 2))) (.var 2)) (.nm 9) (.one (.idx (.var 3) (.con (.int 1)))) (.con (.bl true)) [9] false) .nil)))))))))))⟩
def cf_short_taken (ix : Nat → Nat) : CF := ⟨4, 4, (.seq (.ife (.cmp .eq (.var 0) (.con (.str "sound"))) (.ret (.and (.cmp .is (.var 3) (.con .non)) (.call (ix 194) (.cons (.var 1) (.cons (.var 2) .nil))))) .skip) (.ret (.call (ix 199) (.cons (.var 1) (.cons (.var 2) (.cons (.var 3) .nil))))))⟩
def cf_kind_by_2 (ix : Nat → Nat) : CF := ⟨2, 4, (.seq (.ife (.cmp .is (.idx (.var 1) (.con (.int 0))) (.con .non)) (.seq (.ife (.cmp .eq (.idx (.var 1) (.con (.int 2))) (.call (ix 5) (.cons (.idx (.var 0) (.con (.int 1))) (.cons (.call (ix 34) (.cons (.var 0) .nil)) .nil)))) (.ret (.tup (.cons (.con (.str "sound")) .nil))) .skip) (.ret (.tup (.cons (.con (.str "wrong")) (.cons (.con (.str "loop")) .nil))))) .skip) (.seq (.asg (.nm 2) .nil) (.seq (.asg (.nm 3) (.call (ix 104) (.cons (.var 2) .nil))) (.seq (.ife (.cmp .isnot (.var 3) (.con .non)) (.ret (.tup (.cons (.con (.str "wrong")) (.cons (.var 3) .nil)))) .skip) (.seq (.ife (.cmp .eq (.idx (.var 2) (.con (.int 3))) (.con (.tup [(.int 0), (.int 1)]))) (.ret (.tup (.cons (.con (.str "one")) (.cons (.tup (.cons (.call (ix 44) (.cons (.var 0) (.cons (.idx (.var 2) (.con (.int 0))) .nil))) (.cons (.idx (.var 2) (.con (.int 2))) .nil))) .nil)))) .skip) (.ret (.tup (.cons (.con (.str "two")) .nil))))))))⟩
def cf_check_two_2 (ix : Nat → Nat) : CF := ⟨2, 3, (.seq (.expr (.call (ix 100) (.cons (.var 1) .nil))) (.seq (.asg (.nm 2) (.call (ix 229) (.cons (.var 0) (.cons (.var 1) .nil)))) (.seq (.ife (.cmp .eq (.idx (.var 2) (.con (.int 0))) (.con (.str "wrong"))) (.rais 9 (.con .non)) .skip) (.seq (.ife (.cmp .ne (.idx (.var 2) (.con (.int 0))) (.con (.str "two"))) (.rais 10 (.con .non)) .skip) (.ret .nil)))))⟩
def cf_pair_at_2 (ix : Nat → Nat) : CF := ⟨3, 8, (.seq (.expr (.call (ix 32) (.cons (.var 0) .nil))) (.seq (.asg (.nm 3) (.call (ix 230) (.cons (.var 0) (.cons (.var 1) .nil)))) (.seq (.asg (.nm 4) (.call (ix 114) (.cons (.var 0) (.cons (.idx (.call (ix 111) (.cons (.var 0) (.cons (.var 3) .nil))) (.con (.int 0))) (.cons (.var 2) .nil))))) (.seq (.asg (.tp (.cons (.nm 4) (.cons (.nm 5) (.cons (.nm 6) (.cons (.nm 7) .nil))))) (.call (ix 112) (.cons (.var 0) (.cons (.var 3) (.cons (.var 4) .nil))))) (.ret (.tup (.cons (.tup (.cons (.var 2) (.cons (.var 5) .nil))) (.cons (.tup (.cons (.call (ix 44) (.cons (.var 0) (.cons (.var 6) .nil))) (.cons (.var 7) .nil))) .nil))))))))⟩
def cb_law_day_2_1 (ix : Nat → Nat) : CS := (.seq (.asg (.nm 7) (.call (ix 72) (.cons (.var 0) (.cons (.var 5) .nil)))) (.seq (.ife (.cmp .is (.var 4) (.con .non)) (.asg (.nm 4) (.tup (.cons (.var 7) (.cons (.tup (.cons (.con (.int 0)) (.cons (.con (.int 1)) .nil))) (.cons (.var 6) .nil))))) (.seq (.asg (.nm 8) (.call (ix 39) (.cons (.idx (.var 4) (.con (.int 1))) (.cons (.call (ix 47) (.cons (.var 7) (.cons (.var 3) .nil))) .nil)))) (.seq (.asg (.nm 9) (.call (ix 39) (.cons (.call (ix 39) (.cons (.idx (.var 4) (.con (.int 2))) (.cons (.var 6) .nil))) (.cons (.var 8) .nil)))) (.seq (.asg (.nm 10) (.call (ix 39) (.cons (.idx (.var 4) (.con (.int 0))) (.cons (.call (ix 48) (.cons (.call (ix 40) (.cons (.idx (.var 4) (.con (.int 2))) (.cons (.var 8) .nil))) (.cons (.var 9) .nil))) .nil)))) (.asg (.nm 4) (.tup (.cons (.var 10) (.cons (.call (ix 48) (.cons (.call (ix 40) (.cons (.var 6) (.cons (.var 8) .nil))) (.cons (.var 9) .nil))) (.cons (.call (ix 48) (.cons (.call (ix 40) (.cons (.idx (.var 4) (.con (.int 2))) (.cons (.var 6) .nil))) (.cons (.var 9) .nil))) .nil))))))))) (.asg (.nm 3) (.var 7))))
def cf_law_day_2 (ix : Nat → Nat) : CF := ⟨2, 12, (.seq (.asg (.tp (.cons (.nm 2) (.cons (.nm 3) (.cons (.nm 4) .nil)))) (.tup (.cons (.call (ix 50) (.cons (.var 0) .nil)) (.cons (.tup (.cons (.con (.int 0)) (.cons (.con (.int 1)) .nil))) (.cons (.con .non) .nil))))) (.seq (.fr (.tp (.cons (.nm 5) (.cons (.nm 6) .nil))) (.one (.var 1)) (cb_law_day_2_1 ix)) (.seq (.ife (.cmp .is (.var 4) (.con .non)) (.ret (.tup (.cons (.con .non) (.cons (.con .non) (.cons (.call (ix 39) (.cons (.idx (.var 0) (.con (.int 1))) (.cons (.var 2) .nil))) .nil))))) .skip) (.seq (.asg (.nm 11) (.call (ix 39) (.cons (.idx (.var 4) (.con (.int 1))) (.cons (.call (ix 47) (.cons (.var 2) (.cons (.var 3) .nil))) .nil)))) (.ret (.tup (.cons (.call (ix 39) (.cons (.idx (.var 4) (.con (.int 0))) (.cons (.idx (.var 4) (.con (.int 2))) .nil))) (.cons (.call (ix 39) (.cons (.var 11) (.cons (.idx (.var 4) (.con (.int 2))) .nil))) (.cons (.call (ix 39) (.cons (.idx (.var 0) (.con (.int 1))) (.cons (.call (ix 39) (.cons (.idx (.var 4) (.con (.int 0))) (.cons (.var 11) .nil))) .nil))) .nil)))))))))⟩
def cf_law_is_day (ix : Nat → Nat) : CF := ⟨1, 2, (.seq (.ife (.or (.not (.isi (.var 0) .tup)) (.or (.cmp .ne (.blt .len (.cons (.var 0) .nil)) (.con (.int 3))) (.or (.not (.call (ix 22) (.cons (.idx (.var 0) (.con (.int 2))) .nil))) (.cmp .lt (.idx (.idx (.var 0) (.con (.int 2))) (.con (.int 0))) (.con (.int 0)))))) (.ret (.con (.bl false))) .skip) (.seq (.ife (.or (.cmp .is (.idx (.var 0) (.con (.int 0))) (.con .non)) (.cmp .is (.idx (.var 0) (.con (.int 1))) (.con .non))) (.ret (.and (.cmp .is (.idx (.var 0) (.con (.int 0))) (.con .non)) (.cmp .is (.idx (.var 0) (.con (.int 1))) (.con .non)))) .skip) (.ret (.blt .all (.cons (.comp (.and (.call (ix 22) (.cons (.var 1) .nil)) (.cmp .gt (.idx (.var 1) (.con (.int 0))) (.con (.int 0)))) (.nm 1) (.one (.sl (.var 0) .nil (.one (.con (.int 2))))) (.con (.bl true)) [1] false) .nil)))))⟩
def cf_law_kind_3 (ix : Nat → Nat) : CF := ⟨2, 10, (.seq (.ife (.cmp .is (.idx (.var 1) (.con (.int 0))) (.con .non)) (.ret (.idx (.lst (.cons (.con (.str "loop")) (.cons (.con (.str "sound")) .nil))) (.blt .int (.cons (.cmp .eq (.var 1) (.call (ix 232) (.cons (.var 0) (.cons (.tup .nil) .nil)))) .nil)))) .skip) (.seq (.asg (.tp (.cons (.nm 2) (.cons (.nm 3) (.cons (.nm 4) (.cons (.nm 5) .nil))))) (.call (ix 108) (.cons (.var 0) (.cons (.var 1) .nil)))) (.seq (.asg (.nm 6) (.call (ix 47) (.cons (.call (ix 40) (.cons (.var 2) (.cons (.var 3) .nil))) (.cons (.call (ix 40) (.cons (.var 4) (.cons (.var 5) .nil))) .nil)))) (.seq (.asg (.nm 7) (.lst (.cons (.tup (.cons (.con (.str "loop")) (.cons (.cmp .lt (.idx (.var 5) (.con (.int 0))) (.con (.int 0))) .nil))) (.cons (.tup (.cons (.con (.str "earth")) (.cons (.cmp .le (.idx (.var 4) (.con (.int 0))) (.con (.int 0))) .nil))) (.cons (.tup (.cons (.con (.str "west")) (.cons (.cmp .lt (.idx (.var 2) (.con (.int 0))) (.con (.int 0))) .nil))) (.cons (.tup (.cons (.con (.str "east")) (.cons (.cmp .lt (.idx (.var 3) (.con (.int 0))) (.con (.int 0))) .nil))) .nil)))))) (.seq (.asg (.nm 7) (.bin .add (.var 7) (.lst (.cons (.tup (.cons (.con (.str "lack")) (.cons (.cmp .lt (.idx (.var 6) (.con (.int 0))) (.con (.int 0))) .nil))) (.cons (.tup (.cons (.con (.str "one")) (.cons (.cmp .eq (.idx (.var 5) (.con (.int 0))) (.con (.int 0))) .nil))) (.cons (.tup (.cons (.con (.str "two")) (.cons (.con (.bl true)) .nil))) .nil)))))) (.ret (.idx (.comp (.var 8) (.tp (.cons (.nm 8) (.cons (.nm 9) .nil))) (.one (.var 7)) (.var 9) [8, 9] false) (.con (.int 0)))))))))⟩
def cf_law_any_day (ix : Nat → Nat) : CF := ⟨2, 6, (.seq (.asg (.nm 2) (.call (ix 50) (.cons (.var 1) .nil))) (.seq (.asg (.nm 3) (.call (ix 21) (.cons (.bin .sub (.call (ix 19) (.cons (.var 0) (.cons (.con (.int 60)) .nil))) (.con (.int 8))) (.cons (.bin .add (.con (.int 1)) (.call (ix 19) (.cons (.var 0) (.cons (.con (.int 4)) .nil)))) .nil)))) (.seq (.asg (.nm 4) (.call (ix 21) (.cons (.bin .sub (.call (ix 19) (.cons (.var 0) (.cons (.con (.int 60)) .nil))) (.con (.int 8))) (.cons (.bin .add (.con (.int 1)) (.call (ix 19) (.cons (.var 0) (.cons (.con (.int 4)) .nil)))) .nil)))) (.seq (.asg (.nm 5) (.call (ix 21) (.cons (.bin .sub (.call (ix 19) (.cons (.var 0) (.cons (.con (.int 60)) .nil))) (.con (.int 8))) (.cons (.bin .add (.con (.int 1)) (.call (ix 19) (.cons (.var 0) (.cons (.con (.int 4)) .nil)))) .nil)))) (.seq (.ife (.cmp .eq (.call (ix 19) (.cons (.var 0) (.cons (.con (.int 2)) .nil))) (.con (.int 1))) (.seq (.asg (.nm 3) (.call (ix 40) (.cons (.var 2) (.cons (.call (ix 21) (.cons (.call (ix 19) (.cons (.var 0) (.cons (.con (.int 9)) .nil))) (.cons (.con (.int 9)) .nil))) .nil)))) (.asg (.nm 4) (.call (ix 40) (.cons (.var 2) (.cons (.call (ix 21) (.cons (.call (ix 19) (.cons (.var 0) (.cons (.con (.int 9)) .nil))) (.cons (.con (.int 9)) .nil))) .nil))))) .skip) (.ret (.tup (.cons (.call (ix 39) (.cons (.var 3) (.cons (.var 5) .nil))) (.cons (.call (ix 39) (.cons (.var 4) (.cons (.var 5) .nil))) (.cons (.call (ix 39) (.cons (.idx (.var 1) (.con (.int 1))) (.cons (.call (ix 39) (.cons (.var 3) (.cons (.var 4) .nil))) .nil))) .nil))))))))))⟩
def cb_law_some_days_2_1 (ix : Nat → Nat) : CS := (.seq (.asg (.nm 8) (.call (ix 19) (.cons (.var 0) (.cons (.con (.int 8)) .nil)))) (.seq (.asg (.nm 9) .nil) (.seq (.ife (.cmp .lt (.var 8) (.con (.int 2))) (.asg (.nm 9) .nil) .skip) (.seq (.ife (.cmp .eq (.var 8) (.con (.int 2))) (.asg (.nm 9) .edic) .skip) (.seq (.ife (.and (.cmp .eq (.var 8) (.con (.int 3))) (.var 6)) (.asg (.nm 9) (.call (ix 122) (.cons (.var 0) (.cons (.var 1) .nil)))) .skip) (.seq (.asg (.nm 10) (.call (ix 232) (.cons (.var 1) (.cons (.blt .tuple (.cons (.comp (.tup (.cons (.call (ix 21) (.cons (.var 11) (.cons (.con (.int 6)) .nil))) (.cons (.call (ix 21) (.cons (.idx (.idx (.var 9) (.var 11)) (.con (.int 0))) (.cons (.idx (.idx (.var 9) (.var 11)) (.con (.int 1))) .nil))) .nil))) (.nm 11) (.one (.blt .sorted (.cons (.var 9) .nil))) (.con (.bl true)) [11] false) .nil)) .nil)))) (.seq (.ife (.and (.cmp .eq (.var 8) (.con (.int 4))) (.cmp .ne (.var 5) (.lst .nil))) (.asg (.nm 10) (.idx (.var 5) (.call (ix 19) (.cons (.var 0) (.cons (.blt .len (.cons (.var 5) .nil)) .nil))))) .skip) (.expr (.mth .append (.var 5) (.cons (.var 10) .nil))))))))))
def cf_law_some_days_2 (ix : Nat → Nat) : CF := ⟨4, 12, (.seq (.asg (.nm 4) (.blt .sorted (.cons (.var 2) .nil))) (.seq (.asg (.tp (.cons (.nm 5) (.cons (.nm 6) .nil))) (.tup (.cons (.mlst .nil) (.cons (.cmp .eq (.call (ix 19) (.cons (.var 0) (.cons (.con (.int 3)) .nil))) (.con (.int 1))) .nil)))) (.seq (.fr (.nm 7) (.rng (.con (.int 0)) (.bin .add (.con (.int 1)) (.call (ix 19) (.cons (.var 0) (.cons (.var 3) .nil))))) (cb_law_some_days_2_1 ix)) (.ret (.blt .tuple (.cons (.var 5) .nil))))))⟩
def cf_cuts_taken_3 (ix : Nat → Nat) : CF := ⟨4, 11, (.seq (.ife (.or (.cmp .ne (.call (ix 196) (.cons (.var 0) (.cons (.var 1) .nil))) (.con (.str "two"))) (.or (.not (.call (ix 0) (.cons (.var 2) .nil))) (.or (.not (.isi (.var 3) .tup)) (.cmp .ne (.blt .len (.cons (.var 3) .nil)) (.con (.int 2)))))) (.ret (.con (.bl false))) .skip) (.seq (.ife (.or (.not (.call (ix 204) (.cons (.var 0) (.cons (.idx (.var 3) (.con (.int 0))) .nil)))) (.not (.call (ix 205) (.cons (.var 0) (.cons (.idx (.var 3) (.con (.int 1))) .nil))))) (.ret (.con (.bl false))) .skip) (.seq (.ife (.or (.cmp .ne (.blt .len (.cons (.idx (.var 3) (.con (.int 0))) .nil)) (.var 2)) (.cmp .ne (.blt .len (.cons (.idx (.var 3) (.con (.int 1))) .nil)) (.var 2))) (.ret (.con (.bl false))) .skip) (.seq (.asg (.nm 4) (.bin .add .nil (.tup (.cons (.call (ix 34) (.cons (.var 0) .nil)) .nil)))) (.seq (.asg (.nm 5) (.comp (.call (ix 43) (.cons (.var 0) (.cons (.tup (.cons (.var 7) (.cons (.con (.int 1)) .nil))) .nil))) (.nm 7) (.one (.call (ix 35) (.cons (.var 0) .nil))) (.con (.bl true)) [7] false)) (.seq (.asg (.nm 6) (.comp (.idx (.var 5) (.bin .sub (.var 8) (.con (.int 1)))) (.nm 8) (.one (.idx (.var 3) (.con (.int 0)))) (.con (.bl true)) [8] false)) (.seq (.ife (.not (.blt .all (.cons (.comp (.call (ix 203) (.cons (.var 4) (.cons (.var 6) (.cons (.var 9) .nil)))) (.nm 9) (.one (.var 5)) (.con (.bl true)) [9] false) .nil))) (.ret (.con (.bl false))) .skip) (.ret .nil))))))))⟩
def cb_pairs_that_fit_3_1 (ix : Nat → Nat) : CS := (.ife (.and (.not (.call (ix 9) (.cons (.var 6) (.cons (.con (.tup [(.int 0), (.int 1)])) .nil)))) (.and (.call (ix 9) (.cons (.var 6) (.cons (.var 7) .nil))) (.not (.call (ix 9) (.cons (.var 4) (.cons (.var 7) .nil)))))) (.seq (.asg (.nm 8) (.tup (.cons (.call (ix 44) (.cons (.var 0) (.cons (.var 6) .nil))) (.cons (.call (ix 44) (.cons (.var 0) (.cons (.var 7) .nil))) .nil)))) (.ife (.and (.cmp .notin (.var 8) (.var 5)) .nil) (.expr (.mth .append (.var 5) (.cons (.var 8) .nil))) .skip)) .skip)
def cf_pairs_that_fit_3 (ix : Nat → Nat) : CF := ⟨4, 9, (.seq (.asg (.nm 4) (.call (ix 34) (.cons (.var 0) .nil))) (.seq (.asg (.nm 5) (.mlst .nil)) (.seq (.fr (.tp (.cons (.nm 6) (.cons (.nm 7) .nil))) (.one (.call (ix 217) (.cons (.var 0) (.cons (.var 2) (.cons (.var 3) .nil))))) (cb_pairs_that_fit_3_1 ix)) (.seq (.ife (.and (.cmp .eq (.blt .len (.cons (.var 5) .nil)) (.con (.int 2))) (.call (ix 9) (.cons (.idx (.idx (.var 5) (.con (.int 1))) (.con (.int 0))) (.cons (.idx (.idx (.var 5) (.con (.int 0))) (.con (.int 0))) .nil)))) (.expr (.mth .reverse (.var 5) .nil)) .skip) (.seq (.ife (.and (.cmp .eq (.blt .len (.cons (.var 5) .nil)) (.con (.int 2))) (.and (.cmp .eq (.idx (.idx (.var 5) (.con (.int 1))) (.con (.int 0))) (.idx (.idx (.var 5) (.con (.int 0))) (.con (.int 0)))) (.call (ix 9) (.cons (.idx (.idx (.var 5) (.con (.int 1))) (.con (.int 1))) (.cons (.idx (.idx (.var 5) (.con (.int 0))) (.con (.int 1))) .nil))))) (.expr (.mth .reverse (.var 5) .nil)) .skip) (.ret (.blt .tuple (.cons (.var 5) .nil))))))))⟩
def cf_are_all_3 (ix : Nat → Nat) : CF := ⟨2, 9, (.seq (.asg (.tp (.cons (.nm 2) (.cons (.nm 3) (.cons (.nm 4) .nil)))) (.var 0)) (.seq (.ife (.or (.not (.call (ix 207) (.cons (.var 3) .nil))) (.not (.isi (.var 4) .tup))) (.ret (.con (.bl false))) .skip) (.seq (.ife (.blt .any (.cons (.comp (.cmp .eq (.call (ix 196) (.cons (.var 2) (.cons (.var 7) .nil))) (.con (.str "wrong"))) (.nm 7) (.one (.var 3)) (.con (.bl true)) [7] false) .nil)) (.ret (.con (.bl false))) .skip) (.seq (.ife (.or (.not (.isi (.var 1) .tup)) (.or (.cmp .ne (.blt .len (.cons (.var 1) .nil)) (.con (.int 2))) (.not (.blt .all (.cons (.comp (.call (ix 218) (.cons (.var 5) (.cons (.blt .len (.cons (.var 3) .nil)) .nil))) (.nm 5) (.one (.var 1)) (.con (.bl true)) [5] false) .nil))))) (.ret (.con (.bl false))) .skip) (.seq (.ife (.not (.blt .all (.cons (.comp (.and (.call (ix 208) (.cons (.var 2) (.cons (.var 8) .nil))) (.cmp .eq (.blt .len (.cons (.var 8) .nil)) (.con (.int 2)))) (.nm 8) (.one (.var 4)) (.con (.bl true)) [8] false) .nil))) (.ret (.con (.bl false))) .skip) (.seq (.asg (.tp (.cons (.nm 5) (.cons (.nm 6) .nil))) (.tup (.cons (.idx (.var 3) (.idx (.var 1) (.con (.int 0)))) (.cons (.idx (.var 3) (.idx (.var 1) (.con (.int 1)))) .nil)))) (.ret (.and (.call (ix 214) (.cons (.var 2) (.cons (.var 5) (.cons (.var 6) .nil)))) (.cmp .eq (.call (ix 238) (.cons (.var 2) (.cons (.var 3) (.cons (.var 5) (.cons (.var 6) .nil))))) (.var 4))))))))))⟩
def cf_clash_together_3 (ix : Nat → Nat) : CF := ⟨2, 5, (.seq (.asg (.nm 2) (.comp (.var 4) (.nm 4) (.one (.var 1)) (.not (.call (ix 194) (.cons (.var 0) (.cons (.var 4) .nil)))) [4] false)) (.seq (.ife (.blt .any (.cons (.comp (.cmp .eq (.call (ix 196) (.cons (.var 0) (.cons (.var 4) .nil))) (.con (.str "wrong"))) (.nm 4) (.one (.var 2)) (.con (.bl true)) [4] false) .nil)) (.ret (.con (.bl true))) .skip) (.seq (.asg (.nm 3) (.comp (.var 4) (.nm 4) (.one (.var 2)) (.call (ix 214) (.cons (.var 0) (.cons (.idx (.var 2) (.con (.int 0))) (.cons (.var 4) .nil)))) [4] false)) (.ret (.and (.cmp .ne (.var 3) (.lst .nil)) (.cmp .eq (.call (ix 238) (.cons (.var 0) (.cons (.var 1) (.cons (.idx (.var 2) (.con (.int 0))) (.cons (.idx (.var 3) (.con (.int 0))) .nil))))) (.tup .nil)))))))⟩
def cb_do_clash_3_1 (ix : Nat → Nat) : CS := (.ife (.not .nil) (.ret (.con (.bl false))) .skip)
def cf_do_clash_3 (ix : Nat → Nat) : CF := ⟨2, 8, (.seq (.asg (.tp (.cons (.nm 2) (.cons (.nm 3) (.cons (.nm 4) .nil)))) (.var 0)) (.seq (.ife (.or (.not (.call (ix 207) (.cons (.var 3) .nil))) (.not (.call (ix 219) (.cons (.var 3) (.cons (.var 4) .nil))))) (.ret (.con (.bl false))) .skip) (.seq (.ife (.or (.not (.isi (.var 1) .tup)) (.cmp .ne (.blt .len (.cons (.var 1) .nil)) (.blt .len (.cons (.var 4) .nil)))) (.ret (.con (.bl false))) .skip) (.seq (.ife (.not (.blt .all (.cons (.comp (.call (ix 208) (.cons (.var 2) (.cons (.var 6) .nil))) (.nm 6) (.one (.var 1)) (.con (.bl true)) [6] false) .nil))) (.ret (.con (.bl false))) .skip) (.seq (.ife (.not (.call (ix 240) (.cons (.var 2) (.cons (.comp (.idx (.var 3) (.var 5)) (.nm 5) (.one (.var 4)) (.con (.bl true)) [5] false) .nil)))) (.ret (.con (.bl false))) .skip) (.seq (.fr (.tp (.cons (.nm 5) (.cons (.nm 6) .nil))) (.one .nil) (cb_do_clash_3_1 ix)) (.ret (.con (.bl true)))))))))⟩
def cf_day_taken_3 (ix : Nat → Nat) : CF := ⟨5, 5, (.seq (.ife (.cmp .eq (.var 0) (.con (.str "one"))) (.ret (.and (.cmp .is (.var 4) (.con .non)) (.call (ix 197) (.cons (.var 1) (.cons (.var 2) (.cons (.var 3) .nil)))))) .skip) (.seq (.ife (.cmp .eq (.var 0) (.con (.str "pair"))) (.ret (.call (ix 198) (.cons (.var 1) (.cons (.var 2) (.cons (.var 3) (.cons (.var 4) .nil)))))) .skip) (.seq (.ife (.cmp .eq (.var 0) (.con (.str "cuts"))) (.ret (.call (ix 237) (.cons (.var 1) (.cons (.var 2) (.cons (.var 3) (.cons (.var 4) .nil)))))) .skip) (.ret (.call (ix 227) (.cons (.var 1) (.cons (.var 2) (.cons (.var 3) (.cons (.var 4) .nil)))))))))⟩
def cf_days_taken_3 (ix : Nat → Nat) : CF := ⟨3, 3, (.seq (.ife (.cmp .eq (.var 0) (.con (.str "fits"))) (.ret (.call (ix 210) (.cons (.var 1) (.cons (.var 2) .nil)))) .skip) (.seq (.ife (.cmp .eq (.var 0) (.con (.str "all"))) (.ret (.call (ix 239) (.cons (.var 1) (.cons (.var 2) .nil)))) .skip) (.ret (.and (.cmp .eq (.var 0) (.con (.str "clash"))) (.call (ix 241) (.cons (.var 1) (.cons (.var 2) .nil)))))))⟩
def cf_holds_3 (ix : Nat → Nat) : CF := ⟨2, 5, (.seq (.ife (.or (.not (.isi (.var 0) .tup)) (.or (.cmp .notin (.blt .len (.cons (.var 0) .nil)) (.tup (.cons (.con (.int 3)) (.cons (.con (.int 4)) .nil)))) (.not (.isi (.idx (.var 0) (.con (.int 0))) .str)))) (.ret (.con (.bl false))) .skip) (.seq (.asg (.tp (.cons (.nm 2) (.cons (.nm 3) (.cons (.nm 4) .nil)))) (.sl (.var 0) .nil (.one (.con (.int 3))))) (.seq (.ife (.not (.call (ix 31) (.cons (.var 3) .nil))) (.ret (.con (.bl false))) .skip) (.seq (.ife (.cmp .eq (.blt .len (.cons (.var 0) .nil)) (.con (.int 3))) (.ret (.and (.cmp .isin (.var 2) (.con (.tup [(.str "sound"), (.str "wrong")]))) (.and (.call (ix 191) (.cons (.var 4) .nil)) (.call (ix 228) (.cons (.var 2) (.cons (.var 3) (.cons (.var 4) (.cons (.var 1) .nil)))))))) .skip) (.seq (.ife (.cmp .isin (.var 2) (.con (.tup [(.str "one"), (.str "pair"), (.str "cuts"), (.str "lamp")]))) (.ret (.and (.call (ix 191) (.cons (.var 4) .nil)) (.call (ix 242) (.cons (.var 2) (.cons (.var 3) (.cons (.var 4) (.cons (.idx (.var 0) (.con (.int 3))) (.cons (.var 1) .nil)))))))) .skip) (.ret (.call (ix 243) (.cons (.var 2) (.cons (.sl (.var 0) (.one (.con (.int 1))) .nil) (.cons (.var 1) .nil))))))))))⟩
def cf_west_span_2 (ix : Nat → Nat) : CF := ⟨2, 2, (.seq (.expr (.call (ix 32) (.cons (.var 0) .nil))) (.ret (.call (ix 115) (.cons (.var 0) (.cons (.idx (.call (ix 111) (.cons (.var 0) (.cons (.call (ix 230) (.cons (.var 0) (.cons (.var 1) .nil))) .nil))) (.con (.int 0))) .nil)))))⟩
def cf_two_drags_2 (ix : Nat → Nat) : CF := ⟨3, 12, (.seq (.asg (.tp (.cons (.nm 3) (.cons (.nm 4) (.cons (.nm 5) (.cons (.nm 6) .nil))))) .nil) (.seq (.asg (.tp (.cons (.nm 7) (.cons (.nm 8) .nil))) (.tup (.cons (.call (ix 43) (.cons (.var 0) (.cons (.idx (.var 2) (.con (.int 0))) .nil))) (.cons (.call (ix 43) (.cons (.var 0) (.cons (.idx (.var 2) (.con (.int 1))) .nil))) .nil)))) (.seq (.asg (.tp (.cons (.nm 9) (.cons (.nm 10) .nil))) (.tup (.cons (.call (ix 6) (.cons (.var 3) (.cons (.var 7) .nil))) (.cons (.call (ix 6) (.cons (.var 4) (.cons (.call (ix 6) (.cons (.call (ix 34) (.cons (.var 0) .nil)) (.cons (.var 8) .nil))) .nil))) .nil)))) (.seq (.ife (.or (.not (.call (ix 9) (.cons (.con (.tup [(.int 0), (.int 1)])) (.cons (.var 9) .nil)))) (.or (.not (.call (ix 9) (.cons (.con (.tup [(.int 0), (.int 1)])) (.cons (.var 10) .nil)))) (.cmp .ne (.call (ix 7) (.cons (.var 9) (.cons (.var 10) .nil))) (.call (ix 7) (.cons (.var 5) (.cons (.var 6) .nil)))))) (.ret (.con .non)) .skip) (.seq (.asg (.nm 11) (.call (ix 8) (.cons (.call (ix 6) (.cons (.var 8) (.cons (.var 7) .nil))) (.cons (.var 6) .nil)))) (.ret (.tup (.cons (.call (ix 7) (.cons (.var 9) (.cons (.var 11) .nil))) (.cons (.call (ix 7) (.cons (.var 10) (.cons (.var 11) .nil))) .nil)))))))))⟩
def cf_fits_by_2 (ix : Nat → Nat) : CF := ⟨3, 5, (.seq (.asg (.nm 3) (.call (ix 229) (.cons (.var 0) (.cons (.var 1) .nil)))) (.seq (.ife (.cmp .eq (.idx (.var 3) (.con (.int 0))) (.con (.str "sound"))) (.ret (.bin .mul (.tup (.cons (.con .non) .nil)) (.blt .len (.cons (.var 2) .nil)))) .skip) (.seq (.ife (.and (.cmp .eq (.idx (.var 3) (.con (.int 0))) (.con (.str "one"))) (.cmp .isin (.idx (.idx (.var 3) (.con (.int 1))) (.con (.int 0))) (.var 2))) (.ret (.blt .tuple (.cons (.comp (.ife (.cmp .eq (.var 4) (.idx (.idx (.var 3) (.con (.int 1))) (.con (.int 0)))) (.idx (.idx (.var 3) (.con (.int 1))) (.con (.int 1))) (.con .non)) (.nm 4) (.one (.var 2)) (.con (.bl true)) [4] false) .nil))) .skip) (.seq (.ife (.and (.cmp .eq (.idx (.var 3) (.con (.int 0))) (.con (.str "two"))) (.cmp .eq (.blt .len (.cons (.var 2) .nil)) (.con (.int 2)))) (.ret (.call (ix 246) (.cons (.var 0) (.cons (.var 1) (.cons (.var 2) .nil))))) .skip) (.ret (.con .non))))))⟩
def cf_fit_all_4 (ix : Nat → Nat) : CF := ⟨3, 4, (.ret (.blt .all (.cons (.comp (.cmp .isnot (.call (ix 247) (.cons (.var 0) (.cons (.var 3) (.cons (.var 2) .nil)))) (.con .non)) (.nm 3) (.one (.var 1)) (.con (.bl true)) [3] false) .nil)))⟩
def cf_are_apart_3 (ix : Nat → Nat) : CF := ⟨3, 5, (.seq (.ife (.cmp .eq (.var 1) (.var 2)) (.ret (.con (.bl false))) .skip) (.seq (.asg (.tp (.cons (.nm 3) (.cons (.nm 4) .nil))) (.tup (.cons (.call (ix 229) (.cons (.var 0) (.cons (.var 1) .nil))) (.cons (.call (ix 229) (.cons (.var 0) (.cons (.var 2) .nil))) .nil)))) (.ret (.or (.cmp .eq (.idx (.var 3) (.con (.int 0))) (.con (.str "two"))) (.or (.cmp .eq (.idx (.var 4) (.con (.int 0))) (.con (.str "two"))) (.cmp .ne (.idx (.idx (.var 3) (.con (.int 1))) (.con (.int 0))) (.idx (.idx (.var 4) (.con (.int 1))) (.con (.int 0)))))))))⟩
def cf_drags_by_2 (ix : Nat → Nat) : CF := ⟨3, 5, (.seq (.expr (.call (ix 32) (.cons (.var 0) .nil))) (.seq (.expr (.call (ix 152) (.cons (.var 1) .nil))) (.seq (.expr (.call (ix 173) (.cons (.var 0) (.cons (.var 2) .nil)))) (.seq (.asg (.nm 3) (.blt .tuple (.cons (.comp (.call (ix 247) (.cons (.var 0) (.cons (.var 4) (.cons (.var 2) .nil)))) (.nm 4) (.one (.var 1)) (.con (.bl true)) [4] false) .nil))) (.seq (.ife (.cmp .isin (.con .non) (.var 3)) (.ret (.con .non)) .skip) (.ret (.var 3)))))))⟩
def cf_pair_of (ix : Nat → Nat) : CF := ⟨2, 2, (.ret (.call (ix 231) (.cons (.var 0) (.cons (.var 1) (.cons (.idx (.call (ix 245) (.cons (.var 0) (.cons (.var 1) .nil))) (.con (.int 0))) .nil)))))⟩
def cf_unlike_days (ix : Nat → Nat) : CF := ⟨2, 5, (.seq (.asg (.nm 2) (.comp (.var 4) (.nm 4) (.rng (.con (.int 0)) (.blt .len (.cons (.var 1) .nil))) (.cmp .ne (.call (ix 229) (.cons (.var 0) (.cons (.idx (.var 1) (.var 4)) .nil))) (.tup (.cons (.con (.str "sound")) .nil))) [4] false)) (.seq (.asg (.nm 3) (.idx (.var 2) (.con (.int 0)))) (.ret (.tup (.cons (.var 3) (.cons (.idx (.comp (.var 4) (.nm 4) (.one (.var 2)) .nil [4] false) (.con (.int 0))) .nil))))))⟩
def cf_kind_of_2 (ix : Nat → Nat) : CF := ⟨2, 2, (.seq (.expr (.call (ix 32) (.cons (.var 0) .nil))) (.seq (.expr (.call (ix 100) (.cons (.var 1) .nil))) (.ret (.call (ix 229) (.cons (.var 0) (.cons (.var 1) .nil))))))⟩
def cf_next_cut_2 (ix : Nat → Nat) : CF := ⟨4, 7, (.seq (.asg (.nm 4) (.comp (.var 6) (.nm 6) (.rng (.con (.int 0)) (.blt .len (.cons (.var 0) .nil))) (.not (.call (ix 9) (.cons (.idx (.var 0) (.var 6)) (.cons (.var 3) .nil)))) [6] false)) (.seq (.ife (.and (.cmp .ne (.var 4) (.lst .nil)) (.call (ix 9) (.cons (.idx (.var 0) (.idx (.var 4) (.con (.int 0)))) (.cons .nil .nil)))) (.ret (.tup (.cons (.idx (.var 4) (.con (.int 0))) (.cons (.var 3) .nil)))) .skip) (.seq (.asg (.nm 5) (.bin .sub (.blt .len (.cons (.var 0) .nil)) (.blt .len (.cons (.var 4) .nil)))) (.seq (.ife (.cmp .eq (.var 5) (.con (.int 0))) (.ret (.con .non)) .skip) (.ret (.tup (.cons (.bin .sub (.var 5) (.con (.int 1))) (.cons (.idx (.var 0) (.bin .sub (.var 5) (.con (.int 1)))) .nil))))))))⟩
def cb_cover_by_2_1 (ix : Nat → Nat) : CS := (.seq (.asg (.nm 7) (.call (ix 254) (.cons (.var 3) (.cons (.var 2) (.cons (.var 1) (.cons (.var 6) .nil)))))) (.seq (.ife (.cmp .is (.var 7) (.con .non)) .brk .skip) (.seq (.expr (.mth .append (.var 4) (.cons (.bin .add (.idx (.var 7) (.con (.int 0))) (.con (.int 1))) .nil))) (.seq (.expr (.mth .append (.var 5) (.cons (.idx (.var 7) (.con (.int 1))) .nil))) (.asg (.nm 6) .nil)))))
def cf_cover_by_2 (ix : Nat → Nat) : CF := ⟨2, 9, (.seq (.asg (.nm 2) (.call (ix 34) (.cons (.var 0) .nil))) (.seq (.asg (.nm 3) (.comp (.call (ix 43) (.cons (.var 0) (.cons (.tup (.cons (.var 8) (.cons (.con (.int 1)) .nil))) .nil))) (.nm 8) (.one (.call (ix 35) (.cons (.var 0) .nil))) (.con (.bl true)) [8] false)) (.seq (.asg (.tp (.cons (.nm 4) (.cons (.nm 5) .nil))) (.tup (.cons (.mlst .nil) (.cons (.mlst .nil) .nil)))) (.seq (.asg (.nm 6) (.call (ix 6) (.cons (.idx (.var 1) (.con (.int 0))) (.cons (.call (ix 8) (.cons (.call (ix 7) (.cons (.idx (.var 1) (.con (.int 2))) (.cons (.idx (.var 1) (.con (.int 3))) .nil))) (.cons (.idx (.var 1) (.con (.int 1))) .nil))) .nil)))) (.seq (.whl (.and (.cmp .isnot (.var 6) (.con .non)) (.not (.call (ix 9) (.cons (.var 6) (.cons (.con (.tup [(.int 0), (.int 1)])) .nil))))) (cb_cover_by_2_1 ix)) (.seq (.expr (.mth .reverse (.var 4) .nil)) (.seq (.expr (.mth .reverse (.var 5) .nil)) (.ret (.tup (.cons (.blt .tuple (.cons (.var 4) .nil)) (.cons (.blt .tuple (.cons (.var 5) .nil)) .nil)))))))))))⟩
def cf_cover_of_3 (ix : Nat → Nat) : CF := ⟨2, 6, (.seq (.expr (.call (ix 32) (.cons (.var 0) .nil))) (.seq (.asg (.nm 2) (.call (ix 230) (.cons (.var 0) (.cons (.var 1) .nil)))) (.seq (.asg (.tp (.cons (.nm 3) (.cons (.nm 4) .nil))) (.call (ix 255) (.cons (.var 0) (.cons (.var 2) .nil)))) (.ret (.tup (.cons (.var 3) (.cons (.blt .tuple (.cons (.comp (.call (ix 44) (.cons (.var 0) (.cons (.var 5) .nil))) (.nm 5) (.one (.var 4)) (.con (.bl true)) [5] false) .nil)) .nil)))))))⟩
def cf_marks_of (ix : Nat → Nat) : CF := ⟨3, 6, (.seq (.asg (.nm 3) (.call (ix 6) (.cons (.idx (.var 2) (.con (.int 0))) (.cons (.call (ix 8) (.cons (.call (ix 7) (.cons (.idx (.var 2) (.con (.int 2))) (.cons (.idx (.var 2) (.con (.int 3))) .nil))) (.cons (.idx (.var 2) (.con (.int 1))) .nil))) .nil)))) (.seq (.asg (.nm 4) (.bin .add (.bin .add (.lst (.cons (.con (.tup [(.int 0), (.int 1)])) (.cons (.var 3) .nil))) (.comp .nil (.nm 5) (.one (.var 0)) (.con (.bl true)) [5] false)) (.blt .list (.cons (.var 0) .nil)))) (.ret (.comp (.var 5) (.nm 5) (.one (.var 4)) (.and (.cmp .isnot (.var 5) (.con .non)) (.and (.not (.call (ix 9) (.cons (.var 5) (.cons (.con (.tup [(.int 0), (.int 1)])) .nil)))) (.not (.call (ix 9) (.cons (.var 3) (.cons (.var 5) .nil)))))) [5] false))))⟩
def cb_ways_by_1 (ix : Nat → Nat) : CS := (.seq (.asg (.nm 6) .nil) (.seq (.asg (.nm 7) (.blt .len (.cons (.comp (.var 9) (.nm 9) (.one (.var 3)) (.call (ix 9) (.cons (.var 9) (.cons (.var 5) .nil))) [9] false) .nil))) (.set (.var 4) (.tup (.cons (.var 7) (.cons (.blt .len (.cons (.comp (.var 9) (.nm 9) (.one (.var 3)) (.call (ix 9) (.cons (.var 9) (.cons (.var 6) .nil))) [9] false) .nil)) .nil))) (.con (.bl true)))))
def cf_ways_by (ix : Nat → Nat) : CF := ⟨2, 10, (.seq (.asg (.nm 2) (.call (ix 34) (.cons (.var 0) .nil))) (.seq (.asg (.nm 3) (.comp (.call (ix 43) (.cons (.var 0) (.cons (.tup (.cons (.var 8) (.cons (.con (.int 1)) .nil))) .nil))) (.nm 8) (.one (.call (ix 35) (.cons (.var 0) .nil))) (.con (.bl true)) [8] false)) (.seq (.asg (.nm 4) .mdk) (.seq (.fr (.nm 5) (.one (.call (ix 257) (.cons (.var 3) (.cons (.var 2) (.cons (.var 1) .nil))))) (cb_ways_by_1 ix)) (.ret (.blt .tuple (.cons (.blt .sorted (.cons (.var 4) .nil)) .nil)))))))⟩
def cf_answer_of (ix : Nat → Nat) : CF := ⟨2, 2, (.seq (.ife (.cmp .lt (.idx (.var 0) (.con (.int 1))) (.var 1)) (.ret (.con (.int 0))) .skip) (.ret (.bin .add (.con (.int 1)) (.blt .int (.cons (.cmp .ge (.idx (.var 0) (.con (.int 0))) (.var 1)) .nil)))))⟩
def cb_stretches_left_1 (ix : Nat → Nat) : CS := (.seq (.asg (.nm 6) (.call (ix 259) (.cons (.idx (.var 0) (.var 5)) (.cons (.var 3) .nil)))) (.seq (.ife (.cmp .is (.idx (.var 4) (.var 6)) (.con .non)) (.set (.var 4) (.var 6) (.tup (.cons (.var 5) (.cons (.var 5) .nil)))) .skip) (.set (.var 4) (.var 6) (.tup (.cons (.idx (.idx (.var 4) (.var 6)) (.con (.int 0))) (.cons (.var 5) .nil))))))
def cf_stretches_left (ix : Nat → Nat) : CF := ⟨4, 7, (.seq (.asg (.nm 4) (.mlst (.cons (.con .non) (.cons (.con .non) (.cons (.con .non) .nil))))) (.seq (.fr (.nm 5) (.rng (.var 1) (.bin .add (.var 2) (.con (.int 1)))) (cb_stretches_left_1 ix)) (.retF 4)))⟩
def cf_needed_by (ix : Nat → Nat) : CF := ⟨2, 3, (.ret (.blt .max (.cons (.comp (.idx (.idx (.var 0) (.var 2)) (.con (.int 0))) (.nm 2) (.one (.var 1)) (.cmp .isnot (.var 2) (.con .non)) [2] false) .nil)))⟩
def cb_table_by_1 (ix : Nat → Nat) : CS := (.seq (.asg (.nm 7) (.call (ix 260) (.cons (.var 0) (.cons (.var 4) (.cons (.var 5) (.cons (.var 6) .nil)))))) (.ife (.and (.cmp .gt (.var 3) (.con (.int 0))) (.cmp .notin (.tup (.cons (.var 4) (.cons (.var 5) .nil))) (.var 7))) (.seq (.asg (.nm 8) (.bin .add (.con (.int 1)) (.call (ix 261) (.cons (.var 2) (.cons (.var 7) .nil))))) (.ife (.cmp .lt (.var 8) (.idx (.idx (.var 2) (.tup (.cons (.var 4) (.cons (.var 5) .nil)))) (.con (.int 0)))) (.set (.var 2) (.tup (.cons (.var 4) (.cons (.var 5) .nil))) (.tup (.cons (.var 8) (.cons (.var 6) .nil)))) .skip)) .skip))
def cb_table_by_2 (ix : Nat → Nat) : CS := (.seq (.asg (.nm 5) (.bin .add (.var 4) (.var 3))) (.seq (.set (.var 2) (.tup (.cons (.var 4) (.cons (.var 5) .nil))) (.tup (.cons (.con (.int 0)) (.cons (.con (.int 0)) .nil)))) (.seq (.ife (.cmp .gt (.var 3) (.con (.int 0))) (.set (.var 2) (.tup (.cons (.var 4) (.cons (.var 5) .nil))) (.tup (.cons (.blt .len (.cons (.var 0) .nil)) (.cons (.con (.int 0)) .nil)))) .skip) (.fr (.nm 6) (.rng (.con (.int 1)) (.bin .add (.var 1) (.con (.int 1)))) (cb_table_by_1 ix)))))
def cb_table_by_3 (ix : Nat → Nat) : CS := (.fr (.nm 4) (.rng (.con (.int 0)) (.bin .sub (.blt .len (.cons (.var 0) .nil)) (.var 3))) (cb_table_by_2 ix))
def cf_table_by (ix : Nat → Nat) : CF := ⟨2, 9, (.seq (.asg (.nm 2) .mdk) (.seq (.fr (.nm 3) (.rng (.con (.int 0)) (.blt .len (.cons (.var 0) .nil))) (cb_table_by_3 ix)) (.retF 2)))⟩
def cf_all_ways (ix : Nat → Nat) : CF := ⟨2, 2, (.seq (.expr (.call (ix 32) (.cons (.var 0) .nil))) (.ret (.call (ix 258) (.cons (.var 0) (.cons (.call (ix 230) (.cons (.var 0) (.cons (.var 1) .nil))) .nil)))))⟩
def cf_ways_of (ix : Nat → Nat) : CF := ⟨2, 2, (.ret (.call (ix 263) (.cons (.var 0) (.cons (.var 1) .nil))))⟩
def cf_lamp_needed (ix : Nat → Nat) : CF := ⟨2, 3, (.seq (.asg (.nm 2) (.call (ix 263) (.cons (.var 0) (.cons (.var 1) .nil)))) (.ret (.idx (.idx (.call (ix 262) (.cons (.var 2) (.cons (.bin .sub (.blt .len (.cons (.idx (.var 0) (.con (.int 0))) .nil)) (.con (.int 1))) .nil))) (.tup (.cons (.con (.int 0)) (.cons (.bin .sub (.blt .len (.cons (.var 2) .nil)) (.con (.int 1))) .nil)))) (.con (.int 0)))))⟩
def cf_plan_by (ix : Nat → Nat) : CF := ⟨3, 7, (.seq (.ife (.cmp .is (.var 2) (.con .non)) (.ret (.con .non)) .skip) (.seq (.asg (.tp (.cons (.nm 3) (.cons (.nm 4) .nil))) (.idx (.var 1) (.var 2))) (.seq (.ife (.cmp .eq (.var 3) (.con (.int 0))) (.ret (.tup .nil)) .skip) (.seq (.asg (.nm 5) (.call (ix 260) (.cons (.var 0) (.cons (.idx (.var 2) (.con (.int 0))) (.cons (.idx (.var 2) (.con (.int 1))) (.cons (.var 4) .nil)))))) (.ret (.bin .add (.tup (.cons (.var 4) .nil)) (.blt .tuple (.cons (.comp (.call (ix 0) (.cons (.var 0) (.cons (.var 1) (.cons (.var 6) .nil)))) (.nm 6) (.one (.var 5)) (.con (.bl true)) [6] false) .nil))))))))⟩
def cf_lamp_plan (ix : Nat → Nat) : CF := ⟨2, 3, (.seq (.asg (.nm 2) (.call (ix 263) (.cons (.var 0) (.cons (.var 1) .nil)))) (.ret (.call (ix 266) (.cons (.var 2) (.cons (.call (ix 262) (.cons (.var 2) (.cons (.bin .sub (.blt .len (.cons (.idx (.var 0) (.con (.int 0))) .nil)) (.con (.int 1))) .nil))) (.cons (.tup (.cons (.con (.int 0)) (.cons (.bin .sub (.blt .len (.cons (.var 2) .nil)) (.con (.int 1))) .nil))) .nil))))))⟩
def cb_pairs_of_two_2_1 (ix : Nat → Nat) : CS := (.seq (.asg (.nm 9) (.call (ix 6) (.cons (.idx (.var 1) (.con (.int 0))) (.cons (.var 8) .nil)))) (.expr (.mth .append (.var 7) (.cons (.tup (.cons (.var 9) (.cons .nil .nil))) .nil))))
def cf_pairs_of_two_2 (ix : Nat → Nat) : CF := ⟨3, 10, (.seq (.asg (.tp (.cons (.nm 3) (.cons (.nm 4) .nil))) (.tup (.cons (.call (ix 6) (.cons (.idx (.var 2) (.con (.int 0))) (.cons (.idx (.var 1) (.con (.int 0))) .nil))) (.cons (.call (ix 6) (.cons (.idx (.var 2) (.con (.int 1))) (.cons (.idx (.var 1) (.con (.int 1))) .nil))) .nil)))) (.seq (.asg (.tp (.cons (.nm 5) (.cons (.nm 6) .nil))) (.tup (.cons (.call (ix 7) (.cons (.idx (.var 1) (.con (.int 2))) (.cons (.idx (.var 1) (.con (.int 3))) .nil))) (.cons (.call (ix 7) (.cons (.idx (.var 2) (.con (.int 2))) (.cons (.idx (.var 2) (.con (.int 3))) .nil))) .nil)))) (.seq (.asg (.nm 7) (.mlst .nil)) (.seq (.fr (.nm 8) (.one (.call (ix 157) (.cons (.var 4) (.cons (.call (ix 6) (.cons (.call (ix 5) (.cons (.call (ix 7) (.cons (.var 4) (.cons (.var 3) .nil))) (.cons (.var 5) .nil))) (.cons (.var 6) .nil))) (.cons (.call (ix 7) (.cons (.var 5) (.cons (.var 3) .nil))) .nil))))) (cb_pairs_of_two_2_1 ix)) (.retF 7)))))⟩
def cf_pairs_with_2 (ix : Nat → Nat) : CF := ⟨3, 3, (.ret (.lst (.cons (.tup (.cons (.var 2) (.cons .nil .nil))) (.cons (.tup (.cons .nil (.cons (.var 2) .nil))) .nil))))⟩
def cf_pairs_of_3 (ix : Nat → Nat) : CF := ⟨3, 9, (.seq (.asg (.tp (.cons (.nm 3) (.cons (.nm 4) .nil))) (.tup (.cons (.call (ix 229) (.cons (.var 0) (.cons (.var 1) .nil))) (.cons (.call (ix 229) (.cons (.var 0) (.cons (.var 2) .nil))) .nil)))) (.seq (.ife (.and (.cmp .eq (.idx (.var 3) (.con (.int 0))) (.con (.str "one"))) (.cmp .eq (.idx (.var 4) (.con (.int 0))) (.con (.str "one")))) (.seq (.asg (.nm 5) (.tup (.cons (.idx (.idx (.var 3) (.con (.int 1))) (.con (.int 0))) (.cons (.idx (.idx (.var 4) (.con (.int 1))) (.con (.int 0))) .nil)))) (.ret (.lst (.cons (.ife (.call (ix 9) (.cons (.idx (.var 5) (.con (.int 0))) (.cons (.idx (.var 5) (.con (.int 1))) .nil))) (.var 5) (.rev (.var 5))) .nil)))) .skip) (.seq (.ife (.cmp .eq (.idx (.var 3) (.con (.int 0))) (.con (.str "one"))) (.asg (.nm 6) (.call (ix 269) (.cons (.var 0) (.cons .nil (.cons (.call (ix 43) (.cons (.var 0) (.cons (.idx (.idx (.var 3) (.con (.int 1))) (.con (.int 0))) .nil))) .nil))))) (.ife (.cmp .eq (.idx (.var 4) (.con (.int 0))) (.con (.str "one"))) (.asg (.nm 6) (.call (ix 269) (.cons (.var 0) (.cons .nil (.cons (.call (ix 43) (.cons (.var 0) (.cons (.idx (.idx (.var 4) (.con (.int 1))) (.con (.int 0))) .nil))) .nil))))) (.asg (.nm 6) (.call (ix 268) (.cons (.var 0) (.cons .nil (.cons .nil .nil))))))) (.ret (.comp (.tup (.cons (.call (ix 44) (.cons (.var 0) (.cons (.var 7) .nil))) (.cons (.call (ix 44) (.cons (.var 0) (.cons (.var 8) .nil))) .nil))) (.tp (.cons (.nm 7) (.cons (.nm 8) .nil))) (.one (.var 6)) (.and (.cmp .isnot (.var 7) (.con .non)) (.cmp .isnot (.var 8) (.con .non))) [7, 8] false)))))⟩
def cb_pairs_told_3_1 (ix : Nat → Nat) : CS := (.ife (.and (.cmp .notin (.var 5) (.var 4)) .nil) (.expr (.mth .append (.var 4) (.cons (.var 5) .nil))) .skip)
def cf_pairs_told_3 (ix : Nat → Nat) : CF := ⟨4, 6, (.seq (.asg (.nm 4) (.mlst .nil)) (.seq (.fr (.nm 5) (.one (.call (ix 270) (.cons (.var 0) (.cons (.var 2) (.cons (.var 3) .nil))))) (cb_pairs_told_3_1 ix)) (.seq (.ife (.and (.cmp .eq (.blt .len (.cons (.var 4) .nil)) (.con (.int 2))) (.call (ix 162) (.cons (.idx (.var 4) (.con (.int 1))) (.cons (.idx (.var 4) (.con (.int 0))) .nil)))) (.asg (.nm 4) (.rev (.var 4))) .skip) (.ret (.blt .tuple (.cons (.var 4) .nil))))))⟩
def cf_telling_by_3 (ix : Nat → Nat) : CF := ⟨2, 10, (.seq (.asg (.nm 2) (.comp (.call (ix 229) (.cons (.var 0) (.cons (.var 7) .nil))) (.nm 7) (.one (.var 1)) (.con (.bl true)) [7] false)) (.seq (.asg (.nm 3) (.comp (.var 8) (.nm 8) (.rng (.con (.int 0)) (.blt .len (.cons (.var 1) .nil))) (.cmp .ne (.idx (.var 2) (.var 8)) (.tup (.cons (.con (.str "sound")) .nil))) [8] false)) (.seq (.ife (.cmp .eq (.var 3) (.lst .nil)) (.ret (.tup (.cons (.con (.str "sound")) .nil))) .skip) (.seq (.ife (.cmp .isin (.con (.str "wrong")) (.comp (.idx (.var 9) (.con (.int 0))) (.nm 9) (.one (.var 2)) (.con (.bl true)) [9] false)) (.ret (.tup (.cons (.con (.str "clash")) .nil))) .skip) (.seq (.asg (.nm 4) (.idx (.var 3) (.con (.int 0)))) (.seq (.asg (.nm 5) (.comp (.var 8) (.nm 8) (.one (.var 3)) .nil [8] false)) (.seq (.ife (.and (.cmp .eq (.var 5) (.lst .nil)) (.cmp .eq (.idx (.idx (.var 2) (.var 4)) (.con (.int 0))) (.con (.str "one")))) (.ret (.tup (.cons (.con (.str "one")) (.cons (.idx (.idx (.idx (.var 2) (.var 4)) (.con (.int 1))) (.con (.int 0))) .nil)))) .skip) (.seq (.ife (.cmp .eq (.var 5) (.lst .nil)) (.ret (.tup (.cons (.con (.str "curve")) (.cons (.var 4) .nil)))) .skip) (.seq (.asg (.nm 6) (.call (ix 271) (.cons (.var 0) (.cons (.var 1) (.cons (.idx (.var 1) (.var 4)) (.cons (.idx (.var 1) (.idx (.var 5) (.con (.int 0)))) .nil)))))) (.seq (.ife (.cmp .eq (.var 6) (.tup .nil)) (.ret (.tup (.cons (.con (.str "clash")) .nil))) .skip) (.ret (.tup (.cons (.con (.str "pairs")) (.cons (.var 6) .nil))))))))))))))⟩
def cf_telling_3 (ix : Nat → Nat) : CF := ⟨2, 2, (.seq (.expr (.call (ix 32) (.cons (.var 0) .nil))) (.seq (.expr (.call (ix 152) (.cons (.var 1) .nil))) (.ret (.call (ix 272) (.cons (.var 0) (.cons (.var 1) .nil))))))⟩
def cb_clash_by_3_1 (ix : Nat → Nat) : CS := (.seq (.asg (.nm 4) (.comp (.var 5) (.nm 5) (.one (.var 2)) (.cmp .ne (.var 5) (.var 3)) [5] false)) (.ife (.cmp .eq (.call (ix 272) (.cons (.var 0) (.cons (.blt .tuple (.cons (.comp (.idx (.var 1) (.var 5)) (.nm 5) (.one (.var 4)) (.con (.bl true)) [5] false) .nil)) .nil))) (.tup (.cons (.con (.str "clash")) .nil))) (.asg (.nm 2) (.var 4)) .skip))
def cf_clash_by_3 (ix : Nat → Nat) : CF := ⟨2, 6, (.seq (.ife (.cmp .ne (.call (ix 272) (.cons (.var 0) (.cons (.var 1) .nil))) (.tup (.cons (.con (.str "clash")) .nil))) (.ret (.tup .nil)) .skip) (.seq (.asg (.nm 2) (.blt .list (.cons .nil .nil))) (.seq (.fr (.nm 3) (.one .nil) (cb_clash_by_3_1 ix)) (.ret (.blt .tuple (.cons (.var 2) .nil))))))⟩
def cf_paper_day (ix : Nat → Nat) : CF := ⟨2, 5, (.seq (.asg (.nm 2) (.call (ix 253) (.cons (.var 0) (.cons (.var 1) .nil)))) (.seq (.ife (.cmp .eq (.idx (.var 2) (.con (.int 0))) (.con (.str "sound"))) (.ret (.tup (.cons (.tup (.cons (.con (.str "sound")) (.cons (.var 0) (.cons (.var 1) .nil)))) (.cons (.con .non) .nil)))) .skip) (.seq (.ife (.cmp .eq (.idx (.var 2) (.con (.int 0))) (.con (.str "wrong"))) (.ret (.tup (.cons (.tup (.cons (.con (.str "wrong")) (.cons (.var 0) (.cons (.var 1) .nil)))) (.cons (.idx (.var 2) (.con (.int 1))) .nil)))) .skip) (.seq (.ife (.cmp .eq (.idx (.var 2) (.con (.int 0))) (.con (.str "one"))) (.ret (.tup (.cons (.tup (.cons (.con (.str "one")) (.cons (.var 0) (.cons (.var 1) (.cons (.idx (.var 2) (.con (.int 1))) .nil))))) (.cons (.con .non) .nil)))) .skip) (.seq (.asg (.tp (.cons (.nm 3) (.cons (.nm 4) .nil))) (.call (ix 251) (.cons (.var 0) (.cons (.var 1) .nil)))) (.ret (.tup (.cons (.tup (.cons (.con (.str "pair")) (.cons (.var 0) (.cons (.var 1) (.cons (.tup (.cons (.idx (.var 3) (.con (.int 0))) (.cons (.idx (.var 4) (.con (.int 0))) .nil))) .nil))))) (.cons (.tup (.cons (.idx (.var 3) (.con (.int 1))) (.cons (.idx (.var 4) (.con (.int 1))) .nil))) .nil)))))))))⟩
def cf_paper_cuts (ix : Nat → Nat) : CF := ⟨2, 4, (.seq (.asg (.tp (.cons (.nm 2) (.cons (.nm 3) .nil))) (.call (ix 256) (.cons (.var 0) (.cons (.var 1) .nil)))) (.ret (.tup (.cons (.tup (.cons (.con (.str "cuts")) (.cons (.var 0) (.cons (.var 1) (.cons (.blt .len (.cons (.var 2) .nil)) .nil))))) (.cons (.tup (.cons (.var 2) (.cons (.var 3) .nil))) .nil)))))⟩
def cf_paper_lamp (ix : Nat → Nat) : CF := ⟨2, 7, (.seq (.asg (.tp (.cons (.nm 2) (.cons (.nm 3) .nil))) (.tup (.cons (.call (ix 265) (.cons (.var 0) (.cons (.var 1) .nil))) (.cons (.call (ix 267) (.cons (.var 0) (.cons (.var 1) .nil))) .nil)))) (.seq (.asg (.nm 4) (.call (ix 262) (.cons (.call (ix 264) (.cons (.var 0) (.cons (.var 1) .nil))) (.cons (.bin .sub (.blt .len (.cons (.idx (.var 0) (.con (.int 0))) .nil)) (.con (.int 1))) .nil)))) (.seq (.asg (.nm 5) (.comp (.bin .add (.var 6) (.tup (.cons (.idx (.idx (.var 4) (.var 6)) (.con (.int 0))) .nil))) (.nm 6) (.one (.blt .sorted (.cons (.var 4) .nil))) (.cmp .gt (.idx (.idx (.var 4) (.var 6)) (.con (.int 0))) (.con (.int 0))) [6] false)) (.ret (.tup (.cons (.tup (.cons (.con (.str "lamp")) (.cons (.var 0) (.cons (.var 1) (.cons (.var 2) .nil))))) (.cons (.tup (.cons (.var 3) (.cons (.blt .tuple (.cons (.var 5) .nil)) .nil))) .nil)))))))⟩
def cf_places_that_fit_2 (ix : Nat → Nat) : CF := ⟨2, 5, (.seq (.asg (.nm 2) (.call (ix 272) (.cons (.var 0) (.cons (.var 1) .nil)))) (.seq (.ife (.cmp .eq (.idx (.var 2) (.con (.int 0))) (.con (.str "sound"))) (.ret (.tup .nil)) .skip) (.seq (.ife (.cmp .eq (.idx (.var 2) (.con (.int 0))) (.con (.str "one"))) (.ret (.tup (.cons (.idx (.var 2) (.con (.int 1))) .nil))) .skip) (.seq (.ife (.cmp .eq (.idx (.var 2) (.con (.int 0))) (.con (.str "pairs"))) (.ret (.idx (.idx (.var 2) (.con (.int 1))) (.con (.int 0)))) .skip) (.seq (.asg (.tp (.cons (.nm 3) (.cons (.nm 4) .nil))) (.call (ix 251) (.cons (.var 0) (.cons (.idx (.var 1) (.idx (.var 2) (.con (.int 1)))) .nil)))) (.ret (.tup (.cons (.idx (.var 3) (.con (.int 0))) (.cons (.idx (.var 4) (.con (.int 0))) .nil)))))))))⟩
def cb_clash_paper_2_1 (ix : Nat → Nat) : CS := (.expr (.mth .append (.var 3) (.cons (.call (ix 278) (.cons (.var 0) (.cons (.blt .tuple (.cons (.comp (.idx (.var 1) (.var 5)) (.nm 5) (.one (.var 2)) (.cmp .ne (.var 5) (.var 4)) [5] false) .nil)) .nil))) .nil)))
def cf_clash_paper_2 (ix : Nat → Nat) : CF := ⟨3, 6, (.seq (.asg (.nm 3) (.mlst .nil)) (.seq (.fr (.nm 4) (.one (.var 2)) (cb_clash_paper_2_1 ix)) (.ret (.blt .tuple (.cons (.var 3) .nil)))))⟩
def cf_paper_days_2 (ix : Nat → Nat) : CF := ⟨2, 5, (.seq (.asg (.nm 2) (.call (ix 273) (.cons (.var 0) (.cons (.var 1) .nil)))) (.seq (.ife (.cmp .eq (.idx (.var 2) (.con (.int 0))) (.con (.str "pairs"))) (.ret (.tup (.cons (.tup (.cons (.con (.str "all")) (.cons (.var 0) (.cons (.var 1) (.cons (.idx (.var 2) (.con (.int 1))) .nil))))) (.cons (.call (ix 252) (.cons (.var 0) (.cons (.var 1) .nil))) .nil)))) .skip) (.seq (.ife (.cmp .eq (.idx (.var 2) (.con (.int 0))) (.con (.str "clash"))) (.seq (.asg (.nm 3) (.call (ix 274) (.cons (.var 0) (.cons (.var 1) .nil)))) (.ret (.tup (.cons (.tup (.cons (.con (.str "clash")) (.cons (.var 0) (.cons (.var 1) (.cons (.var 3) .nil))))) (.cons (.call (ix 279) (.cons (.var 0) (.cons (.var 1) (.cons (.var 3) .nil)))) .nil))))) .skip) (.seq (.asg (.nm 4) (.call (ix 278) (.cons (.var 0) (.cons (.var 1) .nil)))) (.ret (.tup (.cons (.tup (.cons (.con (.str "fits")) (.cons (.var 0) (.cons (.var 1) (.cons (.var 4) .nil))))) (.cons (.call (ix 250) (.cons (.var 0) (.cons (.var 1) (.cons (.var 4) .nil)))) .nil))))))))⟩
def cf_cover_of_4 (ix : Nat → Nat) : CF := ⟨2, 6, (.seq (.expr (.call (ix 32) (.cons (.var 0) .nil))) (.seq (.asg (.nm 2) (.call (ix 110) (.cons (.var 0) (.cons (.var 1) .nil)))) (.seq (.asg (.tp (.cons (.nm 3) (.cons (.nm 4) .nil))) (.call (ix 255) (.cons (.var 0) (.cons (.var 2) .nil)))) (.ret (.tup (.cons (.var 3) (.cons (.blt .tuple (.cons (.comp (.call (ix 44) (.cons (.var 0) (.cons (.var 5) .nil))) (.nm 5) (.one (.var 4)) (.con (.bl true)) [5] false) .nil)) .nil)))))))⟩
def cf_pairs_of_4 (ix : Nat → Nat) : CF := ⟨3, 9, (.seq (.asg (.tp (.cons (.nm 3) (.cons (.nm 4) .nil))) (.tup (.cons (.call (ix 105) (.cons (.var 0) (.cons (.var 1) .nil))) (.cons (.call (ix 105) (.cons (.var 0) (.cons (.var 2) .nil))) .nil)))) (.seq (.ife (.and (.cmp .eq (.idx (.var 3) (.con (.int 0))) (.con (.str "one"))) (.cmp .eq (.idx (.var 4) (.con (.int 0))) (.con (.str "one")))) (.seq (.asg (.nm 5) (.tup (.cons (.idx (.idx (.var 3) (.con (.int 1))) (.con (.int 0))) (.cons (.idx (.idx (.var 4) (.con (.int 1))) (.con (.int 0))) .nil)))) (.ret (.lst (.cons (.ife (.call (ix 9) (.cons (.idx (.var 5) (.con (.int 0))) (.cons (.idx (.var 5) (.con (.int 1))) .nil))) (.var 5) (.rev (.var 5))) .nil)))) .skip) (.seq (.ife (.cmp .eq (.idx (.var 3) (.con (.int 0))) (.con (.str "one"))) (.asg (.nm 6) (.call (ix 269) (.cons (.var 0) (.cons (.call (ix 103) (.cons (.var 0) (.cons (.var 2) .nil))) (.cons (.call (ix 43) (.cons (.var 0) (.cons (.idx (.idx (.var 3) (.con (.int 1))) (.con (.int 0))) .nil))) .nil))))) (.ife (.cmp .eq (.idx (.var 4) (.con (.int 0))) (.con (.str "one"))) (.asg (.nm 6) (.call (ix 269) (.cons (.var 0) (.cons (.call (ix 103) (.cons (.var 0) (.cons (.var 1) .nil))) (.cons (.call (ix 43) (.cons (.var 0) (.cons (.idx (.idx (.var 4) (.con (.int 1))) (.con (.int 0))) .nil))) .nil))))) (.asg (.nm 6) (.call (ix 268) (.cons (.var 0) (.cons (.call (ix 103) (.cons (.var 0) (.cons (.var 1) .nil))) (.cons (.call (ix 103) (.cons (.var 0) (.cons (.var 2) .nil))) .nil))))))) (.ret (.comp (.tup (.cons (.call (ix 44) (.cons (.var 0) (.cons (.var 7) .nil))) (.cons (.call (ix 44) (.cons (.var 0) (.cons (.var 8) .nil))) .nil))) (.tp (.cons (.nm 7) (.cons (.nm 8) .nil))) (.one (.var 6)) (.and (.cmp .isnot (.var 7) (.con .non)) (.cmp .isnot (.var 8) (.con .non))) [7, 8] false)))))⟩
def cb_pairs_told_4_1 (ix : Nat → Nat) : CS := (.ife (.and (.cmp .notin (.var 5) (.var 4)) (.call (ix 161) (.cons (.var 0) (.cons (.var 1) (.cons (.var 5) .nil))))) (.expr (.mth .append (.var 4) (.cons (.var 5) .nil))) .skip)
def cf_pairs_told_4 (ix : Nat → Nat) : CF := ⟨4, 6, (.seq (.asg (.nm 4) (.mlst .nil)) (.seq (.fr (.nm 5) (.one (.call (ix 282) (.cons (.var 0) (.cons (.var 2) (.cons (.var 3) .nil))))) (cb_pairs_told_4_1 ix)) (.seq (.ife (.and (.cmp .eq (.blt .len (.cons (.var 4) .nil)) (.con (.int 2))) (.call (ix 162) (.cons (.idx (.var 4) (.con (.int 1))) (.cons (.idx (.var 4) (.con (.int 0))) .nil)))) (.asg (.nm 4) (.rev (.var 4))) .skip) (.ret (.blt .tuple (.cons (.var 4) .nil))))))⟩
def cf_telling_by_4 (ix : Nat → Nat) : CF := ⟨2, 10, (.seq (.asg (.nm 2) (.comp (.call (ix 105) (.cons (.var 0) (.cons (.var 7) .nil))) (.nm 7) (.one (.var 1)) (.con (.bl true)) [7] false)) (.seq (.asg (.nm 3) (.comp (.var 8) (.nm 8) (.rng (.con (.int 0)) (.blt .len (.cons (.var 1) .nil))) (.cmp .ne (.idx (.var 2) (.var 8)) (.tup (.cons (.con (.str "sound")) .nil))) [8] false)) (.seq (.ife (.cmp .eq (.var 3) (.lst .nil)) (.ret (.tup (.cons (.con (.str "sound")) .nil))) .skip) (.seq (.ife (.cmp .isin (.con (.str "wrong")) (.comp (.idx (.var 9) (.con (.int 0))) (.nm 9) (.one (.var 2)) (.con (.bl true)) [9] false)) (.ret (.tup (.cons (.con (.str "clash")) .nil))) .skip) (.seq (.asg (.nm 4) (.idx (.var 3) (.con (.int 0)))) (.seq (.asg (.nm 5) (.comp (.var 8) (.nm 8) (.one (.var 3)) (.call (ix 164) (.cons (.var 0) (.cons (.idx (.var 1) (.var 4)) (.cons (.idx (.var 1) (.var 8)) .nil)))) [8] false)) (.seq (.ife (.and (.cmp .eq (.var 5) (.lst .nil)) (.cmp .eq (.idx (.idx (.var 2) (.var 4)) (.con (.int 0))) (.con (.str "one")))) (.ret (.tup (.cons (.con (.str "one")) (.cons (.idx (.idx (.idx (.var 2) (.var 4)) (.con (.int 1))) (.con (.int 0))) .nil)))) .skip) (.seq (.ife (.cmp .eq (.var 5) (.lst .nil)) (.ret (.tup (.cons (.con (.str "curve")) (.cons (.var 4) .nil)))) .skip) (.seq (.asg (.nm 6) (.call (ix 283) (.cons (.var 0) (.cons (.var 1) (.cons (.idx (.var 1) (.var 4)) (.cons (.idx (.var 1) (.idx (.var 5) (.con (.int 0)))) .nil)))))) (.seq (.ife (.cmp .eq (.var 6) (.tup .nil)) (.ret (.tup (.cons (.con (.str "clash")) .nil))) .skip) (.ret (.tup (.cons (.con (.str "pairs")) (.cons (.var 6) .nil))))))))))))))⟩
def cf_telling_4 (ix : Nat → Nat) : CF := ⟨2, 2, (.seq (.expr (.call (ix 32) (.cons (.var 0) .nil))) (.seq (.expr (.call (ix 152) (.cons (.var 1) .nil))) (.ret (.call (ix 284) (.cons (.var 0) (.cons (.var 1) .nil))))))⟩
def cb_clash_by_4_1 (ix : Nat → Nat) : CS := (.seq (.asg (.nm 4) (.comp (.var 5) (.nm 5) (.one (.var 2)) (.cmp .ne (.var 5) (.var 3)) [5] false)) (.ife (.cmp .eq (.call (ix 284) (.cons (.var 0) (.cons (.blt .tuple (.cons (.comp (.idx (.var 1) (.var 5)) (.nm 5) (.one (.var 4)) (.con (.bl true)) [5] false) .nil)) .nil))) (.tup (.cons (.con (.str "clash")) .nil))) (.asg (.nm 2) (.var 4)) .skip))
def cf_clash_by_4 (ix : Nat → Nat) : CF := ⟨2, 6, (.seq (.ife (.cmp .ne (.call (ix 284) (.cons (.var 0) (.cons (.var 1) .nil))) (.tup (.cons (.con (.str "clash")) .nil))) (.ret (.tup .nil)) .skip) (.seq (.asg (.nm 2) (.blt .list (.cons .nil .nil))) (.seq (.fr (.nm 3) (.one .nil) (cb_clash_by_4_1 ix)) (.ret (.blt .tuple (.cons (.var 2) .nil))))))⟩
def cf_pair_of_2 (ix : Nat → Nat) : CF := ⟨2, 2, (.ret (.call (ix 118) (.cons (.var 0) (.cons (.var 1) (.cons (.idx (.call (ix 116) (.cons (.var 0) (.cons (.var 1) .nil))) (.con (.int 0))) .nil)))))⟩
def cf_paper_day_2 (ix : Nat → Nat) : CF := ⟨2, 5, (.seq (.asg (.nm 2) (.call (ix 109) (.cons (.var 0) (.cons (.var 1) .nil)))) (.seq (.ife (.cmp .eq (.idx (.var 2) (.con (.int 0))) (.con (.str "sound"))) (.ret (.tup (.cons (.tup (.cons (.con (.str "sound")) (.cons (.var 0) (.cons (.var 1) .nil)))) (.cons (.con .non) .nil)))) .skip) (.seq (.ife (.cmp .eq (.idx (.var 2) (.con (.int 0))) (.con (.str "wrong"))) (.ret (.tup (.cons (.tup (.cons (.con (.str "wrong")) (.cons (.var 0) (.cons (.var 1) .nil)))) (.cons (.idx (.var 2) (.con (.int 1))) .nil)))) .skip) (.seq (.ife (.cmp .eq (.idx (.var 2) (.con (.int 0))) (.con (.str "one"))) (.ret (.tup (.cons (.tup (.cons (.con (.str "one")) (.cons (.var 0) (.cons (.var 1) (.cons (.idx (.var 2) (.con (.int 1))) .nil))))) (.cons (.con .non) .nil)))) .skip) (.seq (.asg (.tp (.cons (.nm 3) (.cons (.nm 4) .nil))) (.call (ix 287) (.cons (.var 0) (.cons (.var 1) .nil)))) (.ret (.tup (.cons (.tup (.cons (.con (.str "pair")) (.cons (.var 0) (.cons (.var 1) (.cons (.tup (.cons (.idx (.var 3) (.con (.int 0))) (.cons (.idx (.var 4) (.con (.int 0))) .nil))) .nil))))) (.cons (.tup (.cons (.idx (.var 3) (.con (.int 1))) (.cons (.idx (.var 4) (.con (.int 1))) .nil))) .nil)))))))))⟩
def cf_paper_cuts_2 (ix : Nat → Nat) : CF := ⟨2, 4, (.seq (.asg (.tp (.cons (.nm 2) (.cons (.nm 3) .nil))) (.call (ix 281) (.cons (.var 0) (.cons (.var 1) .nil)))) (.ret (.tup (.cons (.tup (.cons (.con (.str "cuts")) (.cons (.var 0) (.cons (.var 1) (.cons (.blt .len (.cons (.var 2) .nil)) .nil))))) (.cons (.tup (.cons (.var 2) (.cons (.var 3) .nil))) .nil)))))⟩
def cf_places_that_fit_3 (ix : Nat → Nat) : CF := ⟨2, 5, (.seq (.asg (.nm 2) (.call (ix 284) (.cons (.var 0) (.cons (.var 1) .nil)))) (.seq (.ife (.cmp .eq (.idx (.var 2) (.con (.int 0))) (.con (.str "sound"))) (.ret (.tup .nil)) .skip) (.seq (.ife (.cmp .eq (.idx (.var 2) (.con (.int 0))) (.con (.str "one"))) (.ret (.tup (.cons (.idx (.var 2) (.con (.int 1))) .nil))) .skip) (.seq (.ife (.cmp .eq (.idx (.var 2) (.con (.int 0))) (.con (.str "pairs"))) (.ret (.idx (.idx (.var 2) (.con (.int 1))) (.con (.int 0)))) .skip) (.seq (.asg (.tp (.cons (.nm 3) (.cons (.nm 4) .nil))) (.call (ix 287) (.cons (.var 0) (.cons (.idx (.var 1) (.idx (.var 2) (.con (.int 1)))) .nil)))) (.ret (.tup (.cons (.idx (.var 3) (.con (.int 0))) (.cons (.idx (.var 4) (.con (.int 0))) .nil)))))))))⟩
def cf_unlike_days_2 (ix : Nat → Nat) : CF := ⟨2, 5, (.seq (.asg (.nm 2) (.comp (.var 4) (.nm 4) (.rng (.con (.int 0)) (.blt .len (.cons (.var 1) .nil))) (.cmp .ne (.call (ix 105) (.cons (.var 0) (.cons (.idx (.var 1) (.var 4)) .nil))) (.tup (.cons (.con (.str "sound")) .nil))) [4] false)) (.seq (.asg (.nm 3) (.idx (.var 2) (.con (.int 0)))) (.ret (.tup (.cons (.var 3) (.cons (.idx (.comp (.var 4) (.nm 4) (.one (.var 2)) (.call (ix 164) (.cons (.var 0) (.cons (.idx (.var 1) (.var 3)) (.cons (.idx (.var 1) (.var 4)) .nil)))) [4] false) (.con (.int 0))) .nil))))))⟩
def cb_clash_paper_3_1 (ix : Nat → Nat) : CS := (.expr (.mth .append (.var 3) (.cons (.call (ix 290) (.cons (.var 0) (.cons (.blt .tuple (.cons (.comp (.idx (.var 1) (.var 5)) (.nm 5) (.one (.var 2)) (.cmp .ne (.var 5) (.var 4)) [5] false) .nil)) .nil))) .nil)))
def cf_clash_paper_3 (ix : Nat → Nat) : CF := ⟨3, 6, (.seq (.asg (.nm 3) (.mlst .nil)) (.seq (.fr (.nm 4) (.one (.var 2)) (cb_clash_paper_3_1 ix)) (.ret (.blt .tuple (.cons (.var 3) .nil)))))⟩
def cf_paper_days_3 (ix : Nat → Nat) : CF := ⟨2, 5, (.seq (.asg (.nm 2) (.call (ix 285) (.cons (.var 0) (.cons (.var 1) .nil)))) (.seq (.ife (.cmp .eq (.idx (.var 2) (.con (.int 0))) (.con (.str "pairs"))) (.ret (.tup (.cons (.tup (.cons (.con (.str "all")) (.cons (.var 0) (.cons (.var 1) (.cons (.idx (.var 2) (.con (.int 1))) .nil))))) (.cons (.call (ix 291) (.cons (.var 0) (.cons (.var 1) .nil))) .nil)))) .skip) (.seq (.ife (.cmp .eq (.idx (.var 2) (.con (.int 0))) (.con (.str "clash"))) (.seq (.asg (.nm 3) (.call (ix 286) (.cons (.var 0) (.cons (.var 1) .nil)))) (.ret (.tup (.cons (.tup (.cons (.con (.str "clash")) (.cons (.var 0) (.cons (.var 1) (.cons (.var 3) .nil))))) (.cons (.call (ix 292) (.cons (.var 0) (.cons (.var 1) (.cons (.var 3) .nil)))) .nil))))) .skip) (.seq (.asg (.nm 4) (.call (ix 290) (.cons (.var 0) (.cons (.var 1) .nil)))) (.ret (.tup (.cons (.tup (.cons (.con (.str "fits")) (.cons (.var 0) (.cons (.var 1) (.cons (.var 4) .nil))))) (.cons (.call (ix 174) (.cons (.var 0) (.cons (.var 1) (.cons (.var 4) .nil)))) .nil))))))))⟩
def cf_cuts_needed_2 (ix : Nat → Nat) : CF := ⟨2, 2, (.seq (.expr (.call (ix 32) (.cons (.var 0) .nil))) (.ret (.call (ix 141) (.cons (.blt .len (.cons (.idx (.call (ix 255) (.cons (.var 0) (.cons (.call (ix 230) (.cons (.var 0) (.cons (.var 1) .nil))) .nil))) (.con (.int 0))) .nil)) .nil))))⟩
def cf_thing_in (ix : Nat → Nat) : CF := ⟨2, 2, (.seq (.ife (.cmp .eq (.var 0) (.con (.str "n"))) (.ret (.call (ix 54) (.cons (.var 1) (.cons (.con (.int 9)) .nil)))) .skip) (.ret (.call (ix 55) (.cons (.var 1) (.cons (.con (.int 40)) .nil)))))⟩
def cf_row_in (ix : Nat → Nat) : CF := ⟨1, 5, (.seq (.asg (.nm 1) .nil) (.seq (.ife (.or (.cmp .notin (.idx (.var 1) (.con (.int 0))) .nil) (.cmp .ne (.bin .sub (.blt .len (.cons (.var 1) .nil)) (.con (.int 1))) (.blt .len (.cons (.idx .nil (.idx (.var 1) (.con (.int 0)))) .nil)))) (.ret (.con .non)) .skip) (.seq (.asg (.nm 2) (.comp (.call (ix 295) (.cons (.var 3) (.cons (.var 4) .nil))) (.tp (.cons (.nm 3) (.cons (.nm 4) .nil))) (.one .nil) (.con (.bl true)) [3, 4] false)) (.seq (.ife (.cmp .isin (.con .non) (.var 2)) (.ret (.con .non)) .skip) (.ret (.tup (.cons (.idx (.var 1) (.con (.int 0))) (.cons (.var 2) .nil))))))))⟩
def cf_cable_text (ix : Nat → Nat) : CF := ⟨1, 1, (.ret .nil)⟩
def cf_leak_text (ix : Nat → Nat) : CF := ⟨1, 1, (.ret (.bin .add (.bin .add (.call (ix 52) (.cons (.idx (.var 0) (.con (.int 0))) .nil)) (.con (.str " "))) (.call (ix 52) (.cons (.idx (.var 0) (.con (.int 1))) .nil))))⟩
def cf_kind_text (ix : Nat → Nat) : CF := ⟨1, 1, (.seq (.ife (.cmp .eq (.idx (.var 0) (.con (.int 0))) (.con (.str "one"))) (.ret (.bin .add (.con (.str "one ")) (.call (ix 298) (.cons (.idx (.var 0) (.con (.int 1))) .nil)))) .skip) (.ret .nil))⟩
def cf_span_text (ix : Nat → Nat) : CF := ⟨1, 1, (.ret (.bin .add (.bin .add (.call (ix 52) (.cons (.idx (.var 0) (.con (.int 0))) .nil)) (.con (.str " to "))) (.call (ix 52) (.cons (.idx (.var 0) (.con (.int 1))) .nil))))⟩
def cf_numbers_text (ix : Nat → Nat) : CF := ⟨1, 2, (.seq (.ife (.cmp .eq (.blt .len (.cons (.var 0) .nil)) (.con (.int 0))) (.ret (.con (.str "none"))) .skip) (.ret .nil))⟩
def cf_telling_text (ix : Nat → Nat) : CF := ⟨1, 2, (.seq (.ife (.cmp .eq (.idx (.var 0) (.con (.int 0))) (.con (.str "one"))) (.ret (.bin .add (.con (.str "one ")) (.call (ix 52) (.cons (.idx (.var 0) (.con (.int 1))) .nil)))) .skip) (.seq (.ife (.cmp .eq (.idx (.var 0) (.con (.int 0))) (.con (.str "curve"))) (.ret (.bin .add (.con (.str "curve ")) (.blt .str (.cons (.idx (.var 0) (.con (.int 1))) .nil)))) .skip) (.seq (.ife (.cmp .eq (.idx (.var 0) (.con (.int 0))) (.con (.str "pairs"))) (.ret (.bin .add (.con (.str "pairs ")) .nil)) .skip) (.ret (.idx (.var 0) (.con (.int 0)))))))⟩
def cf_east_span_2 (ix : Nat → Nat) : CF := ⟨2, 2, (.seq (.expr (.call (ix 32) (.cons (.var 0) .nil))) (.ret (.call (ix 115) (.cons (.var 0) (.cons (.idx (.call (ix 111) (.cons (.var 0) (.cons (.call (ix 230) (.cons (.var 0) (.cons (.var 1) .nil))) .nil))) (.con (.int 1))) .nil)))))⟩
def cf_day_text (ix : Nat → Nat) : CF := ⟨4, 7, (.seq (.ife (.cmp .eq (.var 0) (.con (.str "kind"))) (.ret (.call (ix 299) (.cons (.call (ix 253) (.cons (.var 1) (.cons (.var 2) .nil))) .nil))) .skip) (.seq (.ife (.cmp .eq (.var 0) (.con (.str "spans"))) (.ret (.bin .add (.bin .add (.call (ix 300) (.cons (.call (ix 245) (.cons (.var 1) (.cons (.var 2) .nil))) .nil)) (.con (.str ", "))) (.call (ix 300) (.cons (.call (ix 303) (.cons (.var 1) (.cons (.var 2) .nil))) .nil)))) .skip) (.seq (.ife (.cmp .eq (.var 0) (.con (.str "pair"))) (.ret .nil) .skip) (.seq (.ife (.cmp .eq (.var 0) (.con (.str "cuts"))) (.ret (.blt .str (.cons (.call (ix 294) (.cons (.var 1) (.cons (.var 2) .nil))) .nil))) .skip) (.seq (.ife (.cmp .eq (.var 0) (.con (.str "lamp"))) (.ret (.blt .str (.cons (.call (ix 265) (.cons (.var 1) (.cons (.var 2) .nil))) .nil))) .skip) (.seq (.asg (.tp (.cons (.nm 4) (.cons (.nm 5) .nil))) (.call (ix 275) (.cons (.var 1) (.cons (.var 2) .nil)))) (.ret (.idx (.lst (.cons (.con (.str "no")) (.cons (.con (.str "holds")) .nil))) (.blt .int (.cons (.call (ix 244) (.cons (.var 4) (.cons (.var 5) .nil))) .nil))))))))))⟩
def cf_law_said (ix : Nat → Nat) : CF := ⟨2, 3, (.tr (.ret .nil) 0 2 (.ret (.tup (.cons (.con (.str "refused")) (.cons (.call (ix 317) (.cons (.var 2) .nil)) .nil)))))⟩
def cf_clash_of_2 (ix : Nat → Nat) : CF := ⟨2, 2, (.seq (.expr (.call (ix 32) (.cons (.var 0) .nil))) (.seq (.expr (.call (ix 152) (.cons (.var 1) .nil))) (.ret (.call (ix 286) (.cons (.var 0) (.cons (.var 1) .nil))))))⟩
def cf_cuts_needed_3 (ix : Nat → Nat) : CF := ⟨2, 2, (.seq (.expr (.call (ix 32) (.cons (.var 0) .nil))) (.ret (.call (ix 141) (.cons (.blt .len (.cons (.idx (.call (ix 255) (.cons (.var 0) (.cons (.call (ix 110) (.cons (.var 0) (.cons (.var 1) .nil))) .nil))) (.con (.int 0))) .nil)) .nil))))⟩
def cf_clash_of_3 (ix : Nat → Nat) : CF := ⟨2, 2, (.seq (.expr (.call (ix 32) (.cons (.var 0) .nil))) (.seq (.expr (.call (ix 152) (.cons (.var 1) .nil))) (.ret (.call (ix 274) (.cons (.var 0) (.cons (.var 1) .nil))))))⟩
def cf_marks_of_2 (ix : Nat → Nat) : CF := ⟨3, 6, (.seq (.asg (.nm 3) (.call (ix 6) (.cons (.idx (.var 2) (.con (.int 0))) (.cons (.call (ix 8) (.cons (.call (ix 7) (.cons (.idx (.var 2) (.con (.int 2))) (.cons (.idx (.var 2) (.con (.int 3))) .nil))) (.cons (.idx (.var 2) (.con (.int 1))) .nil))) .nil)))) (.seq (.asg (.nm 4) (.bin .add (.bin .add (.lst (.cons (.con (.tup [(.int 0), (.int 1)])) (.cons (.var 3) .nil))) (.comp (.call (ix 132) (.cons (.var 1) (.cons (.var 2) (.cons (.var 5) .nil)))) (.nm 5) (.one (.var 0)) (.con (.bl true)) [5] false)) (.blt .list (.cons (.var 0) .nil)))) (.ret (.comp (.var 5) (.nm 5) (.one (.var 4)) (.and (.cmp .isnot (.var 5) (.con .non)) (.and (.not (.call (ix 9) (.cons (.var 5) (.cons (.con (.tup [(.int 0), (.int 1)])) .nil)))) (.not (.call (ix 9) (.cons (.var 3) (.cons (.var 5) .nil)))))) [5] false))))⟩
def cb_ways_by_2_1 (ix : Nat → Nat) : CS := (.seq (.asg (.nm 6) (.call (ix 131) (.cons (.var 2) (.cons (.var 1) (.cons (.var 5) .nil))))) (.seq (.asg (.nm 7) (.blt .len (.cons (.comp (.var 9) (.nm 9) (.one (.var 3)) (.call (ix 9) (.cons (.var 9) (.cons (.var 5) .nil))) [9] false) .nil))) (.set (.var 4) (.tup (.cons (.var 7) (.cons (.blt .len (.cons (.comp (.var 9) (.nm 9) (.one (.var 3)) (.call (ix 9) (.cons (.var 9) (.cons (.var 6) .nil))) [9] false) .nil)) .nil))) (.con (.bl true)))))
def cf_ways_by_2 (ix : Nat → Nat) : CF := ⟨2, 10, (.seq (.asg (.nm 2) (.call (ix 34) (.cons (.var 0) .nil))) (.seq (.asg (.nm 3) (.comp (.call (ix 43) (.cons (.var 0) (.cons (.tup (.cons (.var 8) (.cons (.con (.int 1)) .nil))) .nil))) (.nm 8) (.one (.call (ix 35) (.cons (.var 0) .nil))) (.con (.bl true)) [8] false)) (.seq (.asg (.nm 4) .mdk) (.seq (.fr (.nm 5) (.one (.call (ix 309) (.cons (.var 3) (.cons (.var 2) (.cons (.var 1) .nil))))) (cb_ways_by_2_1 ix)) (.ret (.blt .tuple (.cons (.blt .sorted (.cons (.var 4) .nil)) .nil)))))))⟩
def cf_all_ways_3 (ix : Nat → Nat) : CF := ⟨2, 2, (.seq (.expr (.call (ix 32) (.cons (.var 0) .nil))) (.ret (.call (ix 310) (.cons (.var 0) (.cons (.call (ix 110) (.cons (.var 0) (.cons (.var 1) .nil))) .nil)))))⟩
def cf_ways_of_3 (ix : Nat → Nat) : CF := ⟨2, 2, (.ret (.call (ix 311) (.cons (.var 0) (.cons (.var 1) .nil))))⟩
def cf_lamp_needed_3 (ix : Nat → Nat) : CF := ⟨2, 3, (.seq (.asg (.nm 2) (.call (ix 311) (.cons (.var 0) (.cons (.var 1) .nil)))) (.ret (.idx (.idx (.call (ix 262) (.cons (.var 2) (.cons (.bin .sub (.blt .len (.cons (.idx (.var 0) (.con (.int 0))) .nil)) (.con (.int 1))) .nil))) (.tup (.cons (.con (.int 0)) (.cons (.bin .sub (.blt .len (.cons (.var 2) .nil)) (.con (.int 1))) .nil)))) (.con (.int 0)))))⟩
def cf_lamp_plan_3 (ix : Nat → Nat) : CF := ⟨2, 3, (.seq (.asg (.nm 2) (.call (ix 311) (.cons (.var 0) (.cons (.var 1) .nil)))) (.ret (.call (ix 266) (.cons (.var 2) (.cons (.call (ix 262) (.cons (.var 2) (.cons (.bin .sub (.blt .len (.cons (.idx (.var 0) (.con (.int 0))) .nil)) (.con (.int 1))) .nil))) (.cons (.tup (.cons (.con (.int 0)) (.cons (.bin .sub (.blt .len (.cons (.var 2) .nil)) (.con (.int 1))) .nil))) .nil))))))⟩
def cf_law_way (ix : Nat → Nat) : CF := ⟨4, 7, (.seq (.asg (.nm 4) (.call (ix 136) (.cons (.var 0) (.cons (.var 1) (.cons (.var 3) .nil))))) (.seq (.asg (.nm 5) (.blt .len (.cons (.comp (.var 6) (.nm 6) (.one (.var 2)) (.call (ix 49) (.cons (.var 6) (.cons (.var 3) .nil))) [6] false) .nil))) (.ret (.tup (.cons (.var 5) (.cons (.blt .len (.cons (.comp (.var 6) (.nm 6) (.one (.var 2)) (.call (ix 49) (.cons (.var 6) (.cons (.var 4) .nil))) [6] false) .nil)) .nil))))))⟩
def cb_law_ways_1 (ix : Nat → Nat) : CS := (.ife (.and (.cmp .isnot (.var 5) (.con .non)) (.not (.call (ix 49) (.cons (.var 3) (.cons (.var 5) .nil))))) (.set (.var 4) (.call (ix 315) (.cons (.var 0) (.cons (.var 1) (.cons (.var 2) (.cons (.var 5) .nil))))) (.con (.bl true))) .skip)
def cf_law_ways (ix : Nat → Nat) : CF := ⟨2, 7, (.seq (.asg (.tp (.cons (.nm 2) (.cons (.nm 3) .nil))) (.tup (.cons (.call (ix 138) (.cons (.var 0) .nil)) (.cons (.call (ix 139) (.cons (.var 0) (.cons (.var 1) .nil))) .nil)))) (.seq (.asg (.nm 4) .mdk) (.seq (.fr (.nm 5) (.one (.bin .add (.bin .add (.lst (.cons (.tup (.cons (.con (.int 0)) (.cons (.con (.int 1)) .nil))) (.cons (.var 3) .nil))) (.var 2)) (.comp (.call (ix 137) (.cons (.var 0) (.cons (.var 1) (.cons (.var 6) .nil)))) (.nm 6) (.one (.var 2)) (.con (.bl true)) [6] false))) (cb_law_ways_1 ix)) (.ret (.blt .sorted (.cons (.var 4) .nil))))))⟩
def cf_law_sort_3 (ix : Nat → Nat) : CF := ⟨1, 3, (.tr (.seq (.asg (.nm 1) (.lst (.cons (.isi (.var 0) (.own 1)) (.cons (.isi (.var 0) (.own 2)) (.cons (.isi (.var 0) (.own 3)) (.cons (.isi (.var 0) (.own 18)) .nil)))))) (.seq (.asg (.nm 1) (.bin .add (.var 1) (.lst (.cons (.isi (.var 0) (.own 4)) (.cons (.isi (.var 0) (.own 5)) (.cons (.isi (.var 0) (.own 6)) (.cons (.isi (.var 0) (.own 7)) .nil))))))) (.seq (.asg (.nm 1) (.bin .add (.var 1) (.lst (.cons (.isi (.var 0) (.own 8)) (.cons (.isi (.var 0) (.own 9)) (.cons (.isi (.var 0) (.own 10)) (.cons (.isi (.var 0) (.own 11)) .nil))))))) (.seq (.asg (.nm 1) (.bin .add (.var 1) (.lst (.cons (.isi (.var 0) (.own 12)) (.cons (.isi (.var 0) (.own 13)) (.cons (.isi (.var 0) (.own 14)) (.cons (.isi (.var 0) (.own 15)) .nil))))))) (.seq (.asg (.nm 1) (.bin .add (.var 1) (.lst (.cons (.isi (.var 0) (.own 16)) (.cons (.isi (.var 0) (.own 17)) .nil))))) (.seq (.ife (.or (.cmp .ne (.mth .count (.var 1) (.cons (.con (.bl true)) .nil)) (.con (.int 1))) (.not (.isi (.var 0) (.own 99)))) (.ret (.con (.str "other"))) .skip) (.seq (.asg (.nm 2) (.lst (.cons (.con (.str "number")) (.cons (.con (.str "cable")) (.cons (.con (.str "drag")) (.cons (.con (.str "text")) (.cons (.con (.str "leaks")) (.cons (.con (.str "stretch")) (.cons (.con (.str "word")) (.cons (.con (.str "reading")) (.cons (.con (.str "place")) (.cons (.con (.str "day")) (.cons (.con (.str "pair")) (.cons (.con (.str "splice")) .nil)))))))))))))) (.ret (.idx (.bin .add (.var 2) (.lst (.cons (.con (.str "days")) (.cons (.con (.str "places")) (.cons (.con (.str "length")) (.cons (.con (.str "deed")) (.cons (.con (.str "back")) (.cons (.con (.str "row")) .nil)))))))) (.mth .index (.var 1) (.cons (.con (.bl true)) .nil))))))))))) 100 0 .never)⟩
def tab_0 (ix : Nat → Nat) : List (Nat × CF) := [(0, cf_is_whole ix), (1, cf_share_of ix), (2, cf_low ix), (3, cf_is_fraction ix), (4, cf_check_fraction ix), (5, cf_add ix), (6, cf_less ix), (7, cf_mul ix), (8, cf_div ix), (9, cf_is_less ix), (10, cf_fraction ix), (11, cf_check_both ix), (12, cf_plus ix), (13, cf_minus ix), (14, cf_times ix), (15, cf_over ix), (16, cf_below ix), (17, cf_law_cell ix), (18, cf_law_purse ix), (19, cf_law_pick ix)]
def tab_1 (ix : Nat → Nat) : List (Nat × CF) := [(20, cf_law_whole ix), (21, cf_law_low ix), (22, cf_law_is_fraction ix), (23, cf_law_sort ix), (24, cf_law_told ix), (25, cf_whole_root ix), (26, cf_root ix), (27, cf_is_from_zero ix), (28, cf_is_above_zero ix), (29, cf_is_small ix), (30, cf_is_length ix), (31, cf_is_cable ix), (32, cf_check_cable ix), (33, cf_all_steps ix), (34, cf_all_drag ix), (35, cf_splice_steps ix), (36, cf_steps_of ix), (37, cf_drag_of ix), (38, cf_splices_of ix), (39, cf_law_plus ix)]
def tab_2 (ix : Nat → Nat) : List (Nat × CF) := [(40, cf_law_times ix), (41, cf_is_place ix), (42, cf_check_place ix), (43, cf_drag_at ix), (44, cf_place_with ix), (45, cf_drag_to ix), (46, cf_place_at ix), (47, cf_law_minus ix), (48, cf_law_over ix), (49, cf_law_below ix), (50, cf_law_all ix), (51, cf_law_cable ix), (52, cf_show_fraction ix), (53, cf_show_cable ix), (54, cf_number_in ix), (55, cf_fraction_in ix), (56, cf_back_in ix), (57, cf_length_in ix), (58, cf_read_cable ix), (59, cf_law_fraction_text ix)]
def tab_3 (ix : Nat → Nat) : List (Nat × CF) := [(60, cf_law_text ix), (61, cf_is_leak ix), (62, cf_are_leaks ix), (63, cf_is_leaks ix), (64, cf_law_sixths ix), (65, cf_check_leaks ix), (66, cf_both_seen ix), (67, cf_join ix), (68, cf_stretch_by ix), (69, cf_beside ix), (70, cf_reading ix), (71, cf_measure ix), (72, cf_law_drag_to ix), (73, cf_law_points ix), (74, cf_law_steps_seen ix), (75, cf_law_seen ix), (76, cf_law_day ix), (77, cf_law_leaks_2 ix), (78, cf_law_sort_2 ix), (79, cf_lack_of ix)]
def tab_4 (ix : Nat → Nat) : List (Nat × CF) := [(80, cf_is_seen ix), (81, cf_is_stretch ix), (82, cf_joined ix), (83, cf_law_stretch ix), (84, cf_stretch_of ix), (85, cf_check_word ix), (86, cf_check_reading ix), (87, cf_drag_with ix), (88, cf_drag_by ix), (89, cf_law_place_at ix), (90, cf_law_read ix), (91, cf_law_leak ix), (92, cf_half ix), (93, cf_by_free_and_earth ix), (94, cf_by_free_and_far_earth ix), (95, cf_by_earths ix), (96, cf_possible_drags ix), (97, cf_leak_with ix), (98, cf_one_leak ix), (99, cf_is_day ix)]
def tab_5 (ix : Nat → Nat) : List (Nat × CF) := [(100, cf_check_day ix), (101, cf_day_by ix), (102, cf_day_of ix), (103, cf_four_of ix), (104, cf_fault_in ix), (105, cf_kind_by ix), (106, cf_seen_of ix), (107, cf_seen_by ix), (108, cf_law_star ix), (109, cf_kind_of ix), (110, cf_check_two ix), (111, cf_spans_by ix), (112, cf_partner_by ix), (113, cf_partner_west ix), (114, cf_drag_within ix), (115, cf_places_with ix), (116, cf_west_span ix), (117, cf_east_span ix), (118, cf_pair_at ix), (119, cf_east_of ix)]
def tab_6 (ix : Nat → Nat) : List (Nat × CF) := [(120, cf_west_of ix), (121, cf_law_partner ix), (122, cf_law_pair ix), (123, cf_law_listed ix), (124, cf_law_two_more ix), (125, cf_law_spans ix), (126, cf_law_spots ix), (127, cf_check_splice ix), (128, cf_part_cables ix), (129, cf_parts ix), (130, cf_leaks_parted ix), (131, cf_east_drag ix), (132, cf_west_drag ix), (133, cf_next_cut ix), (134, cf_cover_by ix), (135, cf_cover_of ix), (136, cf_law_east ix), (137, cf_law_west ix), (138, cf_law_splices ix), (139, cf_law_most_west ix)]
def tab_7 (ix : Nat → Nat) : List (Nat × CF) := [(140, cf_law_two ix), (141, cf_needed_for ix), (142, cf_cuts_needed ix), (143, cf_stretch_told ix), (144, cf_edge_drags ix), (145, cf_leak_moved ix), (146, cf_law_small_3 ix), (147, cf_law_pair_2 ix), (148, cf_law_drags ix), (149, cf_law_least ix), (150, cf_law_part ix), (151, cf_law_days_cut ix), (152, cf_check_days ix), (153, cf_two_drags ix), (154, cf_fits_by ix), (155, cf_east_drag_2 ix), (156, cf_west_drag_2 ix), (157, cf_roots_of ix), (158, cf_pairs_of_two ix), (159, cf_pairs_with ix)]
def tab_8 (ix : Nat → Nat) : List (Nat × CF) := [(160, cf_pairs_of ix), (161, cf_fit_all ix), (162, cf_is_before ix), (163, cf_pairs_told ix), (164, cf_are_apart ix), (165, cf_telling_by ix), (166, cf_telling ix), (167, cf_law_kind_2 ix), (168, cf_law_fits ix), (169, cf_law_some_drag ix), (170, cf_law_hidden_2 ix), (171, cf_law_hidden_day ix), (172, cf_law_days ix), (173, cf_check_places ix), (174, cf_drags_by ix), (175, cf_clash_by ix), (176, cf_clash_of ix), (177, cf_check_length ix), (178, cf_check_number ix), (179, cf_exchange ix)]
def tab_9 (ix : Nat → Nat) : List (Nat × CF) := [(180, cf_exchanged ix), (181, cf_check_room ix), (182, cf_add_cables ix), (183, cf_added ix), (184, cf_turned ix), (185, cf_leaks_turned ix), (186, cf_leaks_added ix), (187, cf_wall ix), (188, cf_check_date ix), (189, cf_law_length ix), (190, cf_law_any_readings ix), (191, cf_is_day_of ix), (192, cf_read_by ix), (193, cf_four_of_2 ix), (194, cf_is_quiet ix), (195, cf_wrong_word ix), (196, cf_kind_seen ix), (197, cf_one_taken ix), (198, cf_pair_taken ix), (199, cf_wrong_taken ix)]
def tab_10 (ix : Nat → Nat) : List (Nat × CF) := [(200, cf_least_parted ix), (201, cf_does_part ix), (202, cf_most_west ix), (203, cf_is_covered ix), (204, cf_are_cuts ix), (205, cf_are_spots ix), (206, cf_are_apart_2 ix), (207, cf_are_days ix), (208, cf_are_places ix), (209, cf_made_so ix), (210, cf_do_fit ix), (211, cf_arms_fit ix), (212, cf_does_fit ix), (213, cf_fit_all_2 ix), (214, cf_are_unlike ix), (215, cf_beside_2 ix), (216, cf_arms_of_both ix), (217, cf_possible_pairs ix), (218, cf_is_number ix), (219, cf_are_numbers ix)]
def tab_11 (ix : Nat → Nat) : List (Nat × CF) := [(220, cf_east_with ix), (221, cf_ways_seen ix), (222, cf_left_by ix), (223, cf_are_stretches ix), (224, cf_holds_one ix), (225, cf_does_need ix), (226, cf_is_plan ix), (227, cf_lamp_taken ix), (228, cf_short_taken ix), (229, cf_kind_by_2 ix), (230, cf_check_two_2 ix), (231, cf_pair_at_2 ix), (232, cf_law_day_2 ix), (233, cf_law_is_day ix), (234, cf_law_kind_3 ix), (235, cf_law_any_day ix), (236, cf_law_some_days_2 ix), (237, cf_cuts_taken_3 ix), (238, cf_pairs_that_fit_3 ix), (239, cf_are_all_3 ix)]
def tab_12 (ix : Nat → Nat) : List (Nat × CF) := [(240, cf_clash_together_3 ix), (241, cf_do_clash_3 ix), (242, cf_day_taken_3 ix), (243, cf_days_taken_3 ix), (244, cf_holds_3 ix), (245, cf_west_span_2 ix), (246, cf_two_drags_2 ix), (247, cf_fits_by_2 ix), (248, cf_fit_all_4 ix), (249, cf_are_apart_3 ix), (250, cf_drags_by_2 ix), (251, cf_pair_of ix), (252, cf_unlike_days ix), (253, cf_kind_of_2 ix), (254, cf_next_cut_2 ix), (255, cf_cover_by_2 ix), (256, cf_cover_of_3 ix), (257, cf_marks_of ix), (258, cf_ways_by ix), (259, cf_answer_of ix)]
def tab_13 (ix : Nat → Nat) : List (Nat × CF) := [(260, cf_stretches_left ix), (261, cf_needed_by ix), (262, cf_table_by ix), (263, cf_all_ways ix), (264, cf_ways_of ix), (265, cf_lamp_needed ix), (266, cf_plan_by ix), (267, cf_lamp_plan ix), (268, cf_pairs_of_two_2 ix), (269, cf_pairs_with_2 ix), (270, cf_pairs_of_3 ix), (271, cf_pairs_told_3 ix), (272, cf_telling_by_3 ix), (273, cf_telling_3 ix), (274, cf_clash_by_3 ix), (275, cf_paper_day ix), (276, cf_paper_cuts ix), (277, cf_paper_lamp ix), (278, cf_places_that_fit_2 ix), (279, cf_clash_paper_2 ix)]
def tab_14 (ix : Nat → Nat) : List (Nat × CF) := [(280, cf_paper_days_2 ix), (281, cf_cover_of_4 ix), (282, cf_pairs_of_4 ix), (283, cf_pairs_told_4 ix), (284, cf_telling_by_4 ix), (285, cf_telling_4 ix), (286, cf_clash_by_4 ix), (287, cf_pair_of_2 ix), (288, cf_paper_day_2 ix), (289, cf_paper_cuts_2 ix), (290, cf_places_that_fit_3 ix), (291, cf_unlike_days_2 ix), (292, cf_clash_paper_3 ix), (293, cf_paper_days_3 ix), (294, cf_cuts_needed_2 ix), (295, cf_thing_in ix), (296, cf_row_in ix), (297, cf_cable_text ix), (298, cf_leak_text ix), (299, cf_kind_text ix)]
def tab_15 (ix : Nat → Nat) : List (Nat × CF) := [(300, cf_span_text ix), (301, cf_numbers_text ix), (302, cf_telling_text ix), (303, cf_east_span_2 ix), (304, cf_day_text ix), (305, cf_law_said ix), (306, cf_clash_of_2 ix), (307, cf_cuts_needed_3 ix), (308, cf_clash_of_3 ix), (309, cf_marks_of_2 ix), (310, cf_ways_by_2 ix), (311, cf_all_ways_3 ix), (312, cf_ways_of_3 ix), (313, cf_lamp_needed_3 ix), (314, cf_lamp_plan_3 ix), (315, cf_law_way ix), (316, cf_law_ways ix), (317, cf_law_sort_3 ix)]
class Lib (P : Nat → Option CF) where
  ix : Nat → Nat
  q0 : ∀ x ∈ tab_0 ix, P (ix x.1) = some x.2
  q1 : ∀ x ∈ tab_1 ix, P (ix x.1) = some x.2
  q2 : ∀ x ∈ tab_2 ix, P (ix x.1) = some x.2
  q3 : ∀ x ∈ tab_3 ix, P (ix x.1) = some x.2
  q4 : ∀ x ∈ tab_4 ix, P (ix x.1) = some x.2
  q5 : ∀ x ∈ tab_5 ix, P (ix x.1) = some x.2
  q6 : ∀ x ∈ tab_6 ix, P (ix x.1) = some x.2
  q7 : ∀ x ∈ tab_7 ix, P (ix x.1) = some x.2
  q8 : ∀ x ∈ tab_8 ix, P (ix x.1) = some x.2
  q9 : ∀ x ∈ tab_9 ix, P (ix x.1) = some x.2
  q10 : ∀ x ∈ tab_10 ix, P (ix x.1) = some x.2
  q11 : ∀ x ∈ tab_11 ix, P (ix x.1) = some x.2
  q12 : ∀ x ∈ tab_12 ix, P (ix x.1) = some x.2
  q13 : ∀ x ∈ tab_13 ix, P (ix x.1) = some x.2
  q14 : ∀ x ∈ tab_14 ix, P (ix x.1) = some x.2
  q15 : ∀ x ∈ tab_15 ix, P (ix x.1) = some x.2
section
variable (P : Nat → Option CF) [Lib P]
abbrev f_is_whole : Nat := Lib.ix P 0
theorem p_is_whole : P (f_is_whole P) = some (cf_is_whole (Lib.ix P)) := Lib.q0 (0, cf_is_whole (Lib.ix P)) (.head _)
abbrev f_share_of : Nat := Lib.ix P 1
theorem p_share_of : P (f_share_of P) = some (cf_share_of (Lib.ix P)) := Lib.q0 (1, cf_share_of (Lib.ix P)) (.tail _ (.head _))
abbrev f_low : Nat := Lib.ix P 2
theorem p_low : P (f_low P) = some (cf_low (Lib.ix P)) := Lib.q0 (2, cf_low (Lib.ix P)) (.tail _ (.tail _ (.head _)))
abbrev f_is_fraction : Nat := Lib.ix P 3
theorem p_is_fraction : P (f_is_fraction P) = some (cf_is_fraction (Lib.ix P)) := Lib.q0 (3, cf_is_fraction (Lib.ix P)) (.tail _ (.tail _ (.tail _ (.head _))))
abbrev f_check_fraction : Nat := Lib.ix P 4
theorem p_check_fraction : P (f_check_fraction P) = some (cf_check_fraction (Lib.ix P)) := Lib.q0 (4, cf_check_fraction (Lib.ix P)) (.tail _ (.tail _ (.tail _ (.tail _ (.head _)))))
abbrev f_add : Nat := Lib.ix P 5
theorem p_add : P (f_add P) = some (cf_add (Lib.ix P)) := Lib.q0 (5, cf_add (Lib.ix P)) (.tail _ (.tail _ (.tail _ (.tail _ (.tail _ (.head _))))))
abbrev f_less : Nat := Lib.ix P 6
theorem p_less : P (f_less P) = some (cf_less (Lib.ix P)) := Lib.q0 (6, cf_less (Lib.ix P)) (.tail _ (.tail _ (.tail _ (.tail _ (.tail _ (.tail _ (.head _)))))))
abbrev f_mul : Nat := Lib.ix P 7
theorem p_mul : P (f_mul P) = some (cf_mul (Lib.ix P)) := Lib.q0 (7, cf_mul (Lib.ix P)) (.tail _ (.tail _ (.tail _ (.tail _ (.tail _ (.tail _ (.tail _ (.head _))))))))
abbrev f_div : Nat := Lib.ix P 8
theorem p_div : P (f_div P) = some (cf_div (Lib.ix P)) := Lib.q0 (8, cf_div (Lib.ix P)) (.tail _ (.tail _ (.tail _ (.tail _ (.tail _ (.tail _ (.tail _ (.tail _ (.head _)))))))))
abbrev f_is_less : Nat := Lib.ix P 9
theorem p_is_less : P (f_is_less P) = some (cf_is_less (Lib.ix P)) := Lib.q0 (9, cf_is_less (Lib.ix P)) (.tail _ (.tail _ (.tail _ (.tail _ (.tail _ (.tail _ (.tail _ (.tail _ (.tail _ (.head _))))))))))
abbrev f_fraction : Nat := Lib.ix P 10
theorem p_fraction : P (f_fraction P) = some (cf_fraction (Lib.ix P)) := Lib.q0 (10, cf_fraction (Lib.ix P)) (.tail _ (.tail _ (.tail _ (.tail _ (.tail _ (.tail _ (.tail _ (.tail _ (.tail _ (.tail _ (.head _)))))))))))
abbrev f_check_both : Nat := Lib.ix P 11
theorem p_check_both : P (f_check_both P) = some (cf_check_both (Lib.ix P)) := Lib.q0 (11, cf_check_both (Lib.ix P)) (.tail _ (.tail _ (.tail _ (.tail _ (.tail _ (.tail _ (.tail _ (.tail _ (.tail _ (.tail _ (.tail _ (.head _))))))))))))
abbrev f_plus : Nat := Lib.ix P 12
theorem p_plus : P (f_plus P) = some (cf_plus (Lib.ix P)) := Lib.q0 (12, cf_plus (Lib.ix P)) (.tail _ (.tail _ (.tail _ (.tail _ (.tail _ (.tail _ (.tail _ (.tail _ (.tail _ (.tail _ (.tail _ (.tail _ (.head _)))))))))))))
abbrev f_minus : Nat := Lib.ix P 13
theorem p_minus : P (f_minus P) = some (cf_minus (Lib.ix P)) := Lib.q0 (13, cf_minus (Lib.ix P)) (.tail _ (.tail _ (.tail _ (.tail _ (.tail _ (.tail _ (.tail _ (.tail _ (.tail _ (.tail _ (.tail _ (.tail _ (.tail _ (.head _))))))))))))))
abbrev f_times : Nat := Lib.ix P 14
theorem p_times : P (f_times P) = some (cf_times (Lib.ix P)) := Lib.q0 (14, cf_times (Lib.ix P)) (.tail _ (.tail _ (.tail _ (.tail _ (.tail _ (.tail _ (.tail _ (.tail _ (.tail _ (.tail _ (.tail _ (.tail _ (.tail _ (.tail _ (.head _)))))))))))))))
abbrev f_over : Nat := Lib.ix P 15
theorem p_over : P (f_over P) = some (cf_over (Lib.ix P)) := Lib.q0 (15, cf_over (Lib.ix P)) (.tail _ (.tail _ (.tail _ (.tail _ (.tail _ (.tail _ (.tail _ (.tail _ (.tail _ (.tail _ (.tail _ (.tail _ (.tail _ (.tail _ (.tail _ (.head _))))))))))))))))
abbrev f_below : Nat := Lib.ix P 16
theorem p_below : P (f_below P) = some (cf_below (Lib.ix P)) := Lib.q0 (16, cf_below (Lib.ix P)) (.tail _ (.tail _ (.tail _ (.tail _ (.tail _ (.tail _ (.tail _ (.tail _ (.tail _ (.tail _ (.tail _ (.tail _ (.tail _ (.tail _ (.tail _ (.tail _ (.head _)))))))))))))))))
abbrev f_law_cell : Nat := Lib.ix P 17
theorem p_law_cell : P (f_law_cell P) = some (cf_law_cell (Lib.ix P)) := Lib.q0 (17, cf_law_cell (Lib.ix P)) (.tail _ (.tail _ (.tail _ (.tail _ (.tail _ (.tail _ (.tail _ (.tail _ (.tail _ (.tail _ (.tail _ (.tail _ (.tail _ (.tail _ (.tail _ (.tail _ (.tail _ (.head _))))))))))))))))))
abbrev f_law_purse : Nat := Lib.ix P 18
theorem p_law_purse : P (f_law_purse P) = some (cf_law_purse (Lib.ix P)) := Lib.q0 (18, cf_law_purse (Lib.ix P)) (.tail _ (.tail _ (.tail _ (.tail _ (.tail _ (.tail _ (.tail _ (.tail _ (.tail _ (.tail _ (.tail _ (.tail _ (.tail _ (.tail _ (.tail _ (.tail _ (.tail _ (.tail _ (.head _)))))))))))))))))))
abbrev f_law_pick : Nat := Lib.ix P 19
theorem p_law_pick : P (f_law_pick P) = some (cf_law_pick (Lib.ix P)) := Lib.q0 (19, cf_law_pick (Lib.ix P)) (.tail _ (.tail _ (.tail _ (.tail _ (.tail _ (.tail _ (.tail _ (.tail _ (.tail _ (.tail _ (.tail _ (.tail _ (.tail _ (.tail _ (.tail _ (.tail _ (.tail _ (.tail _ (.tail _ (.head _))))))))))))))))))))
abbrev f_law_whole : Nat := Lib.ix P 20
theorem p_law_whole : P (f_law_whole P) = some (cf_law_whole (Lib.ix P)) := Lib.q1 (20, cf_law_whole (Lib.ix P)) (.head _)
abbrev f_law_low : Nat := Lib.ix P 21
theorem p_law_low : P (f_law_low P) = some (cf_law_low (Lib.ix P)) := Lib.q1 (21, cf_law_low (Lib.ix P)) (.tail _ (.head _))
abbrev f_law_is_fraction : Nat := Lib.ix P 22
theorem p_law_is_fraction : P (f_law_is_fraction P) = some (cf_law_is_fraction (Lib.ix P)) := Lib.q1 (22, cf_law_is_fraction (Lib.ix P)) (.tail _ (.tail _ (.head _)))
abbrev f_law_sort : Nat := Lib.ix P 23
theorem p_law_sort : P (f_law_sort P) = some (cf_law_sort (Lib.ix P)) := Lib.q1 (23, cf_law_sort (Lib.ix P)) (.tail _ (.tail _ (.tail _ (.head _))))
abbrev f_law_told : Nat := Lib.ix P 24
theorem p_law_told : P (f_law_told P) = some (cf_law_told (Lib.ix P)) := Lib.q1 (24, cf_law_told (Lib.ix P)) (.tail _ (.tail _ (.tail _ (.tail _ (.head _)))))
abbrev f_whole_root : Nat := Lib.ix P 25
theorem p_whole_root : P (f_whole_root P) = some (cf_whole_root (Lib.ix P)) := Lib.q1 (25, cf_whole_root (Lib.ix P)) (.tail _ (.tail _ (.tail _ (.tail _ (.tail _ (.head _))))))
abbrev f_root : Nat := Lib.ix P 26
theorem p_root : P (f_root P) = some (cf_root (Lib.ix P)) := Lib.q1 (26, cf_root (Lib.ix P)) (.tail _ (.tail _ (.tail _ (.tail _ (.tail _ (.tail _ (.head _)))))))
abbrev f_is_from_zero : Nat := Lib.ix P 27
theorem p_is_from_zero : P (f_is_from_zero P) = some (cf_is_from_zero (Lib.ix P)) := Lib.q1 (27, cf_is_from_zero (Lib.ix P)) (.tail _ (.tail _ (.tail _ (.tail _ (.tail _ (.tail _ (.tail _ (.head _))))))))
abbrev f_is_above_zero : Nat := Lib.ix P 28
theorem p_is_above_zero : P (f_is_above_zero P) = some (cf_is_above_zero (Lib.ix P)) := Lib.q1 (28, cf_is_above_zero (Lib.ix P)) (.tail _ (.tail _ (.tail _ (.tail _ (.tail _ (.tail _ (.tail _ (.tail _ (.head _)))))))))
abbrev f_is_small : Nat := Lib.ix P 29
theorem p_is_small : P (f_is_small P) = some (cf_is_small (Lib.ix P)) := Lib.q1 (29, cf_is_small (Lib.ix P)) (.tail _ (.tail _ (.tail _ (.tail _ (.tail _ (.tail _ (.tail _ (.tail _ (.tail _ (.head _))))))))))
abbrev f_is_length : Nat := Lib.ix P 30
theorem p_is_length : P (f_is_length P) = some (cf_is_length (Lib.ix P)) := Lib.q1 (30, cf_is_length (Lib.ix P)) (.tail _ (.tail _ (.tail _ (.tail _ (.tail _ (.tail _ (.tail _ (.tail _ (.tail _ (.tail _ (.head _)))))))))))
abbrev f_is_cable : Nat := Lib.ix P 31
theorem p_is_cable : P (f_is_cable P) = some (cf_is_cable (Lib.ix P)) := Lib.q1 (31, cf_is_cable (Lib.ix P)) (.tail _ (.tail _ (.tail _ (.tail _ (.tail _ (.tail _ (.tail _ (.tail _ (.tail _ (.tail _ (.tail _ (.head _))))))))))))
abbrev f_check_cable : Nat := Lib.ix P 32
theorem p_check_cable : P (f_check_cable P) = some (cf_check_cable (Lib.ix P)) := Lib.q1 (32, cf_check_cable (Lib.ix P)) (.tail _ (.tail _ (.tail _ (.tail _ (.tail _ (.tail _ (.tail _ (.tail _ (.tail _ (.tail _ (.tail _ (.tail _ (.head _)))))))))))))
abbrev f_all_steps : Nat := Lib.ix P 33
theorem p_all_steps : P (f_all_steps P) = some (cf_all_steps (Lib.ix P)) := Lib.q1 (33, cf_all_steps (Lib.ix P)) (.tail _ (.tail _ (.tail _ (.tail _ (.tail _ (.tail _ (.tail _ (.tail _ (.tail _ (.tail _ (.tail _ (.tail _ (.tail _ (.head _))))))))))))))
abbrev f_all_drag : Nat := Lib.ix P 34
theorem p_all_drag : P (f_all_drag P) = some (cf_all_drag (Lib.ix P)) := Lib.q1 (34, cf_all_drag (Lib.ix P)) (.tail _ (.tail _ (.tail _ (.tail _ (.tail _ (.tail _ (.tail _ (.tail _ (.tail _ (.tail _ (.tail _ (.tail _ (.tail _ (.tail _ (.head _)))))))))))))))
abbrev f_splice_steps : Nat := Lib.ix P 35
theorem p_splice_steps : P (f_splice_steps P) = some (cf_splice_steps (Lib.ix P)) := Lib.q1 (35, cf_splice_steps (Lib.ix P)) (.tail _ (.tail _ (.tail _ (.tail _ (.tail _ (.tail _ (.tail _ (.tail _ (.tail _ (.tail _ (.tail _ (.tail _ (.tail _ (.tail _ (.tail _ (.head _))))))))))))))))
abbrev f_steps_of : Nat := Lib.ix P 36
theorem p_steps_of : P (f_steps_of P) = some (cf_steps_of (Lib.ix P)) := Lib.q1 (36, cf_steps_of (Lib.ix P)) (.tail _ (.tail _ (.tail _ (.tail _ (.tail _ (.tail _ (.tail _ (.tail _ (.tail _ (.tail _ (.tail _ (.tail _ (.tail _ (.tail _ (.tail _ (.tail _ (.head _)))))))))))))))))
abbrev f_drag_of : Nat := Lib.ix P 37
theorem p_drag_of : P (f_drag_of P) = some (cf_drag_of (Lib.ix P)) := Lib.q1 (37, cf_drag_of (Lib.ix P)) (.tail _ (.tail _ (.tail _ (.tail _ (.tail _ (.tail _ (.tail _ (.tail _ (.tail _ (.tail _ (.tail _ (.tail _ (.tail _ (.tail _ (.tail _ (.tail _ (.tail _ (.head _))))))))))))))))))
abbrev f_splices_of : Nat := Lib.ix P 38
theorem p_splices_of : P (f_splices_of P) = some (cf_splices_of (Lib.ix P)) := Lib.q1 (38, cf_splices_of (Lib.ix P)) (.tail _ (.tail _ (.tail _ (.tail _ (.tail _ (.tail _ (.tail _ (.tail _ (.tail _ (.tail _ (.tail _ (.tail _ (.tail _ (.tail _ (.tail _ (.tail _ (.tail _ (.tail _ (.head _)))))))))))))))))))
abbrev f_law_plus : Nat := Lib.ix P 39
theorem p_law_plus : P (f_law_plus P) = some (cf_law_plus (Lib.ix P)) := Lib.q1 (39, cf_law_plus (Lib.ix P)) (.tail _ (.tail _ (.tail _ (.tail _ (.tail _ (.tail _ (.tail _ (.tail _ (.tail _ (.tail _ (.tail _ (.tail _ (.tail _ (.tail _ (.tail _ (.tail _ (.tail _ (.tail _ (.tail _ (.head _))))))))))))))))))))
abbrev f_law_times : Nat := Lib.ix P 40
theorem p_law_times : P (f_law_times P) = some (cf_law_times (Lib.ix P)) := Lib.q2 (40, cf_law_times (Lib.ix P)) (.head _)
abbrev f_is_place : Nat := Lib.ix P 41
theorem p_is_place : P (f_is_place P) = some (cf_is_place (Lib.ix P)) := Lib.q2 (41, cf_is_place (Lib.ix P)) (.tail _ (.head _))
abbrev f_check_place : Nat := Lib.ix P 42
theorem p_check_place : P (f_check_place P) = some (cf_check_place (Lib.ix P)) := Lib.q2 (42, cf_check_place (Lib.ix P)) (.tail _ (.tail _ (.head _)))
abbrev f_drag_at : Nat := Lib.ix P 43
theorem p_drag_at : P (f_drag_at P) = some (cf_drag_at (Lib.ix P)) := Lib.q2 (43, cf_drag_at (Lib.ix P)) (.tail _ (.tail _ (.tail _ (.head _))))
abbrev f_place_with : Nat := Lib.ix P 44
theorem p_place_with : P (f_place_with P) = some (cf_place_with (Lib.ix P)) := Lib.q2 (44, cf_place_with (Lib.ix P)) (.tail _ (.tail _ (.tail _ (.tail _ (.head _)))))
abbrev f_drag_to : Nat := Lib.ix P 45
theorem p_drag_to : P (f_drag_to P) = some (cf_drag_to (Lib.ix P)) := Lib.q2 (45, cf_drag_to (Lib.ix P)) (.tail _ (.tail _ (.tail _ (.tail _ (.tail _ (.head _))))))
abbrev f_place_at : Nat := Lib.ix P 46
theorem p_place_at : P (f_place_at P) = some (cf_place_at (Lib.ix P)) := Lib.q2 (46, cf_place_at (Lib.ix P)) (.tail _ (.tail _ (.tail _ (.tail _ (.tail _ (.tail _ (.head _)))))))
abbrev f_law_minus : Nat := Lib.ix P 47
theorem p_law_minus : P (f_law_minus P) = some (cf_law_minus (Lib.ix P)) := Lib.q2 (47, cf_law_minus (Lib.ix P)) (.tail _ (.tail _ (.tail _ (.tail _ (.tail _ (.tail _ (.tail _ (.head _))))))))
abbrev f_law_over : Nat := Lib.ix P 48
theorem p_law_over : P (f_law_over P) = some (cf_law_over (Lib.ix P)) := Lib.q2 (48, cf_law_over (Lib.ix P)) (.tail _ (.tail _ (.tail _ (.tail _ (.tail _ (.tail _ (.tail _ (.tail _ (.head _)))))))))
abbrev f_law_below : Nat := Lib.ix P 49
theorem p_law_below : P (f_law_below P) = some (cf_law_below (Lib.ix P)) := Lib.q2 (49, cf_law_below (Lib.ix P)) (.tail _ (.tail _ (.tail _ (.tail _ (.tail _ (.tail _ (.tail _ (.tail _ (.tail _ (.head _))))))))))
abbrev f_law_all : Nat := Lib.ix P 50
theorem p_law_all : P (f_law_all P) = some (cf_law_all (Lib.ix P)) := Lib.q2 (50, cf_law_all (Lib.ix P)) (.tail _ (.tail _ (.tail _ (.tail _ (.tail _ (.tail _ (.tail _ (.tail _ (.tail _ (.tail _ (.head _)))))))))))
abbrev f_law_cable : Nat := Lib.ix P 51
theorem p_law_cable : P (f_law_cable P) = some (cf_law_cable (Lib.ix P)) := Lib.q2 (51, cf_law_cable (Lib.ix P)) (.tail _ (.tail _ (.tail _ (.tail _ (.tail _ (.tail _ (.tail _ (.tail _ (.tail _ (.tail _ (.tail _ (.head _))))))))))))
abbrev f_show_fraction : Nat := Lib.ix P 52
theorem p_show_fraction : P (f_show_fraction P) = some (cf_show_fraction (Lib.ix P)) := Lib.q2 (52, cf_show_fraction (Lib.ix P)) (.tail _ (.tail _ (.tail _ (.tail _ (.tail _ (.tail _ (.tail _ (.tail _ (.tail _ (.tail _ (.tail _ (.tail _ (.head _)))))))))))))
abbrev f_show_cable : Nat := Lib.ix P 53
theorem p_show_cable : P (f_show_cable P) = some (cf_show_cable (Lib.ix P)) := Lib.q2 (53, cf_show_cable (Lib.ix P)) (.tail _ (.tail _ (.tail _ (.tail _ (.tail _ (.tail _ (.tail _ (.tail _ (.tail _ (.tail _ (.tail _ (.tail _ (.tail _ (.head _))))))))))))))
abbrev f_number_in : Nat := Lib.ix P 54
theorem p_number_in : P (f_number_in P) = some (cf_number_in (Lib.ix P)) := Lib.q2 (54, cf_number_in (Lib.ix P)) (.tail _ (.tail _ (.tail _ (.tail _ (.tail _ (.tail _ (.tail _ (.tail _ (.tail _ (.tail _ (.tail _ (.tail _ (.tail _ (.tail _ (.head _)))))))))))))))
abbrev f_fraction_in : Nat := Lib.ix P 55
theorem p_fraction_in : P (f_fraction_in P) = some (cf_fraction_in (Lib.ix P)) := Lib.q2 (55, cf_fraction_in (Lib.ix P)) (.tail _ (.tail _ (.tail _ (.tail _ (.tail _ (.tail _ (.tail _ (.tail _ (.tail _ (.tail _ (.tail _ (.tail _ (.tail _ (.tail _ (.tail _ (.head _))))))))))))))))
abbrev f_back_in : Nat := Lib.ix P 56
theorem p_back_in : P (f_back_in P) = some (cf_back_in (Lib.ix P)) := Lib.q2 (56, cf_back_in (Lib.ix P)) (.tail _ (.tail _ (.tail _ (.tail _ (.tail _ (.tail _ (.tail _ (.tail _ (.tail _ (.tail _ (.tail _ (.tail _ (.tail _ (.tail _ (.tail _ (.tail _ (.head _)))))))))))))))))
abbrev f_length_in : Nat := Lib.ix P 57
theorem p_length_in : P (f_length_in P) = some (cf_length_in (Lib.ix P)) := Lib.q2 (57, cf_length_in (Lib.ix P)) (.tail _ (.tail _ (.tail _ (.tail _ (.tail _ (.tail _ (.tail _ (.tail _ (.tail _ (.tail _ (.tail _ (.tail _ (.tail _ (.tail _ (.tail _ (.tail _ (.tail _ (.head _))))))))))))))))))
abbrev f_read_cable : Nat := Lib.ix P 58
theorem p_read_cable : P (f_read_cable P) = some (cf_read_cable (Lib.ix P)) := Lib.q2 (58, cf_read_cable (Lib.ix P)) (.tail _ (.tail _ (.tail _ (.tail _ (.tail _ (.tail _ (.tail _ (.tail _ (.tail _ (.tail _ (.tail _ (.tail _ (.tail _ (.tail _ (.tail _ (.tail _ (.tail _ (.tail _ (.head _)))))))))))))))))))
abbrev f_law_fraction_text : Nat := Lib.ix P 59
theorem p_law_fraction_text : P (f_law_fraction_text P) = some (cf_law_fraction_text (Lib.ix P)) := Lib.q2 (59, cf_law_fraction_text (Lib.ix P)) (.tail _ (.tail _ (.tail _ (.tail _ (.tail _ (.tail _ (.tail _ (.tail _ (.tail _ (.tail _ (.tail _ (.tail _ (.tail _ (.tail _ (.tail _ (.tail _ (.tail _ (.tail _ (.tail _ (.head _))))))))))))))))))))
abbrev f_law_text : Nat := Lib.ix P 60
theorem p_law_text : P (f_law_text P) = some (cf_law_text (Lib.ix P)) := Lib.q3 (60, cf_law_text (Lib.ix P)) (.head _)
abbrev f_is_leak : Nat := Lib.ix P 61
theorem p_is_leak : P (f_is_leak P) = some (cf_is_leak (Lib.ix P)) := Lib.q3 (61, cf_is_leak (Lib.ix P)) (.tail _ (.head _))
abbrev f_are_leaks : Nat := Lib.ix P 62
theorem p_are_leaks : P (f_are_leaks P) = some (cf_are_leaks (Lib.ix P)) := Lib.q3 (62, cf_are_leaks (Lib.ix P)) (.tail _ (.tail _ (.head _)))
abbrev f_is_leaks : Nat := Lib.ix P 63
theorem p_is_leaks : P (f_is_leaks P) = some (cf_is_leaks (Lib.ix P)) := Lib.q3 (63, cf_is_leaks (Lib.ix P)) (.tail _ (.tail _ (.tail _ (.head _))))
abbrev f_law_sixths : Nat := Lib.ix P 64
theorem p_law_sixths : P (f_law_sixths P) = some (cf_law_sixths (Lib.ix P)) := Lib.q3 (64, cf_law_sixths (Lib.ix P)) (.tail _ (.tail _ (.tail _ (.tail _ (.head _)))))
abbrev f_check_leaks : Nat := Lib.ix P 65
theorem p_check_leaks : P (f_check_leaks P) = some (cf_check_leaks (Lib.ix P)) := Lib.q3 (65, cf_check_leaks (Lib.ix P)) (.tail _ (.tail _ (.tail _ (.tail _ (.tail _ (.head _))))))
abbrev f_both_seen : Nat := Lib.ix P 66
theorem p_both_seen : P (f_both_seen P) = some (cf_both_seen (Lib.ix P)) := Lib.q3 (66, cf_both_seen (Lib.ix P)) (.tail _ (.tail _ (.tail _ (.tail _ (.tail _ (.tail _ (.head _)))))))
abbrev f_join : Nat := Lib.ix P 67
theorem p_join : P (f_join P) = some (cf_join (Lib.ix P)) := Lib.q3 (67, cf_join (Lib.ix P)) (.tail _ (.tail _ (.tail _ (.tail _ (.tail _ (.tail _ (.tail _ (.head _))))))))
abbrev f_stretch_by : Nat := Lib.ix P 68
theorem p_stretch_by : P (f_stretch_by P) = some (cf_stretch_by (Lib.ix P)) := Lib.q3 (68, cf_stretch_by (Lib.ix P)) (.tail _ (.tail _ (.tail _ (.tail _ (.tail _ (.tail _ (.tail _ (.tail _ (.head _)))))))))
abbrev f_beside : Nat := Lib.ix P 69
theorem p_beside : P (f_beside P) = some (cf_beside (Lib.ix P)) := Lib.q3 (69, cf_beside (Lib.ix P)) (.tail _ (.tail _ (.tail _ (.tail _ (.tail _ (.tail _ (.tail _ (.tail _ (.tail _ (.head _))))))))))
abbrev f_reading : Nat := Lib.ix P 70
theorem p_reading : P (f_reading P) = some (cf_reading (Lib.ix P)) := Lib.q3 (70, cf_reading (Lib.ix P)) (.tail _ (.tail _ (.tail _ (.tail _ (.tail _ (.tail _ (.tail _ (.tail _ (.tail _ (.tail _ (.head _)))))))))))
abbrev f_measure : Nat := Lib.ix P 71
theorem p_measure : P (f_measure P) = some (cf_measure (Lib.ix P)) := Lib.q3 (71, cf_measure (Lib.ix P)) (.tail _ (.tail _ (.tail _ (.tail _ (.tail _ (.tail _ (.tail _ (.tail _ (.tail _ (.tail _ (.tail _ (.head _))))))))))))
abbrev f_law_drag_to : Nat := Lib.ix P 72
theorem p_law_drag_to : P (f_law_drag_to P) = some (cf_law_drag_to (Lib.ix P)) := Lib.q3 (72, cf_law_drag_to (Lib.ix P)) (.tail _ (.tail _ (.tail _ (.tail _ (.tail _ (.tail _ (.tail _ (.tail _ (.tail _ (.tail _ (.tail _ (.tail _ (.head _)))))))))))))
abbrev f_law_points : Nat := Lib.ix P 73
theorem p_law_points : P (f_law_points P) = some (cf_law_points (Lib.ix P)) := Lib.q3 (73, cf_law_points (Lib.ix P)) (.tail _ (.tail _ (.tail _ (.tail _ (.tail _ (.tail _ (.tail _ (.tail _ (.tail _ (.tail _ (.tail _ (.tail _ (.tail _ (.head _))))))))))))))
abbrev f_law_steps_seen : Nat := Lib.ix P 74
theorem p_law_steps_seen : P (f_law_steps_seen P) = some (cf_law_steps_seen (Lib.ix P)) := Lib.q3 (74, cf_law_steps_seen (Lib.ix P)) (.tail _ (.tail _ (.tail _ (.tail _ (.tail _ (.tail _ (.tail _ (.tail _ (.tail _ (.tail _ (.tail _ (.tail _ (.tail _ (.tail _ (.head _)))))))))))))))
abbrev f_law_seen : Nat := Lib.ix P 75
theorem p_law_seen : P (f_law_seen P) = some (cf_law_seen (Lib.ix P)) := Lib.q3 (75, cf_law_seen (Lib.ix P)) (.tail _ (.tail _ (.tail _ (.tail _ (.tail _ (.tail _ (.tail _ (.tail _ (.tail _ (.tail _ (.tail _ (.tail _ (.tail _ (.tail _ (.tail _ (.head _))))))))))))))))
abbrev f_law_day : Nat := Lib.ix P 76
theorem p_law_day : P (f_law_day P) = some (cf_law_day (Lib.ix P)) := Lib.q3 (76, cf_law_day (Lib.ix P)) (.tail _ (.tail _ (.tail _ (.tail _ (.tail _ (.tail _ (.tail _ (.tail _ (.tail _ (.tail _ (.tail _ (.tail _ (.tail _ (.tail _ (.tail _ (.tail _ (.head _)))))))))))))))))
abbrev f_law_leaks_2 : Nat := Lib.ix P 77
theorem p_law_leaks_2 : P (f_law_leaks_2 P) = some (cf_law_leaks_2 (Lib.ix P)) := Lib.q3 (77, cf_law_leaks_2 (Lib.ix P)) (.tail _ (.tail _ (.tail _ (.tail _ (.tail _ (.tail _ (.tail _ (.tail _ (.tail _ (.tail _ (.tail _ (.tail _ (.tail _ (.tail _ (.tail _ (.tail _ (.tail _ (.head _))))))))))))))))))
abbrev f_law_sort_2 : Nat := Lib.ix P 78
theorem p_law_sort_2 : P (f_law_sort_2 P) = some (cf_law_sort_2 (Lib.ix P)) := Lib.q3 (78, cf_law_sort_2 (Lib.ix P)) (.tail _ (.tail _ (.tail _ (.tail _ (.tail _ (.tail _ (.tail _ (.tail _ (.tail _ (.tail _ (.tail _ (.tail _ (.tail _ (.tail _ (.tail _ (.tail _ (.tail _ (.tail _ (.head _)))))))))))))))))))
abbrev f_lack_of : Nat := Lib.ix P 79
theorem p_lack_of : P (f_lack_of P) = some (cf_lack_of (Lib.ix P)) := Lib.q3 (79, cf_lack_of (Lib.ix P)) (.tail _ (.tail _ (.tail _ (.tail _ (.tail _ (.tail _ (.tail _ (.tail _ (.tail _ (.tail _ (.tail _ (.tail _ (.tail _ (.tail _ (.tail _ (.tail _ (.tail _ (.tail _ (.tail _ (.head _))))))))))))))))))))
abbrev f_is_seen : Nat := Lib.ix P 80
theorem p_is_seen : P (f_is_seen P) = some (cf_is_seen (Lib.ix P)) := Lib.q4 (80, cf_is_seen (Lib.ix P)) (.head _)
abbrev f_is_stretch : Nat := Lib.ix P 81
theorem p_is_stretch : P (f_is_stretch P) = some (cf_is_stretch (Lib.ix P)) := Lib.q4 (81, cf_is_stretch (Lib.ix P)) (.tail _ (.head _))
abbrev f_joined : Nat := Lib.ix P 82
theorem p_joined : P (f_joined P) = some (cf_joined (Lib.ix P)) := Lib.q4 (82, cf_joined (Lib.ix P)) (.tail _ (.tail _ (.head _)))
abbrev f_law_stretch : Nat := Lib.ix P 83
theorem p_law_stretch : P (f_law_stretch P) = some (cf_law_stretch (Lib.ix P)) := Lib.q4 (83, cf_law_stretch (Lib.ix P)) (.tail _ (.tail _ (.tail _ (.head _))))
abbrev f_stretch_of : Nat := Lib.ix P 84
theorem p_stretch_of : P (f_stretch_of P) = some (cf_stretch_of (Lib.ix P)) := Lib.q4 (84, cf_stretch_of (Lib.ix P)) (.tail _ (.tail _ (.tail _ (.tail _ (.head _)))))
abbrev f_check_word : Nat := Lib.ix P 85
theorem p_check_word : P (f_check_word P) = some (cf_check_word (Lib.ix P)) := Lib.q4 (85, cf_check_word (Lib.ix P)) (.tail _ (.tail _ (.tail _ (.tail _ (.tail _ (.head _))))))
abbrev f_check_reading : Nat := Lib.ix P 86
theorem p_check_reading : P (f_check_reading P) = some (cf_check_reading (Lib.ix P)) := Lib.q4 (86, cf_check_reading (Lib.ix P)) (.tail _ (.tail _ (.tail _ (.tail _ (.tail _ (.tail _ (.head _)))))))
abbrev f_drag_with : Nat := Lib.ix P 87
theorem p_drag_with : P (f_drag_with P) = some (cf_drag_with (Lib.ix P)) := Lib.q4 (87, cf_drag_with (Lib.ix P)) (.tail _ (.tail _ (.tail _ (.tail _ (.tail _ (.tail _ (.tail _ (.head _))))))))
abbrev f_drag_by : Nat := Lib.ix P 88
theorem p_drag_by : P (f_drag_by P) = some (cf_drag_by (Lib.ix P)) := Lib.q4 (88, cf_drag_by (Lib.ix P)) (.tail _ (.tail _ (.tail _ (.tail _ (.tail _ (.tail _ (.tail _ (.tail _ (.head _)))))))))
abbrev f_law_place_at : Nat := Lib.ix P 89
theorem p_law_place_at : P (f_law_place_at P) = some (cf_law_place_at (Lib.ix P)) := Lib.q4 (89, cf_law_place_at (Lib.ix P)) (.tail _ (.tail _ (.tail _ (.tail _ (.tail _ (.tail _ (.tail _ (.tail _ (.tail _ (.head _))))))))))
abbrev f_law_read : Nat := Lib.ix P 90
theorem p_law_read : P (f_law_read P) = some (cf_law_read (Lib.ix P)) := Lib.q4 (90, cf_law_read (Lib.ix P)) (.tail _ (.tail _ (.tail _ (.tail _ (.tail _ (.tail _ (.tail _ (.tail _ (.tail _ (.tail _ (.head _)))))))))))
abbrev f_law_leak : Nat := Lib.ix P 91
theorem p_law_leak : P (f_law_leak P) = some (cf_law_leak (Lib.ix P)) := Lib.q4 (91, cf_law_leak (Lib.ix P)) (.tail _ (.tail _ (.tail _ (.tail _ (.tail _ (.tail _ (.tail _ (.tail _ (.tail _ (.tail _ (.tail _ (.head _))))))))))))
abbrev f_half : Nat := Lib.ix P 92
theorem p_half : P (f_half P) = some (cf_half (Lib.ix P)) := Lib.q4 (92, cf_half (Lib.ix P)) (.tail _ (.tail _ (.tail _ (.tail _ (.tail _ (.tail _ (.tail _ (.tail _ (.tail _ (.tail _ (.tail _ (.tail _ (.head _)))))))))))))
abbrev f_by_free_and_earth : Nat := Lib.ix P 93
theorem p_by_free_and_earth : P (f_by_free_and_earth P) = some (cf_by_free_and_earth (Lib.ix P)) := Lib.q4 (93, cf_by_free_and_earth (Lib.ix P)) (.tail _ (.tail _ (.tail _ (.tail _ (.tail _ (.tail _ (.tail _ (.tail _ (.tail _ (.tail _ (.tail _ (.tail _ (.tail _ (.head _))))))))))))))
abbrev f_by_free_and_far_earth : Nat := Lib.ix P 94
theorem p_by_free_and_far_earth : P (f_by_free_and_far_earth P) = some (cf_by_free_and_far_earth (Lib.ix P)) := Lib.q4 (94, cf_by_free_and_far_earth (Lib.ix P)) (.tail _ (.tail _ (.tail _ (.tail _ (.tail _ (.tail _ (.tail _ (.tail _ (.tail _ (.tail _ (.tail _ (.tail _ (.tail _ (.tail _ (.head _)))))))))))))))
abbrev f_by_earths : Nat := Lib.ix P 95
theorem p_by_earths : P (f_by_earths P) = some (cf_by_earths (Lib.ix P)) := Lib.q4 (95, cf_by_earths (Lib.ix P)) (.tail _ (.tail _ (.tail _ (.tail _ (.tail _ (.tail _ (.tail _ (.tail _ (.tail _ (.tail _ (.tail _ (.tail _ (.tail _ (.tail _ (.tail _ (.head _))))))))))))))))
abbrev f_possible_drags : Nat := Lib.ix P 96
theorem p_possible_drags : P (f_possible_drags P) = some (cf_possible_drags (Lib.ix P)) := Lib.q4 (96, cf_possible_drags (Lib.ix P)) (.tail _ (.tail _ (.tail _ (.tail _ (.tail _ (.tail _ (.tail _ (.tail _ (.tail _ (.tail _ (.tail _ (.tail _ (.tail _ (.tail _ (.tail _ (.tail _ (.head _)))))))))))))))))
abbrev f_leak_with : Nat := Lib.ix P 97
theorem p_leak_with : P (f_leak_with P) = some (cf_leak_with (Lib.ix P)) := Lib.q4 (97, cf_leak_with (Lib.ix P)) (.tail _ (.tail _ (.tail _ (.tail _ (.tail _ (.tail _ (.tail _ (.tail _ (.tail _ (.tail _ (.tail _ (.tail _ (.tail _ (.tail _ (.tail _ (.tail _ (.tail _ (.head _))))))))))))))))))
abbrev f_one_leak : Nat := Lib.ix P 98
theorem p_one_leak : P (f_one_leak P) = some (cf_one_leak (Lib.ix P)) := Lib.q4 (98, cf_one_leak (Lib.ix P)) (.tail _ (.tail _ (.tail _ (.tail _ (.tail _ (.tail _ (.tail _ (.tail _ (.tail _ (.tail _ (.tail _ (.tail _ (.tail _ (.tail _ (.tail _ (.tail _ (.tail _ (.tail _ (.head _)))))))))))))))))))
abbrev f_is_day : Nat := Lib.ix P 99
theorem p_is_day : P (f_is_day P) = some (cf_is_day (Lib.ix P)) := Lib.q4 (99, cf_is_day (Lib.ix P)) (.tail _ (.tail _ (.tail _ (.tail _ (.tail _ (.tail _ (.tail _ (.tail _ (.tail _ (.tail _ (.tail _ (.tail _ (.tail _ (.tail _ (.tail _ (.tail _ (.tail _ (.tail _ (.tail _ (.head _))))))))))))))))))))
abbrev f_check_day : Nat := Lib.ix P 100
theorem p_check_day : P (f_check_day P) = some (cf_check_day (Lib.ix P)) := Lib.q5 (100, cf_check_day (Lib.ix P)) (.head _)
abbrev f_day_by : Nat := Lib.ix P 101
theorem p_day_by : P (f_day_by P) = some (cf_day_by (Lib.ix P)) := Lib.q5 (101, cf_day_by (Lib.ix P)) (.tail _ (.head _))
abbrev f_day_of : Nat := Lib.ix P 102
theorem p_day_of : P (f_day_of P) = some (cf_day_of (Lib.ix P)) := Lib.q5 (102, cf_day_of (Lib.ix P)) (.tail _ (.tail _ (.head _)))
abbrev f_four_of : Nat := Lib.ix P 103
theorem p_four_of : P (f_four_of P) = some (cf_four_of (Lib.ix P)) := Lib.q5 (103, cf_four_of (Lib.ix P)) (.tail _ (.tail _ (.tail _ (.head _))))
abbrev f_fault_in : Nat := Lib.ix P 104
theorem p_fault_in : P (f_fault_in P) = some (cf_fault_in (Lib.ix P)) := Lib.q5 (104, cf_fault_in (Lib.ix P)) (.tail _ (.tail _ (.tail _ (.tail _ (.head _)))))
abbrev f_kind_by : Nat := Lib.ix P 105
theorem p_kind_by : P (f_kind_by P) = some (cf_kind_by (Lib.ix P)) := Lib.q5 (105, cf_kind_by (Lib.ix P)) (.tail _ (.tail _ (.tail _ (.tail _ (.tail _ (.head _))))))
abbrev f_seen_of : Nat := Lib.ix P 106
theorem p_seen_of : P (f_seen_of P) = some (cf_seen_of (Lib.ix P)) := Lib.q5 (106, cf_seen_of (Lib.ix P)) (.tail _ (.tail _ (.tail _ (.tail _ (.tail _ (.tail _ (.head _)))))))
abbrev f_seen_by : Nat := Lib.ix P 107
theorem p_seen_by : P (f_seen_by P) = some (cf_seen_by (Lib.ix P)) := Lib.q5 (107, cf_seen_by (Lib.ix P)) (.tail _ (.tail _ (.tail _ (.tail _ (.tail _ (.tail _ (.tail _ (.head _))))))))
abbrev f_law_star : Nat := Lib.ix P 108
theorem p_law_star : P (f_law_star P) = some (cf_law_star (Lib.ix P)) := Lib.q5 (108, cf_law_star (Lib.ix P)) (.tail _ (.tail _ (.tail _ (.tail _ (.tail _ (.tail _ (.tail _ (.tail _ (.head _)))))))))
abbrev f_kind_of : Nat := Lib.ix P 109
theorem p_kind_of : P (f_kind_of P) = some (cf_kind_of (Lib.ix P)) := Lib.q5 (109, cf_kind_of (Lib.ix P)) (.tail _ (.tail _ (.tail _ (.tail _ (.tail _ (.tail _ (.tail _ (.tail _ (.tail _ (.head _))))))))))
abbrev f_check_two : Nat := Lib.ix P 110
theorem p_check_two : P (f_check_two P) = some (cf_check_two (Lib.ix P)) := Lib.q5 (110, cf_check_two (Lib.ix P)) (.tail _ (.tail _ (.tail _ (.tail _ (.tail _ (.tail _ (.tail _ (.tail _ (.tail _ (.tail _ (.head _)))))))))))
abbrev f_spans_by : Nat := Lib.ix P 111
theorem p_spans_by : P (f_spans_by P) = some (cf_spans_by (Lib.ix P)) := Lib.q5 (111, cf_spans_by (Lib.ix P)) (.tail _ (.tail _ (.tail _ (.tail _ (.tail _ (.tail _ (.tail _ (.tail _ (.tail _ (.tail _ (.tail _ (.head _))))))))))))
abbrev f_partner_by : Nat := Lib.ix P 112
theorem p_partner_by : P (f_partner_by P) = some (cf_partner_by (Lib.ix P)) := Lib.q5 (112, cf_partner_by (Lib.ix P)) (.tail _ (.tail _ (.tail _ (.tail _ (.tail _ (.tail _ (.tail _ (.tail _ (.tail _ (.tail _ (.tail _ (.tail _ (.head _)))))))))))))
abbrev f_partner_west : Nat := Lib.ix P 113
theorem p_partner_west : P (f_partner_west P) = some (cf_partner_west (Lib.ix P)) := Lib.q5 (113, cf_partner_west (Lib.ix P)) (.tail _ (.tail _ (.tail _ (.tail _ (.tail _ (.tail _ (.tail _ (.tail _ (.tail _ (.tail _ (.tail _ (.tail _ (.tail _ (.head _))))))))))))))
abbrev f_drag_within : Nat := Lib.ix P 114
theorem p_drag_within : P (f_drag_within P) = some (cf_drag_within (Lib.ix P)) := Lib.q5 (114, cf_drag_within (Lib.ix P)) (.tail _ (.tail _ (.tail _ (.tail _ (.tail _ (.tail _ (.tail _ (.tail _ (.tail _ (.tail _ (.tail _ (.tail _ (.tail _ (.tail _ (.head _)))))))))))))))
abbrev f_places_with : Nat := Lib.ix P 115
theorem p_places_with : P (f_places_with P) = some (cf_places_with (Lib.ix P)) := Lib.q5 (115, cf_places_with (Lib.ix P)) (.tail _ (.tail _ (.tail _ (.tail _ (.tail _ (.tail _ (.tail _ (.tail _ (.tail _ (.tail _ (.tail _ (.tail _ (.tail _ (.tail _ (.tail _ (.head _))))))))))))))))
abbrev f_west_span : Nat := Lib.ix P 116
theorem p_west_span : P (f_west_span P) = some (cf_west_span (Lib.ix P)) := Lib.q5 (116, cf_west_span (Lib.ix P)) (.tail _ (.tail _ (.tail _ (.tail _ (.tail _ (.tail _ (.tail _ (.tail _ (.tail _ (.tail _ (.tail _ (.tail _ (.tail _ (.tail _ (.tail _ (.tail _ (.head _)))))))))))))))))
abbrev f_east_span : Nat := Lib.ix P 117
theorem p_east_span : P (f_east_span P) = some (cf_east_span (Lib.ix P)) := Lib.q5 (117, cf_east_span (Lib.ix P)) (.tail _ (.tail _ (.tail _ (.tail _ (.tail _ (.tail _ (.tail _ (.tail _ (.tail _ (.tail _ (.tail _ (.tail _ (.tail _ (.tail _ (.tail _ (.tail _ (.tail _ (.head _))))))))))))))))))
abbrev f_pair_at : Nat := Lib.ix P 118
theorem p_pair_at : P (f_pair_at P) = some (cf_pair_at (Lib.ix P)) := Lib.q5 (118, cf_pair_at (Lib.ix P)) (.tail _ (.tail _ (.tail _ (.tail _ (.tail _ (.tail _ (.tail _ (.tail _ (.tail _ (.tail _ (.tail _ (.tail _ (.tail _ (.tail _ (.tail _ (.tail _ (.tail _ (.tail _ (.head _)))))))))))))))))))
abbrev f_east_of : Nat := Lib.ix P 119
theorem p_east_of : P (f_east_of P) = some (cf_east_of (Lib.ix P)) := Lib.q5 (119, cf_east_of (Lib.ix P)) (.tail _ (.tail _ (.tail _ (.tail _ (.tail _ (.tail _ (.tail _ (.tail _ (.tail _ (.tail _ (.tail _ (.tail _ (.tail _ (.tail _ (.tail _ (.tail _ (.tail _ (.tail _ (.tail _ (.head _))))))))))))))))))))
abbrev f_west_of : Nat := Lib.ix P 120
theorem p_west_of : P (f_west_of P) = some (cf_west_of (Lib.ix P)) := Lib.q6 (120, cf_west_of (Lib.ix P)) (.head _)
abbrev f_law_partner : Nat := Lib.ix P 121
theorem p_law_partner : P (f_law_partner P) = some (cf_law_partner (Lib.ix P)) := Lib.q6 (121, cf_law_partner (Lib.ix P)) (.tail _ (.head _))
abbrev f_law_pair : Nat := Lib.ix P 122
theorem p_law_pair : P (f_law_pair P) = some (cf_law_pair (Lib.ix P)) := Lib.q6 (122, cf_law_pair (Lib.ix P)) (.tail _ (.tail _ (.head _)))
abbrev f_law_listed : Nat := Lib.ix P 123
theorem p_law_listed : P (f_law_listed P) = some (cf_law_listed (Lib.ix P)) := Lib.q6 (123, cf_law_listed (Lib.ix P)) (.tail _ (.tail _ (.tail _ (.head _))))
abbrev f_law_two_more : Nat := Lib.ix P 124
theorem p_law_two_more : P (f_law_two_more P) = some (cf_law_two_more (Lib.ix P)) := Lib.q6 (124, cf_law_two_more (Lib.ix P)) (.tail _ (.tail _ (.tail _ (.tail _ (.head _)))))
abbrev f_law_spans : Nat := Lib.ix P 125
theorem p_law_spans : P (f_law_spans P) = some (cf_law_spans (Lib.ix P)) := Lib.q6 (125, cf_law_spans (Lib.ix P)) (.tail _ (.tail _ (.tail _ (.tail _ (.tail _ (.head _))))))
abbrev f_law_spots : Nat := Lib.ix P 126
theorem p_law_spots : P (f_law_spots P) = some (cf_law_spots (Lib.ix P)) := Lib.q6 (126, cf_law_spots (Lib.ix P)) (.tail _ (.tail _ (.tail _ (.tail _ (.tail _ (.tail _ (.head _)))))))
abbrev f_check_splice : Nat := Lib.ix P 127
theorem p_check_splice : P (f_check_splice P) = some (cf_check_splice (Lib.ix P)) := Lib.q6 (127, cf_check_splice (Lib.ix P)) (.tail _ (.tail _ (.tail _ (.tail _ (.tail _ (.tail _ (.tail _ (.head _))))))))
abbrev f_part_cables : Nat := Lib.ix P 128
theorem p_part_cables : P (f_part_cables P) = some (cf_part_cables (Lib.ix P)) := Lib.q6 (128, cf_part_cables (Lib.ix P)) (.tail _ (.tail _ (.tail _ (.tail _ (.tail _ (.tail _ (.tail _ (.tail _ (.head _)))))))))
abbrev f_parts : Nat := Lib.ix P 129
theorem p_parts : P (f_parts P) = some (cf_parts (Lib.ix P)) := Lib.q6 (129, cf_parts (Lib.ix P)) (.tail _ (.tail _ (.tail _ (.tail _ (.tail _ (.tail _ (.tail _ (.tail _ (.tail _ (.head _))))))))))
abbrev f_leaks_parted : Nat := Lib.ix P 130
theorem p_leaks_parted : P (f_leaks_parted P) = some (cf_leaks_parted (Lib.ix P)) := Lib.q6 (130, cf_leaks_parted (Lib.ix P)) (.tail _ (.tail _ (.tail _ (.tail _ (.tail _ (.tail _ (.tail _ (.tail _ (.tail _ (.tail _ (.head _)))))))))))
abbrev f_east_drag : Nat := Lib.ix P 131
theorem p_east_drag : P (f_east_drag P) = some (cf_east_drag (Lib.ix P)) := Lib.q6 (131, cf_east_drag (Lib.ix P)) (.tail _ (.tail _ (.tail _ (.tail _ (.tail _ (.tail _ (.tail _ (.tail _ (.tail _ (.tail _ (.tail _ (.head _))))))))))))
abbrev f_west_drag : Nat := Lib.ix P 132
theorem p_west_drag : P (f_west_drag P) = some (cf_west_drag (Lib.ix P)) := Lib.q6 (132, cf_west_drag (Lib.ix P)) (.tail _ (.tail _ (.tail _ (.tail _ (.tail _ (.tail _ (.tail _ (.tail _ (.tail _ (.tail _ (.tail _ (.tail _ (.head _)))))))))))))
abbrev f_next_cut : Nat := Lib.ix P 133
theorem p_next_cut : P (f_next_cut P) = some (cf_next_cut (Lib.ix P)) := Lib.q6 (133, cf_next_cut (Lib.ix P)) (.tail _ (.tail _ (.tail _ (.tail _ (.tail _ (.tail _ (.tail _ (.tail _ (.tail _ (.tail _ (.tail _ (.tail _ (.tail _ (.head _))))))))))))))
abbrev f_cover_by : Nat := Lib.ix P 134
theorem p_cover_by : P (f_cover_by P) = some (cf_cover_by (Lib.ix P)) := Lib.q6 (134, cf_cover_by (Lib.ix P)) (.tail _ (.tail _ (.tail _ (.tail _ (.tail _ (.tail _ (.tail _ (.tail _ (.tail _ (.tail _ (.tail _ (.tail _ (.tail _ (.tail _ (.head _)))))))))))))))
abbrev f_cover_of : Nat := Lib.ix P 135
theorem p_cover_of : P (f_cover_of P) = some (cf_cover_of (Lib.ix P)) := Lib.q6 (135, cf_cover_of (Lib.ix P)) (.tail _ (.tail _ (.tail _ (.tail _ (.tail _ (.tail _ (.tail _ (.tail _ (.tail _ (.tail _ (.tail _ (.tail _ (.tail _ (.tail _ (.tail _ (.head _))))))))))))))))
abbrev f_law_east : Nat := Lib.ix P 136
theorem p_law_east : P (f_law_east P) = some (cf_law_east (Lib.ix P)) := Lib.q6 (136, cf_law_east (Lib.ix P)) (.tail _ (.tail _ (.tail _ (.tail _ (.tail _ (.tail _ (.tail _ (.tail _ (.tail _ (.tail _ (.tail _ (.tail _ (.tail _ (.tail _ (.tail _ (.tail _ (.head _)))))))))))))))))
abbrev f_law_west : Nat := Lib.ix P 137
theorem p_law_west : P (f_law_west P) = some (cf_law_west (Lib.ix P)) := Lib.q6 (137, cf_law_west (Lib.ix P)) (.tail _ (.tail _ (.tail _ (.tail _ (.tail _ (.tail _ (.tail _ (.tail _ (.tail _ (.tail _ (.tail _ (.tail _ (.tail _ (.tail _ (.tail _ (.tail _ (.tail _ (.head _))))))))))))))))))
abbrev f_law_splices : Nat := Lib.ix P 138
theorem p_law_splices : P (f_law_splices P) = some (cf_law_splices (Lib.ix P)) := Lib.q6 (138, cf_law_splices (Lib.ix P)) (.tail _ (.tail _ (.tail _ (.tail _ (.tail _ (.tail _ (.tail _ (.tail _ (.tail _ (.tail _ (.tail _ (.tail _ (.tail _ (.tail _ (.tail _ (.tail _ (.tail _ (.tail _ (.head _)))))))))))))))))))
abbrev f_law_most_west : Nat := Lib.ix P 139
theorem p_law_most_west : P (f_law_most_west P) = some (cf_law_most_west (Lib.ix P)) := Lib.q6 (139, cf_law_most_west (Lib.ix P)) (.tail _ (.tail _ (.tail _ (.tail _ (.tail _ (.tail _ (.tail _ (.tail _ (.tail _ (.tail _ (.tail _ (.tail _ (.tail _ (.tail _ (.tail _ (.tail _ (.tail _ (.tail _ (.tail _ (.head _))))))))))))))))))))
abbrev f_law_two : Nat := Lib.ix P 140
theorem p_law_two : P (f_law_two P) = some (cf_law_two (Lib.ix P)) := Lib.q7 (140, cf_law_two (Lib.ix P)) (.head _)
abbrev f_needed_for : Nat := Lib.ix P 141
theorem p_needed_for : P (f_needed_for P) = some (cf_needed_for (Lib.ix P)) := Lib.q7 (141, cf_needed_for (Lib.ix P)) (.tail _ (.head _))
abbrev f_cuts_needed : Nat := Lib.ix P 142
theorem p_cuts_needed : P (f_cuts_needed P) = some (cf_cuts_needed (Lib.ix P)) := Lib.q7 (142, cf_cuts_needed (Lib.ix P)) (.tail _ (.tail _ (.head _)))
abbrev f_stretch_told : Nat := Lib.ix P 143
theorem p_stretch_told : P (f_stretch_told P) = some (cf_stretch_told (Lib.ix P)) := Lib.q7 (143, cf_stretch_told (Lib.ix P)) (.tail _ (.tail _ (.tail _ (.head _))))
abbrev f_edge_drags : Nat := Lib.ix P 144
theorem p_edge_drags : P (f_edge_drags P) = some (cf_edge_drags (Lib.ix P)) := Lib.q7 (144, cf_edge_drags (Lib.ix P)) (.tail _ (.tail _ (.tail _ (.tail _ (.head _)))))
abbrev f_leak_moved : Nat := Lib.ix P 145
theorem p_leak_moved : P (f_leak_moved P) = some (cf_leak_moved (Lib.ix P)) := Lib.q7 (145, cf_leak_moved (Lib.ix P)) (.tail _ (.tail _ (.tail _ (.tail _ (.tail _ (.head _))))))
abbrev f_law_small_3 : Nat := Lib.ix P 146
theorem p_law_small_3 : P (f_law_small_3 P) = some (cf_law_small_3 (Lib.ix P)) := Lib.q7 (146, cf_law_small_3 (Lib.ix P)) (.tail _ (.tail _ (.tail _ (.tail _ (.tail _ (.tail _ (.head _)))))))
abbrev f_law_pair_2 : Nat := Lib.ix P 147
theorem p_law_pair_2 : P (f_law_pair_2 P) = some (cf_law_pair_2 (Lib.ix P)) := Lib.q7 (147, cf_law_pair_2 (Lib.ix P)) (.tail _ (.tail _ (.tail _ (.tail _ (.tail _ (.tail _ (.tail _ (.head _))))))))
abbrev f_law_drags : Nat := Lib.ix P 148
theorem p_law_drags : P (f_law_drags P) = some (cf_law_drags (Lib.ix P)) := Lib.q7 (148, cf_law_drags (Lib.ix P)) (.tail _ (.tail _ (.tail _ (.tail _ (.tail _ (.tail _ (.tail _ (.tail _ (.head _)))))))))
abbrev f_law_least : Nat := Lib.ix P 149
theorem p_law_least : P (f_law_least P) = some (cf_law_least (Lib.ix P)) := Lib.q7 (149, cf_law_least (Lib.ix P)) (.tail _ (.tail _ (.tail _ (.tail _ (.tail _ (.tail _ (.tail _ (.tail _ (.tail _ (.head _))))))))))
abbrev f_law_part : Nat := Lib.ix P 150
theorem p_law_part : P (f_law_part P) = some (cf_law_part (Lib.ix P)) := Lib.q7 (150, cf_law_part (Lib.ix P)) (.tail _ (.tail _ (.tail _ (.tail _ (.tail _ (.tail _ (.tail _ (.tail _ (.tail _ (.tail _ (.head _)))))))))))
abbrev f_law_days_cut : Nat := Lib.ix P 151
theorem p_law_days_cut : P (f_law_days_cut P) = some (cf_law_days_cut (Lib.ix P)) := Lib.q7 (151, cf_law_days_cut (Lib.ix P)) (.tail _ (.tail _ (.tail _ (.tail _ (.tail _ (.tail _ (.tail _ (.tail _ (.tail _ (.tail _ (.tail _ (.head _))))))))))))
abbrev f_check_days : Nat := Lib.ix P 152
theorem p_check_days : P (f_check_days P) = some (cf_check_days (Lib.ix P)) := Lib.q7 (152, cf_check_days (Lib.ix P)) (.tail _ (.tail _ (.tail _ (.tail _ (.tail _ (.tail _ (.tail _ (.tail _ (.tail _ (.tail _ (.tail _ (.tail _ (.head _)))))))))))))
abbrev f_two_drags : Nat := Lib.ix P 153
theorem p_two_drags : P (f_two_drags P) = some (cf_two_drags (Lib.ix P)) := Lib.q7 (153, cf_two_drags (Lib.ix P)) (.tail _ (.tail _ (.tail _ (.tail _ (.tail _ (.tail _ (.tail _ (.tail _ (.tail _ (.tail _ (.tail _ (.tail _ (.tail _ (.head _))))))))))))))
abbrev f_fits_by : Nat := Lib.ix P 154
theorem p_fits_by : P (f_fits_by P) = some (cf_fits_by (Lib.ix P)) := Lib.q7 (154, cf_fits_by (Lib.ix P)) (.tail _ (.tail _ (.tail _ (.tail _ (.tail _ (.tail _ (.tail _ (.tail _ (.tail _ (.tail _ (.tail _ (.tail _ (.tail _ (.tail _ (.head _)))))))))))))))
abbrev f_east_drag_2 : Nat := Lib.ix P 155
theorem p_east_drag_2 : P (f_east_drag_2 P) = some (cf_east_drag_2 (Lib.ix P)) := Lib.q7 (155, cf_east_drag_2 (Lib.ix P)) (.tail _ (.tail _ (.tail _ (.tail _ (.tail _ (.tail _ (.tail _ (.tail _ (.tail _ (.tail _ (.tail _ (.tail _ (.tail _ (.tail _ (.tail _ (.head _))))))))))))))))
abbrev f_west_drag_2 : Nat := Lib.ix P 156
theorem p_west_drag_2 : P (f_west_drag_2 P) = some (cf_west_drag_2 (Lib.ix P)) := Lib.q7 (156, cf_west_drag_2 (Lib.ix P)) (.tail _ (.tail _ (.tail _ (.tail _ (.tail _ (.tail _ (.tail _ (.tail _ (.tail _ (.tail _ (.tail _ (.tail _ (.tail _ (.tail _ (.tail _ (.tail _ (.head _)))))))))))))))))
abbrev f_roots_of : Nat := Lib.ix P 157
theorem p_roots_of : P (f_roots_of P) = some (cf_roots_of (Lib.ix P)) := Lib.q7 (157, cf_roots_of (Lib.ix P)) (.tail _ (.tail _ (.tail _ (.tail _ (.tail _ (.tail _ (.tail _ (.tail _ (.tail _ (.tail _ (.tail _ (.tail _ (.tail _ (.tail _ (.tail _ (.tail _ (.tail _ (.head _))))))))))))))))))
abbrev f_pairs_of_two : Nat := Lib.ix P 158
theorem p_pairs_of_two : P (f_pairs_of_two P) = some (cf_pairs_of_two (Lib.ix P)) := Lib.q7 (158, cf_pairs_of_two (Lib.ix P)) (.tail _ (.tail _ (.tail _ (.tail _ (.tail _ (.tail _ (.tail _ (.tail _ (.tail _ (.tail _ (.tail _ (.tail _ (.tail _ (.tail _ (.tail _ (.tail _ (.tail _ (.tail _ (.head _)))))))))))))))))))
abbrev f_pairs_with : Nat := Lib.ix P 159
theorem p_pairs_with : P (f_pairs_with P) = some (cf_pairs_with (Lib.ix P)) := Lib.q7 (159, cf_pairs_with (Lib.ix P)) (.tail _ (.tail _ (.tail _ (.tail _ (.tail _ (.tail _ (.tail _ (.tail _ (.tail _ (.tail _ (.tail _ (.tail _ (.tail _ (.tail _ (.tail _ (.tail _ (.tail _ (.tail _ (.tail _ (.head _))))))))))))))))))))
abbrev f_pairs_of : Nat := Lib.ix P 160
theorem p_pairs_of : P (f_pairs_of P) = some (cf_pairs_of (Lib.ix P)) := Lib.q8 (160, cf_pairs_of (Lib.ix P)) (.head _)
abbrev f_fit_all : Nat := Lib.ix P 161
theorem p_fit_all : P (f_fit_all P) = some (cf_fit_all (Lib.ix P)) := Lib.q8 (161, cf_fit_all (Lib.ix P)) (.tail _ (.head _))
abbrev f_is_before : Nat := Lib.ix P 162
theorem p_is_before : P (f_is_before P) = some (cf_is_before (Lib.ix P)) := Lib.q8 (162, cf_is_before (Lib.ix P)) (.tail _ (.tail _ (.head _)))
abbrev f_pairs_told : Nat := Lib.ix P 163
theorem p_pairs_told : P (f_pairs_told P) = some (cf_pairs_told (Lib.ix P)) := Lib.q8 (163, cf_pairs_told (Lib.ix P)) (.tail _ (.tail _ (.tail _ (.head _))))
abbrev f_are_apart : Nat := Lib.ix P 164
theorem p_are_apart : P (f_are_apart P) = some (cf_are_apart (Lib.ix P)) := Lib.q8 (164, cf_are_apart (Lib.ix P)) (.tail _ (.tail _ (.tail _ (.tail _ (.head _)))))
abbrev f_telling_by : Nat := Lib.ix P 165
theorem p_telling_by : P (f_telling_by P) = some (cf_telling_by (Lib.ix P)) := Lib.q8 (165, cf_telling_by (Lib.ix P)) (.tail _ (.tail _ (.tail _ (.tail _ (.tail _ (.head _))))))
abbrev f_telling : Nat := Lib.ix P 166
theorem p_telling : P (f_telling P) = some (cf_telling (Lib.ix P)) := Lib.q8 (166, cf_telling (Lib.ix P)) (.tail _ (.tail _ (.tail _ (.tail _ (.tail _ (.tail _ (.head _)))))))
abbrev f_law_kind_2 : Nat := Lib.ix P 167
theorem p_law_kind_2 : P (f_law_kind_2 P) = some (cf_law_kind_2 (Lib.ix P)) := Lib.q8 (167, cf_law_kind_2 (Lib.ix P)) (.tail _ (.tail _ (.tail _ (.tail _ (.tail _ (.tail _ (.tail _ (.head _))))))))
abbrev f_law_fits : Nat := Lib.ix P 168
theorem p_law_fits : P (f_law_fits P) = some (cf_law_fits (Lib.ix P)) := Lib.q8 (168, cf_law_fits (Lib.ix P)) (.tail _ (.tail _ (.tail _ (.tail _ (.tail _ (.tail _ (.tail _ (.tail _ (.head _)))))))))
abbrev f_law_some_drag : Nat := Lib.ix P 169
theorem p_law_some_drag : P (f_law_some_drag P) = some (cf_law_some_drag (Lib.ix P)) := Lib.q8 (169, cf_law_some_drag (Lib.ix P)) (.tail _ (.tail _ (.tail _ (.tail _ (.tail _ (.tail _ (.tail _ (.tail _ (.tail _ (.head _))))))))))
abbrev f_law_hidden_2 : Nat := Lib.ix P 170
theorem p_law_hidden_2 : P (f_law_hidden_2 P) = some (cf_law_hidden_2 (Lib.ix P)) := Lib.q8 (170, cf_law_hidden_2 (Lib.ix P)) (.tail _ (.tail _ (.tail _ (.tail _ (.tail _ (.tail _ (.tail _ (.tail _ (.tail _ (.tail _ (.head _)))))))))))
abbrev f_law_hidden_day : Nat := Lib.ix P 171
theorem p_law_hidden_day : P (f_law_hidden_day P) = some (cf_law_hidden_day (Lib.ix P)) := Lib.q8 (171, cf_law_hidden_day (Lib.ix P)) (.tail _ (.tail _ (.tail _ (.tail _ (.tail _ (.tail _ (.tail _ (.tail _ (.tail _ (.tail _ (.tail _ (.head _))))))))))))
abbrev f_law_days : Nat := Lib.ix P 172
theorem p_law_days : P (f_law_days P) = some (cf_law_days (Lib.ix P)) := Lib.q8 (172, cf_law_days (Lib.ix P)) (.tail _ (.tail _ (.tail _ (.tail _ (.tail _ (.tail _ (.tail _ (.tail _ (.tail _ (.tail _ (.tail _ (.tail _ (.head _)))))))))))))
abbrev f_check_places : Nat := Lib.ix P 173
theorem p_check_places : P (f_check_places P) = some (cf_check_places (Lib.ix P)) := Lib.q8 (173, cf_check_places (Lib.ix P)) (.tail _ (.tail _ (.tail _ (.tail _ (.tail _ (.tail _ (.tail _ (.tail _ (.tail _ (.tail _ (.tail _ (.tail _ (.tail _ (.head _))))))))))))))
abbrev f_drags_by : Nat := Lib.ix P 174
theorem p_drags_by : P (f_drags_by P) = some (cf_drags_by (Lib.ix P)) := Lib.q8 (174, cf_drags_by (Lib.ix P)) (.tail _ (.tail _ (.tail _ (.tail _ (.tail _ (.tail _ (.tail _ (.tail _ (.tail _ (.tail _ (.tail _ (.tail _ (.tail _ (.tail _ (.head _)))))))))))))))
abbrev f_clash_by : Nat := Lib.ix P 175
theorem p_clash_by : P (f_clash_by P) = some (cf_clash_by (Lib.ix P)) := Lib.q8 (175, cf_clash_by (Lib.ix P)) (.tail _ (.tail _ (.tail _ (.tail _ (.tail _ (.tail _ (.tail _ (.tail _ (.tail _ (.tail _ (.tail _ (.tail _ (.tail _ (.tail _ (.tail _ (.head _))))))))))))))))
abbrev f_clash_of : Nat := Lib.ix P 176
theorem p_clash_of : P (f_clash_of P) = some (cf_clash_of (Lib.ix P)) := Lib.q8 (176, cf_clash_of (Lib.ix P)) (.tail _ (.tail _ (.tail _ (.tail _ (.tail _ (.tail _ (.tail _ (.tail _ (.tail _ (.tail _ (.tail _ (.tail _ (.tail _ (.tail _ (.tail _ (.tail _ (.head _)))))))))))))))))
abbrev f_check_length : Nat := Lib.ix P 177
theorem p_check_length : P (f_check_length P) = some (cf_check_length (Lib.ix P)) := Lib.q8 (177, cf_check_length (Lib.ix P)) (.tail _ (.tail _ (.tail _ (.tail _ (.tail _ (.tail _ (.tail _ (.tail _ (.tail _ (.tail _ (.tail _ (.tail _ (.tail _ (.tail _ (.tail _ (.tail _ (.tail _ (.head _))))))))))))))))))
abbrev f_check_number : Nat := Lib.ix P 178
theorem p_check_number : P (f_check_number P) = some (cf_check_number (Lib.ix P)) := Lib.q8 (178, cf_check_number (Lib.ix P)) (.tail _ (.tail _ (.tail _ (.tail _ (.tail _ (.tail _ (.tail _ (.tail _ (.tail _ (.tail _ (.tail _ (.tail _ (.tail _ (.tail _ (.tail _ (.tail _ (.tail _ (.tail _ (.head _)))))))))))))))))))
abbrev f_exchange : Nat := Lib.ix P 179
theorem p_exchange : P (f_exchange P) = some (cf_exchange (Lib.ix P)) := Lib.q8 (179, cf_exchange (Lib.ix P)) (.tail _ (.tail _ (.tail _ (.tail _ (.tail _ (.tail _ (.tail _ (.tail _ (.tail _ (.tail _ (.tail _ (.tail _ (.tail _ (.tail _ (.tail _ (.tail _ (.tail _ (.tail _ (.tail _ (.head _))))))))))))))))))))
abbrev f_exchanged : Nat := Lib.ix P 180
theorem p_exchanged : P (f_exchanged P) = some (cf_exchanged (Lib.ix P)) := Lib.q9 (180, cf_exchanged (Lib.ix P)) (.head _)
abbrev f_check_room : Nat := Lib.ix P 181
theorem p_check_room : P (f_check_room P) = some (cf_check_room (Lib.ix P)) := Lib.q9 (181, cf_check_room (Lib.ix P)) (.tail _ (.head _))
abbrev f_add_cables : Nat := Lib.ix P 182
theorem p_add_cables : P (f_add_cables P) = some (cf_add_cables (Lib.ix P)) := Lib.q9 (182, cf_add_cables (Lib.ix P)) (.tail _ (.tail _ (.head _)))
abbrev f_added : Nat := Lib.ix P 183
theorem p_added : P (f_added P) = some (cf_added (Lib.ix P)) := Lib.q9 (183, cf_added (Lib.ix P)) (.tail _ (.tail _ (.tail _ (.head _))))
abbrev f_turned : Nat := Lib.ix P 184
theorem p_turned : P (f_turned P) = some (cf_turned (Lib.ix P)) := Lib.q9 (184, cf_turned (Lib.ix P)) (.tail _ (.tail _ (.tail _ (.tail _ (.head _)))))
abbrev f_leaks_turned : Nat := Lib.ix P 185
theorem p_leaks_turned : P (f_leaks_turned P) = some (cf_leaks_turned (Lib.ix P)) := Lib.q9 (185, cf_leaks_turned (Lib.ix P)) (.tail _ (.tail _ (.tail _ (.tail _ (.tail _ (.head _))))))
abbrev f_leaks_added : Nat := Lib.ix P 186
theorem p_leaks_added : P (f_leaks_added P) = some (cf_leaks_added (Lib.ix P)) := Lib.q9 (186, cf_leaks_added (Lib.ix P)) (.tail _ (.tail _ (.tail _ (.tail _ (.tail _ (.tail _ (.head _)))))))
abbrev f_wall : Nat := Lib.ix P 187
theorem p_wall : P (f_wall P) = some (cf_wall (Lib.ix P)) := Lib.q9 (187, cf_wall (Lib.ix P)) (.tail _ (.tail _ (.tail _ (.tail _ (.tail _ (.tail _ (.tail _ (.head _))))))))
abbrev f_check_date : Nat := Lib.ix P 188
theorem p_check_date : P (f_check_date P) = some (cf_check_date (Lib.ix P)) := Lib.q9 (188, cf_check_date (Lib.ix P)) (.tail _ (.tail _ (.tail _ (.tail _ (.tail _ (.tail _ (.tail _ (.tail _ (.head _)))))))))
abbrev f_law_length : Nat := Lib.ix P 189
theorem p_law_length : P (f_law_length P) = some (cf_law_length (Lib.ix P)) := Lib.q9 (189, cf_law_length (Lib.ix P)) (.tail _ (.tail _ (.tail _ (.tail _ (.tail _ (.tail _ (.tail _ (.tail _ (.tail _ (.head _))))))))))
abbrev f_law_any_readings : Nat := Lib.ix P 190
theorem p_law_any_readings : P (f_law_any_readings P) = some (cf_law_any_readings (Lib.ix P)) := Lib.q9 (190, cf_law_any_readings (Lib.ix P)) (.tail _ (.tail _ (.tail _ (.tail _ (.tail _ (.tail _ (.tail _ (.tail _ (.tail _ (.tail _ (.head _)))))))))))
abbrev f_is_day_of : Nat := Lib.ix P 191
theorem p_is_day_of : P (f_is_day_of P) = some (cf_is_day_of (Lib.ix P)) := Lib.q9 (191, cf_is_day_of (Lib.ix P)) (.tail _ (.tail _ (.tail _ (.tail _ (.tail _ (.tail _ (.tail _ (.tail _ (.tail _ (.tail _ (.tail _ (.head _))))))))))))
abbrev f_read_by : Nat := Lib.ix P 192
theorem p_read_by : P (f_read_by P) = some (cf_read_by (Lib.ix P)) := Lib.q9 (192, cf_read_by (Lib.ix P)) (.tail _ (.tail _ (.tail _ (.tail _ (.tail _ (.tail _ (.tail _ (.tail _ (.tail _ (.tail _ (.tail _ (.tail _ (.head _)))))))))))))
abbrev f_four_of_2 : Nat := Lib.ix P 193
theorem p_four_of_2 : P (f_four_of_2 P) = some (cf_four_of_2 (Lib.ix P)) := Lib.q9 (193, cf_four_of_2 (Lib.ix P)) (.tail _ (.tail _ (.tail _ (.tail _ (.tail _ (.tail _ (.tail _ (.tail _ (.tail _ (.tail _ (.tail _ (.tail _ (.tail _ (.head _))))))))))))))
abbrev f_is_quiet : Nat := Lib.ix P 194
theorem p_is_quiet : P (f_is_quiet P) = some (cf_is_quiet (Lib.ix P)) := Lib.q9 (194, cf_is_quiet (Lib.ix P)) (.tail _ (.tail _ (.tail _ (.tail _ (.tail _ (.tail _ (.tail _ (.tail _ (.tail _ (.tail _ (.tail _ (.tail _ (.tail _ (.tail _ (.head _)))))))))))))))
abbrev f_wrong_word : Nat := Lib.ix P 195
theorem p_wrong_word : P (f_wrong_word P) = some (cf_wrong_word (Lib.ix P)) := Lib.q9 (195, cf_wrong_word (Lib.ix P)) (.tail _ (.tail _ (.tail _ (.tail _ (.tail _ (.tail _ (.tail _ (.tail _ (.tail _ (.tail _ (.tail _ (.tail _ (.tail _ (.tail _ (.tail _ (.head _))))))))))))))))
abbrev f_kind_seen : Nat := Lib.ix P 196
theorem p_kind_seen : P (f_kind_seen P) = some (cf_kind_seen (Lib.ix P)) := Lib.q9 (196, cf_kind_seen (Lib.ix P)) (.tail _ (.tail _ (.tail _ (.tail _ (.tail _ (.tail _ (.tail _ (.tail _ (.tail _ (.tail _ (.tail _ (.tail _ (.tail _ (.tail _ (.tail _ (.tail _ (.head _)))))))))))))))))
abbrev f_one_taken : Nat := Lib.ix P 197
theorem p_one_taken : P (f_one_taken P) = some (cf_one_taken (Lib.ix P)) := Lib.q9 (197, cf_one_taken (Lib.ix P)) (.tail _ (.tail _ (.tail _ (.tail _ (.tail _ (.tail _ (.tail _ (.tail _ (.tail _ (.tail _ (.tail _ (.tail _ (.tail _ (.tail _ (.tail _ (.tail _ (.tail _ (.head _))))))))))))))))))
abbrev f_pair_taken : Nat := Lib.ix P 198
theorem p_pair_taken : P (f_pair_taken P) = some (cf_pair_taken (Lib.ix P)) := Lib.q9 (198, cf_pair_taken (Lib.ix P)) (.tail _ (.tail _ (.tail _ (.tail _ (.tail _ (.tail _ (.tail _ (.tail _ (.tail _ (.tail _ (.tail _ (.tail _ (.tail _ (.tail _ (.tail _ (.tail _ (.tail _ (.tail _ (.head _)))))))))))))))))))
abbrev f_wrong_taken : Nat := Lib.ix P 199
theorem p_wrong_taken : P (f_wrong_taken P) = some (cf_wrong_taken (Lib.ix P)) := Lib.q9 (199, cf_wrong_taken (Lib.ix P)) (.tail _ (.tail _ (.tail _ (.tail _ (.tail _ (.tail _ (.tail _ (.tail _ (.tail _ (.tail _ (.tail _ (.tail _ (.tail _ (.tail _ (.tail _ (.tail _ (.tail _ (.tail _ (.tail _ (.head _))))))))))))))))))))
abbrev f_least_parted : Nat := Lib.ix P 200
theorem p_least_parted : P (f_least_parted P) = some (cf_least_parted (Lib.ix P)) := Lib.q10 (200, cf_least_parted (Lib.ix P)) (.head _)
abbrev f_does_part : Nat := Lib.ix P 201
theorem p_does_part : P (f_does_part P) = some (cf_does_part (Lib.ix P)) := Lib.q10 (201, cf_does_part (Lib.ix P)) (.tail _ (.head _))
abbrev f_most_west : Nat := Lib.ix P 202
theorem p_most_west : P (f_most_west P) = some (cf_most_west (Lib.ix P)) := Lib.q10 (202, cf_most_west (Lib.ix P)) (.tail _ (.tail _ (.head _)))
abbrev f_is_covered : Nat := Lib.ix P 203
theorem p_is_covered : P (f_is_covered P) = some (cf_is_covered (Lib.ix P)) := Lib.q10 (203, cf_is_covered (Lib.ix P)) (.tail _ (.tail _ (.tail _ (.head _))))
abbrev f_are_cuts : Nat := Lib.ix P 204
theorem p_are_cuts : P (f_are_cuts P) = some (cf_are_cuts (Lib.ix P)) := Lib.q10 (204, cf_are_cuts (Lib.ix P)) (.tail _ (.tail _ (.tail _ (.tail _ (.head _)))))
abbrev f_are_spots : Nat := Lib.ix P 205
theorem p_are_spots : P (f_are_spots P) = some (cf_are_spots (Lib.ix P)) := Lib.q10 (205, cf_are_spots (Lib.ix P)) (.tail _ (.tail _ (.tail _ (.tail _ (.tail _ (.head _))))))
abbrev f_are_apart_2 : Nat := Lib.ix P 206
theorem p_are_apart_2 : P (f_are_apart_2 P) = some (cf_are_apart_2 (Lib.ix P)) := Lib.q10 (206, cf_are_apart_2 (Lib.ix P)) (.tail _ (.tail _ (.tail _ (.tail _ (.tail _ (.tail _ (.head _)))))))
abbrev f_are_days : Nat := Lib.ix P 207
theorem p_are_days : P (f_are_days P) = some (cf_are_days (Lib.ix P)) := Lib.q10 (207, cf_are_days (Lib.ix P)) (.tail _ (.tail _ (.tail _ (.tail _ (.tail _ (.tail _ (.tail _ (.head _))))))))
abbrev f_are_places : Nat := Lib.ix P 208
theorem p_are_places : P (f_are_places P) = some (cf_are_places (Lib.ix P)) := Lib.q10 (208, cf_are_places (Lib.ix P)) (.tail _ (.tail _ (.tail _ (.tail _ (.tail _ (.tail _ (.tail _ (.tail _ (.head _)))))))))
abbrev f_made_so : Nat := Lib.ix P 209
theorem p_made_so : P (f_made_so P) = some (cf_made_so (Lib.ix P)) := Lib.q10 (209, cf_made_so (Lib.ix P)) (.tail _ (.tail _ (.tail _ (.tail _ (.tail _ (.tail _ (.tail _ (.tail _ (.tail _ (.head _))))))))))
abbrev f_do_fit : Nat := Lib.ix P 210
theorem p_do_fit : P (f_do_fit P) = some (cf_do_fit (Lib.ix P)) := Lib.q10 (210, cf_do_fit (Lib.ix P)) (.tail _ (.tail _ (.tail _ (.tail _ (.tail _ (.tail _ (.tail _ (.tail _ (.tail _ (.tail _ (.head _)))))))))))
abbrev f_arms_fit : Nat := Lib.ix P 211
theorem p_arms_fit : P (f_arms_fit P) = some (cf_arms_fit (Lib.ix P)) := Lib.q10 (211, cf_arms_fit (Lib.ix P)) (.tail _ (.tail _ (.tail _ (.tail _ (.tail _ (.tail _ (.tail _ (.tail _ (.tail _ (.tail _ (.tail _ (.head _))))))))))))
abbrev f_does_fit : Nat := Lib.ix P 212
theorem p_does_fit : P (f_does_fit P) = some (cf_does_fit (Lib.ix P)) := Lib.q10 (212, cf_does_fit (Lib.ix P)) (.tail _ (.tail _ (.tail _ (.tail _ (.tail _ (.tail _ (.tail _ (.tail _ (.tail _ (.tail _ (.tail _ (.tail _ (.head _)))))))))))))
abbrev f_fit_all_2 : Nat := Lib.ix P 213
theorem p_fit_all_2 : P (f_fit_all_2 P) = some (cf_fit_all_2 (Lib.ix P)) := Lib.q10 (213, cf_fit_all_2 (Lib.ix P)) (.tail _ (.tail _ (.tail _ (.tail _ (.tail _ (.tail _ (.tail _ (.tail _ (.tail _ (.tail _ (.tail _ (.tail _ (.tail _ (.head _))))))))))))))
abbrev f_are_unlike : Nat := Lib.ix P 214
theorem p_are_unlike : P (f_are_unlike P) = some (cf_are_unlike (Lib.ix P)) := Lib.q10 (214, cf_are_unlike (Lib.ix P)) (.tail _ (.tail _ (.tail _ (.tail _ (.tail _ (.tail _ (.tail _ (.tail _ (.tail _ (.tail _ (.tail _ (.tail _ (.tail _ (.tail _ (.head _)))))))))))))))
abbrev f_beside_2 : Nat := Lib.ix P 215
theorem p_beside_2 : P (f_beside_2 P) = some (cf_beside_2 (Lib.ix P)) := Lib.q10 (215, cf_beside_2 (Lib.ix P)) (.tail _ (.tail _ (.tail _ (.tail _ (.tail _ (.tail _ (.tail _ (.tail _ (.tail _ (.tail _ (.tail _ (.tail _ (.tail _ (.tail _ (.tail _ (.head _))))))))))))))))
abbrev f_arms_of_both : Nat := Lib.ix P 216
theorem p_arms_of_both : P (f_arms_of_both P) = some (cf_arms_of_both (Lib.ix P)) := Lib.q10 (216, cf_arms_of_both (Lib.ix P)) (.tail _ (.tail _ (.tail _ (.tail _ (.tail _ (.tail _ (.tail _ (.tail _ (.tail _ (.tail _ (.tail _ (.tail _ (.tail _ (.tail _ (.tail _ (.tail _ (.head _)))))))))))))))))
abbrev f_possible_pairs : Nat := Lib.ix P 217
theorem p_possible_pairs : P (f_possible_pairs P) = some (cf_possible_pairs (Lib.ix P)) := Lib.q10 (217, cf_possible_pairs (Lib.ix P)) (.tail _ (.tail _ (.tail _ (.tail _ (.tail _ (.tail _ (.tail _ (.tail _ (.tail _ (.tail _ (.tail _ (.tail _ (.tail _ (.tail _ (.tail _ (.tail _ (.tail _ (.head _))))))))))))))))))
abbrev f_is_number : Nat := Lib.ix P 218
theorem p_is_number : P (f_is_number P) = some (cf_is_number (Lib.ix P)) := Lib.q10 (218, cf_is_number (Lib.ix P)) (.tail _ (.tail _ (.tail _ (.tail _ (.tail _ (.tail _ (.tail _ (.tail _ (.tail _ (.tail _ (.tail _ (.tail _ (.tail _ (.tail _ (.tail _ (.tail _ (.tail _ (.tail _ (.head _)))))))))))))))))))
abbrev f_are_numbers : Nat := Lib.ix P 219
theorem p_are_numbers : P (f_are_numbers P) = some (cf_are_numbers (Lib.ix P)) := Lib.q10 (219, cf_are_numbers (Lib.ix P)) (.tail _ (.tail _ (.tail _ (.tail _ (.tail _ (.tail _ (.tail _ (.tail _ (.tail _ (.tail _ (.tail _ (.tail _ (.tail _ (.tail _ (.tail _ (.tail _ (.tail _ (.tail _ (.tail _ (.head _))))))))))))))))))))
abbrev f_east_with : Nat := Lib.ix P 220
theorem p_east_with : P (f_east_with P) = some (cf_east_with (Lib.ix P)) := Lib.q11 (220, cf_east_with (Lib.ix P)) (.head _)
abbrev f_ways_seen : Nat := Lib.ix P 221
theorem p_ways_seen : P (f_ways_seen P) = some (cf_ways_seen (Lib.ix P)) := Lib.q11 (221, cf_ways_seen (Lib.ix P)) (.tail _ (.head _))
abbrev f_left_by : Nat := Lib.ix P 222
theorem p_left_by : P (f_left_by P) = some (cf_left_by (Lib.ix P)) := Lib.q11 (222, cf_left_by (Lib.ix P)) (.tail _ (.tail _ (.head _)))
abbrev f_are_stretches : Nat := Lib.ix P 223
theorem p_are_stretches : P (f_are_stretches P) = some (cf_are_stretches (Lib.ix P)) := Lib.q11 (223, cf_are_stretches (Lib.ix P)) (.tail _ (.tail _ (.tail _ (.head _))))
abbrev f_holds_one : Nat := Lib.ix P 224
theorem p_holds_one : P (f_holds_one P) = some (cf_holds_one (Lib.ix P)) := Lib.q11 (224, cf_holds_one (Lib.ix P)) (.tail _ (.tail _ (.tail _ (.tail _ (.head _)))))
abbrev f_does_need : Nat := Lib.ix P 225
theorem p_does_need : P (f_does_need P) = some (cf_does_need (Lib.ix P)) := Lib.q11 (225, cf_does_need (Lib.ix P)) (.tail _ (.tail _ (.tail _ (.tail _ (.tail _ (.head _))))))
abbrev f_is_plan : Nat := Lib.ix P 226
theorem p_is_plan : P (f_is_plan P) = some (cf_is_plan (Lib.ix P)) := Lib.q11 (226, cf_is_plan (Lib.ix P)) (.tail _ (.tail _ (.tail _ (.tail _ (.tail _ (.tail _ (.head _)))))))
abbrev f_lamp_taken : Nat := Lib.ix P 227
theorem p_lamp_taken : P (f_lamp_taken P) = some (cf_lamp_taken (Lib.ix P)) := Lib.q11 (227, cf_lamp_taken (Lib.ix P)) (.tail _ (.tail _ (.tail _ (.tail _ (.tail _ (.tail _ (.tail _ (.head _))))))))
abbrev f_short_taken : Nat := Lib.ix P 228
theorem p_short_taken : P (f_short_taken P) = some (cf_short_taken (Lib.ix P)) := Lib.q11 (228, cf_short_taken (Lib.ix P)) (.tail _ (.tail _ (.tail _ (.tail _ (.tail _ (.tail _ (.tail _ (.tail _ (.head _)))))))))
abbrev f_kind_by_2 : Nat := Lib.ix P 229
theorem p_kind_by_2 : P (f_kind_by_2 P) = some (cf_kind_by_2 (Lib.ix P)) := Lib.q11 (229, cf_kind_by_2 (Lib.ix P)) (.tail _ (.tail _ (.tail _ (.tail _ (.tail _ (.tail _ (.tail _ (.tail _ (.tail _ (.head _))))))))))
abbrev f_check_two_2 : Nat := Lib.ix P 230
theorem p_check_two_2 : P (f_check_two_2 P) = some (cf_check_two_2 (Lib.ix P)) := Lib.q11 (230, cf_check_two_2 (Lib.ix P)) (.tail _ (.tail _ (.tail _ (.tail _ (.tail _ (.tail _ (.tail _ (.tail _ (.tail _ (.tail _ (.head _)))))))))))
abbrev f_pair_at_2 : Nat := Lib.ix P 231
theorem p_pair_at_2 : P (f_pair_at_2 P) = some (cf_pair_at_2 (Lib.ix P)) := Lib.q11 (231, cf_pair_at_2 (Lib.ix P)) (.tail _ (.tail _ (.tail _ (.tail _ (.tail _ (.tail _ (.tail _ (.tail _ (.tail _ (.tail _ (.tail _ (.head _))))))))))))
abbrev f_law_day_2 : Nat := Lib.ix P 232
theorem p_law_day_2 : P (f_law_day_2 P) = some (cf_law_day_2 (Lib.ix P)) := Lib.q11 (232, cf_law_day_2 (Lib.ix P)) (.tail _ (.tail _ (.tail _ (.tail _ (.tail _ (.tail _ (.tail _ (.tail _ (.tail _ (.tail _ (.tail _ (.tail _ (.head _)))))))))))))
abbrev f_law_is_day : Nat := Lib.ix P 233
theorem p_law_is_day : P (f_law_is_day P) = some (cf_law_is_day (Lib.ix P)) := Lib.q11 (233, cf_law_is_day (Lib.ix P)) (.tail _ (.tail _ (.tail _ (.tail _ (.tail _ (.tail _ (.tail _ (.tail _ (.tail _ (.tail _ (.tail _ (.tail _ (.tail _ (.head _))))))))))))))
abbrev f_law_kind_3 : Nat := Lib.ix P 234
theorem p_law_kind_3 : P (f_law_kind_3 P) = some (cf_law_kind_3 (Lib.ix P)) := Lib.q11 (234, cf_law_kind_3 (Lib.ix P)) (.tail _ (.tail _ (.tail _ (.tail _ (.tail _ (.tail _ (.tail _ (.tail _ (.tail _ (.tail _ (.tail _ (.tail _ (.tail _ (.tail _ (.head _)))))))))))))))
abbrev f_law_any_day : Nat := Lib.ix P 235
theorem p_law_any_day : P (f_law_any_day P) = some (cf_law_any_day (Lib.ix P)) := Lib.q11 (235, cf_law_any_day (Lib.ix P)) (.tail _ (.tail _ (.tail _ (.tail _ (.tail _ (.tail _ (.tail _ (.tail _ (.tail _ (.tail _ (.tail _ (.tail _ (.tail _ (.tail _ (.tail _ (.head _))))))))))))))))
abbrev f_law_some_days_2 : Nat := Lib.ix P 236
theorem p_law_some_days_2 : P (f_law_some_days_2 P) = some (cf_law_some_days_2 (Lib.ix P)) := Lib.q11 (236, cf_law_some_days_2 (Lib.ix P)) (.tail _ (.tail _ (.tail _ (.tail _ (.tail _ (.tail _ (.tail _ (.tail _ (.tail _ (.tail _ (.tail _ (.tail _ (.tail _ (.tail _ (.tail _ (.tail _ (.head _)))))))))))))))))
abbrev f_cuts_taken_3 : Nat := Lib.ix P 237
theorem p_cuts_taken_3 : P (f_cuts_taken_3 P) = some (cf_cuts_taken_3 (Lib.ix P)) := Lib.q11 (237, cf_cuts_taken_3 (Lib.ix P)) (.tail _ (.tail _ (.tail _ (.tail _ (.tail _ (.tail _ (.tail _ (.tail _ (.tail _ (.tail _ (.tail _ (.tail _ (.tail _ (.tail _ (.tail _ (.tail _ (.tail _ (.head _))))))))))))))))))
abbrev f_pairs_that_fit_3 : Nat := Lib.ix P 238
theorem p_pairs_that_fit_3 : P (f_pairs_that_fit_3 P) = some (cf_pairs_that_fit_3 (Lib.ix P)) := Lib.q11 (238, cf_pairs_that_fit_3 (Lib.ix P)) (.tail _ (.tail _ (.tail _ (.tail _ (.tail _ (.tail _ (.tail _ (.tail _ (.tail _ (.tail _ (.tail _ (.tail _ (.tail _ (.tail _ (.tail _ (.tail _ (.tail _ (.tail _ (.head _)))))))))))))))))))
abbrev f_are_all_3 : Nat := Lib.ix P 239
theorem p_are_all_3 : P (f_are_all_3 P) = some (cf_are_all_3 (Lib.ix P)) := Lib.q11 (239, cf_are_all_3 (Lib.ix P)) (.tail _ (.tail _ (.tail _ (.tail _ (.tail _ (.tail _ (.tail _ (.tail _ (.tail _ (.tail _ (.tail _ (.tail _ (.tail _ (.tail _ (.tail _ (.tail _ (.tail _ (.tail _ (.tail _ (.head _))))))))))))))))))))
abbrev f_clash_together_3 : Nat := Lib.ix P 240
theorem p_clash_together_3 : P (f_clash_together_3 P) = some (cf_clash_together_3 (Lib.ix P)) := Lib.q12 (240, cf_clash_together_3 (Lib.ix P)) (.head _)
abbrev f_do_clash_3 : Nat := Lib.ix P 241
theorem p_do_clash_3 : P (f_do_clash_3 P) = some (cf_do_clash_3 (Lib.ix P)) := Lib.q12 (241, cf_do_clash_3 (Lib.ix P)) (.tail _ (.head _))
abbrev f_day_taken_3 : Nat := Lib.ix P 242
theorem p_day_taken_3 : P (f_day_taken_3 P) = some (cf_day_taken_3 (Lib.ix P)) := Lib.q12 (242, cf_day_taken_3 (Lib.ix P)) (.tail _ (.tail _ (.head _)))
abbrev f_days_taken_3 : Nat := Lib.ix P 243
theorem p_days_taken_3 : P (f_days_taken_3 P) = some (cf_days_taken_3 (Lib.ix P)) := Lib.q12 (243, cf_days_taken_3 (Lib.ix P)) (.tail _ (.tail _ (.tail _ (.head _))))
abbrev f_holds_3 : Nat := Lib.ix P 244
theorem p_holds_3 : P (f_holds_3 P) = some (cf_holds_3 (Lib.ix P)) := Lib.q12 (244, cf_holds_3 (Lib.ix P)) (.tail _ (.tail _ (.tail _ (.tail _ (.head _)))))
abbrev f_west_span_2 : Nat := Lib.ix P 245
theorem p_west_span_2 : P (f_west_span_2 P) = some (cf_west_span_2 (Lib.ix P)) := Lib.q12 (245, cf_west_span_2 (Lib.ix P)) (.tail _ (.tail _ (.tail _ (.tail _ (.tail _ (.head _))))))
abbrev f_two_drags_2 : Nat := Lib.ix P 246
theorem p_two_drags_2 : P (f_two_drags_2 P) = some (cf_two_drags_2 (Lib.ix P)) := Lib.q12 (246, cf_two_drags_2 (Lib.ix P)) (.tail _ (.tail _ (.tail _ (.tail _ (.tail _ (.tail _ (.head _)))))))
abbrev f_fits_by_2 : Nat := Lib.ix P 247
theorem p_fits_by_2 : P (f_fits_by_2 P) = some (cf_fits_by_2 (Lib.ix P)) := Lib.q12 (247, cf_fits_by_2 (Lib.ix P)) (.tail _ (.tail _ (.tail _ (.tail _ (.tail _ (.tail _ (.tail _ (.head _))))))))
abbrev f_fit_all_4 : Nat := Lib.ix P 248
theorem p_fit_all_4 : P (f_fit_all_4 P) = some (cf_fit_all_4 (Lib.ix P)) := Lib.q12 (248, cf_fit_all_4 (Lib.ix P)) (.tail _ (.tail _ (.tail _ (.tail _ (.tail _ (.tail _ (.tail _ (.tail _ (.head _)))))))))
abbrev f_are_apart_3 : Nat := Lib.ix P 249
theorem p_are_apart_3 : P (f_are_apart_3 P) = some (cf_are_apart_3 (Lib.ix P)) := Lib.q12 (249, cf_are_apart_3 (Lib.ix P)) (.tail _ (.tail _ (.tail _ (.tail _ (.tail _ (.tail _ (.tail _ (.tail _ (.tail _ (.head _))))))))))
abbrev f_drags_by_2 : Nat := Lib.ix P 250
theorem p_drags_by_2 : P (f_drags_by_2 P) = some (cf_drags_by_2 (Lib.ix P)) := Lib.q12 (250, cf_drags_by_2 (Lib.ix P)) (.tail _ (.tail _ (.tail _ (.tail _ (.tail _ (.tail _ (.tail _ (.tail _ (.tail _ (.tail _ (.head _)))))))))))
abbrev f_pair_of : Nat := Lib.ix P 251
theorem p_pair_of : P (f_pair_of P) = some (cf_pair_of (Lib.ix P)) := Lib.q12 (251, cf_pair_of (Lib.ix P)) (.tail _ (.tail _ (.tail _ (.tail _ (.tail _ (.tail _ (.tail _ (.tail _ (.tail _ (.tail _ (.tail _ (.head _))))))))))))
abbrev f_unlike_days : Nat := Lib.ix P 252
theorem p_unlike_days : P (f_unlike_days P) = some (cf_unlike_days (Lib.ix P)) := Lib.q12 (252, cf_unlike_days (Lib.ix P)) (.tail _ (.tail _ (.tail _ (.tail _ (.tail _ (.tail _ (.tail _ (.tail _ (.tail _ (.tail _ (.tail _ (.tail _ (.head _)))))))))))))
abbrev f_kind_of_2 : Nat := Lib.ix P 253
theorem p_kind_of_2 : P (f_kind_of_2 P) = some (cf_kind_of_2 (Lib.ix P)) := Lib.q12 (253, cf_kind_of_2 (Lib.ix P)) (.tail _ (.tail _ (.tail _ (.tail _ (.tail _ (.tail _ (.tail _ (.tail _ (.tail _ (.tail _ (.tail _ (.tail _ (.tail _ (.head _))))))))))))))
abbrev f_next_cut_2 : Nat := Lib.ix P 254
theorem p_next_cut_2 : P (f_next_cut_2 P) = some (cf_next_cut_2 (Lib.ix P)) := Lib.q12 (254, cf_next_cut_2 (Lib.ix P)) (.tail _ (.tail _ (.tail _ (.tail _ (.tail _ (.tail _ (.tail _ (.tail _ (.tail _ (.tail _ (.tail _ (.tail _ (.tail _ (.tail _ (.head _)))))))))))))))
abbrev f_cover_by_2 : Nat := Lib.ix P 255
theorem p_cover_by_2 : P (f_cover_by_2 P) = some (cf_cover_by_2 (Lib.ix P)) := Lib.q12 (255, cf_cover_by_2 (Lib.ix P)) (.tail _ (.tail _ (.tail _ (.tail _ (.tail _ (.tail _ (.tail _ (.tail _ (.tail _ (.tail _ (.tail _ (.tail _ (.tail _ (.tail _ (.tail _ (.head _))))))))))))))))
abbrev f_cover_of_3 : Nat := Lib.ix P 256
theorem p_cover_of_3 : P (f_cover_of_3 P) = some (cf_cover_of_3 (Lib.ix P)) := Lib.q12 (256, cf_cover_of_3 (Lib.ix P)) (.tail _ (.tail _ (.tail _ (.tail _ (.tail _ (.tail _ (.tail _ (.tail _ (.tail _ (.tail _ (.tail _ (.tail _ (.tail _ (.tail _ (.tail _ (.tail _ (.head _)))))))))))))))))
abbrev f_marks_of : Nat := Lib.ix P 257
theorem p_marks_of : P (f_marks_of P) = some (cf_marks_of (Lib.ix P)) := Lib.q12 (257, cf_marks_of (Lib.ix P)) (.tail _ (.tail _ (.tail _ (.tail _ (.tail _ (.tail _ (.tail _ (.tail _ (.tail _ (.tail _ (.tail _ (.tail _ (.tail _ (.tail _ (.tail _ (.tail _ (.tail _ (.head _))))))))))))))))))
abbrev f_ways_by : Nat := Lib.ix P 258
theorem p_ways_by : P (f_ways_by P) = some (cf_ways_by (Lib.ix P)) := Lib.q12 (258, cf_ways_by (Lib.ix P)) (.tail _ (.tail _ (.tail _ (.tail _ (.tail _ (.tail _ (.tail _ (.tail _ (.tail _ (.tail _ (.tail _ (.tail _ (.tail _ (.tail _ (.tail _ (.tail _ (.tail _ (.tail _ (.head _)))))))))))))))))))
abbrev f_answer_of : Nat := Lib.ix P 259
theorem p_answer_of : P (f_answer_of P) = some (cf_answer_of (Lib.ix P)) := Lib.q12 (259, cf_answer_of (Lib.ix P)) (.tail _ (.tail _ (.tail _ (.tail _ (.tail _ (.tail _ (.tail _ (.tail _ (.tail _ (.tail _ (.tail _ (.tail _ (.tail _ (.tail _ (.tail _ (.tail _ (.tail _ (.tail _ (.tail _ (.head _))))))))))))))))))))
abbrev f_stretches_left : Nat := Lib.ix P 260
theorem p_stretches_left : P (f_stretches_left P) = some (cf_stretches_left (Lib.ix P)) := Lib.q13 (260, cf_stretches_left (Lib.ix P)) (.head _)
abbrev f_needed_by : Nat := Lib.ix P 261
theorem p_needed_by : P (f_needed_by P) = some (cf_needed_by (Lib.ix P)) := Lib.q13 (261, cf_needed_by (Lib.ix P)) (.tail _ (.head _))
abbrev f_table_by : Nat := Lib.ix P 262
theorem p_table_by : P (f_table_by P) = some (cf_table_by (Lib.ix P)) := Lib.q13 (262, cf_table_by (Lib.ix P)) (.tail _ (.tail _ (.head _)))
abbrev f_all_ways : Nat := Lib.ix P 263
theorem p_all_ways : P (f_all_ways P) = some (cf_all_ways (Lib.ix P)) := Lib.q13 (263, cf_all_ways (Lib.ix P)) (.tail _ (.tail _ (.tail _ (.head _))))
abbrev f_ways_of : Nat := Lib.ix P 264
theorem p_ways_of : P (f_ways_of P) = some (cf_ways_of (Lib.ix P)) := Lib.q13 (264, cf_ways_of (Lib.ix P)) (.tail _ (.tail _ (.tail _ (.tail _ (.head _)))))
abbrev f_lamp_needed : Nat := Lib.ix P 265
theorem p_lamp_needed : P (f_lamp_needed P) = some (cf_lamp_needed (Lib.ix P)) := Lib.q13 (265, cf_lamp_needed (Lib.ix P)) (.tail _ (.tail _ (.tail _ (.tail _ (.tail _ (.head _))))))
abbrev f_plan_by : Nat := Lib.ix P 266
theorem p_plan_by : P (f_plan_by P) = some (cf_plan_by (Lib.ix P)) := Lib.q13 (266, cf_plan_by (Lib.ix P)) (.tail _ (.tail _ (.tail _ (.tail _ (.tail _ (.tail _ (.head _)))))))
abbrev f_lamp_plan : Nat := Lib.ix P 267
theorem p_lamp_plan : P (f_lamp_plan P) = some (cf_lamp_plan (Lib.ix P)) := Lib.q13 (267, cf_lamp_plan (Lib.ix P)) (.tail _ (.tail _ (.tail _ (.tail _ (.tail _ (.tail _ (.tail _ (.head _))))))))
abbrev f_pairs_of_two_2 : Nat := Lib.ix P 268
theorem p_pairs_of_two_2 : P (f_pairs_of_two_2 P) = some (cf_pairs_of_two_2 (Lib.ix P)) := Lib.q13 (268, cf_pairs_of_two_2 (Lib.ix P)) (.tail _ (.tail _ (.tail _ (.tail _ (.tail _ (.tail _ (.tail _ (.tail _ (.head _)))))))))
abbrev f_pairs_with_2 : Nat := Lib.ix P 269
theorem p_pairs_with_2 : P (f_pairs_with_2 P) = some (cf_pairs_with_2 (Lib.ix P)) := Lib.q13 (269, cf_pairs_with_2 (Lib.ix P)) (.tail _ (.tail _ (.tail _ (.tail _ (.tail _ (.tail _ (.tail _ (.tail _ (.tail _ (.head _))))))))))
abbrev f_pairs_of_3 : Nat := Lib.ix P 270
theorem p_pairs_of_3 : P (f_pairs_of_3 P) = some (cf_pairs_of_3 (Lib.ix P)) := Lib.q13 (270, cf_pairs_of_3 (Lib.ix P)) (.tail _ (.tail _ (.tail _ (.tail _ (.tail _ (.tail _ (.tail _ (.tail _ (.tail _ (.tail _ (.head _)))))))))))
abbrev f_pairs_told_3 : Nat := Lib.ix P 271
theorem p_pairs_told_3 : P (f_pairs_told_3 P) = some (cf_pairs_told_3 (Lib.ix P)) := Lib.q13 (271, cf_pairs_told_3 (Lib.ix P)) (.tail _ (.tail _ (.tail _ (.tail _ (.tail _ (.tail _ (.tail _ (.tail _ (.tail _ (.tail _ (.tail _ (.head _))))))))))))
abbrev f_telling_by_3 : Nat := Lib.ix P 272
theorem p_telling_by_3 : P (f_telling_by_3 P) = some (cf_telling_by_3 (Lib.ix P)) := Lib.q13 (272, cf_telling_by_3 (Lib.ix P)) (.tail _ (.tail _ (.tail _ (.tail _ (.tail _ (.tail _ (.tail _ (.tail _ (.tail _ (.tail _ (.tail _ (.tail _ (.head _)))))))))))))
abbrev f_telling_3 : Nat := Lib.ix P 273
theorem p_telling_3 : P (f_telling_3 P) = some (cf_telling_3 (Lib.ix P)) := Lib.q13 (273, cf_telling_3 (Lib.ix P)) (.tail _ (.tail _ (.tail _ (.tail _ (.tail _ (.tail _ (.tail _ (.tail _ (.tail _ (.tail _ (.tail _ (.tail _ (.tail _ (.head _))))))))))))))
abbrev f_clash_by_3 : Nat := Lib.ix P 274
theorem p_clash_by_3 : P (f_clash_by_3 P) = some (cf_clash_by_3 (Lib.ix P)) := Lib.q13 (274, cf_clash_by_3 (Lib.ix P)) (.tail _ (.tail _ (.tail _ (.tail _ (.tail _ (.tail _ (.tail _ (.tail _ (.tail _ (.tail _ (.tail _ (.tail _ (.tail _ (.tail _ (.head _)))))))))))))))
abbrev f_paper_day : Nat := Lib.ix P 275
theorem p_paper_day : P (f_paper_day P) = some (cf_paper_day (Lib.ix P)) := Lib.q13 (275, cf_paper_day (Lib.ix P)) (.tail _ (.tail _ (.tail _ (.tail _ (.tail _ (.tail _ (.tail _ (.tail _ (.tail _ (.tail _ (.tail _ (.tail _ (.tail _ (.tail _ (.tail _ (.head _))))))))))))))))
abbrev f_paper_cuts : Nat := Lib.ix P 276
theorem p_paper_cuts : P (f_paper_cuts P) = some (cf_paper_cuts (Lib.ix P)) := Lib.q13 (276, cf_paper_cuts (Lib.ix P)) (.tail _ (.tail _ (.tail _ (.tail _ (.tail _ (.tail _ (.tail _ (.tail _ (.tail _ (.tail _ (.tail _ (.tail _ (.tail _ (.tail _ (.tail _ (.tail _ (.head _)))))))))))))))))
abbrev f_paper_lamp : Nat := Lib.ix P 277
theorem p_paper_lamp : P (f_paper_lamp P) = some (cf_paper_lamp (Lib.ix P)) := Lib.q13 (277, cf_paper_lamp (Lib.ix P)) (.tail _ (.tail _ (.tail _ (.tail _ (.tail _ (.tail _ (.tail _ (.tail _ (.tail _ (.tail _ (.tail _ (.tail _ (.tail _ (.tail _ (.tail _ (.tail _ (.tail _ (.head _))))))))))))))))))
abbrev f_places_that_fit_2 : Nat := Lib.ix P 278
theorem p_places_that_fit_2 : P (f_places_that_fit_2 P) = some (cf_places_that_fit_2 (Lib.ix P)) := Lib.q13 (278, cf_places_that_fit_2 (Lib.ix P)) (.tail _ (.tail _ (.tail _ (.tail _ (.tail _ (.tail _ (.tail _ (.tail _ (.tail _ (.tail _ (.tail _ (.tail _ (.tail _ (.tail _ (.tail _ (.tail _ (.tail _ (.tail _ (.head _)))))))))))))))))))
abbrev f_clash_paper_2 : Nat := Lib.ix P 279
theorem p_clash_paper_2 : P (f_clash_paper_2 P) = some (cf_clash_paper_2 (Lib.ix P)) := Lib.q13 (279, cf_clash_paper_2 (Lib.ix P)) (.tail _ (.tail _ (.tail _ (.tail _ (.tail _ (.tail _ (.tail _ (.tail _ (.tail _ (.tail _ (.tail _ (.tail _ (.tail _ (.tail _ (.tail _ (.tail _ (.tail _ (.tail _ (.tail _ (.head _))))))))))))))))))))
abbrev f_paper_days_2 : Nat := Lib.ix P 280
theorem p_paper_days_2 : P (f_paper_days_2 P) = some (cf_paper_days_2 (Lib.ix P)) := Lib.q14 (280, cf_paper_days_2 (Lib.ix P)) (.head _)
abbrev f_cover_of_4 : Nat := Lib.ix P 281
theorem p_cover_of_4 : P (f_cover_of_4 P) = some (cf_cover_of_4 (Lib.ix P)) := Lib.q14 (281, cf_cover_of_4 (Lib.ix P)) (.tail _ (.head _))
abbrev f_pairs_of_4 : Nat := Lib.ix P 282
theorem p_pairs_of_4 : P (f_pairs_of_4 P) = some (cf_pairs_of_4 (Lib.ix P)) := Lib.q14 (282, cf_pairs_of_4 (Lib.ix P)) (.tail _ (.tail _ (.head _)))
abbrev f_pairs_told_4 : Nat := Lib.ix P 283
theorem p_pairs_told_4 : P (f_pairs_told_4 P) = some (cf_pairs_told_4 (Lib.ix P)) := Lib.q14 (283, cf_pairs_told_4 (Lib.ix P)) (.tail _ (.tail _ (.tail _ (.head _))))
abbrev f_telling_by_4 : Nat := Lib.ix P 284
theorem p_telling_by_4 : P (f_telling_by_4 P) = some (cf_telling_by_4 (Lib.ix P)) := Lib.q14 (284, cf_telling_by_4 (Lib.ix P)) (.tail _ (.tail _ (.tail _ (.tail _ (.head _)))))
abbrev f_telling_4 : Nat := Lib.ix P 285
theorem p_telling_4 : P (f_telling_4 P) = some (cf_telling_4 (Lib.ix P)) := Lib.q14 (285, cf_telling_4 (Lib.ix P)) (.tail _ (.tail _ (.tail _ (.tail _ (.tail _ (.head _))))))
abbrev f_clash_by_4 : Nat := Lib.ix P 286
theorem p_clash_by_4 : P (f_clash_by_4 P) = some (cf_clash_by_4 (Lib.ix P)) := Lib.q14 (286, cf_clash_by_4 (Lib.ix P)) (.tail _ (.tail _ (.tail _ (.tail _ (.tail _ (.tail _ (.head _)))))))
abbrev f_pair_of_2 : Nat := Lib.ix P 287
theorem p_pair_of_2 : P (f_pair_of_2 P) = some (cf_pair_of_2 (Lib.ix P)) := Lib.q14 (287, cf_pair_of_2 (Lib.ix P)) (.tail _ (.tail _ (.tail _ (.tail _ (.tail _ (.tail _ (.tail _ (.head _))))))))
abbrev f_paper_day_2 : Nat := Lib.ix P 288
theorem p_paper_day_2 : P (f_paper_day_2 P) = some (cf_paper_day_2 (Lib.ix P)) := Lib.q14 (288, cf_paper_day_2 (Lib.ix P)) (.tail _ (.tail _ (.tail _ (.tail _ (.tail _ (.tail _ (.tail _ (.tail _ (.head _)))))))))
abbrev f_paper_cuts_2 : Nat := Lib.ix P 289
theorem p_paper_cuts_2 : P (f_paper_cuts_2 P) = some (cf_paper_cuts_2 (Lib.ix P)) := Lib.q14 (289, cf_paper_cuts_2 (Lib.ix P)) (.tail _ (.tail _ (.tail _ (.tail _ (.tail _ (.tail _ (.tail _ (.tail _ (.tail _ (.head _))))))))))
abbrev f_places_that_fit_3 : Nat := Lib.ix P 290
theorem p_places_that_fit_3 : P (f_places_that_fit_3 P) = some (cf_places_that_fit_3 (Lib.ix P)) := Lib.q14 (290, cf_places_that_fit_3 (Lib.ix P)) (.tail _ (.tail _ (.tail _ (.tail _ (.tail _ (.tail _ (.tail _ (.tail _ (.tail _ (.tail _ (.head _)))))))))))
abbrev f_unlike_days_2 : Nat := Lib.ix P 291
theorem p_unlike_days_2 : P (f_unlike_days_2 P) = some (cf_unlike_days_2 (Lib.ix P)) := Lib.q14 (291, cf_unlike_days_2 (Lib.ix P)) (.tail _ (.tail _ (.tail _ (.tail _ (.tail _ (.tail _ (.tail _ (.tail _ (.tail _ (.tail _ (.tail _ (.head _))))))))))))
abbrev f_clash_paper_3 : Nat := Lib.ix P 292
theorem p_clash_paper_3 : P (f_clash_paper_3 P) = some (cf_clash_paper_3 (Lib.ix P)) := Lib.q14 (292, cf_clash_paper_3 (Lib.ix P)) (.tail _ (.tail _ (.tail _ (.tail _ (.tail _ (.tail _ (.tail _ (.tail _ (.tail _ (.tail _ (.tail _ (.tail _ (.head _)))))))))))))
abbrev f_paper_days_3 : Nat := Lib.ix P 293
theorem p_paper_days_3 : P (f_paper_days_3 P) = some (cf_paper_days_3 (Lib.ix P)) := Lib.q14 (293, cf_paper_days_3 (Lib.ix P)) (.tail _ (.tail _ (.tail _ (.tail _ (.tail _ (.tail _ (.tail _ (.tail _ (.tail _ (.tail _ (.tail _ (.tail _ (.tail _ (.head _))))))))))))))
abbrev f_cuts_needed_2 : Nat := Lib.ix P 294
theorem p_cuts_needed_2 : P (f_cuts_needed_2 P) = some (cf_cuts_needed_2 (Lib.ix P)) := Lib.q14 (294, cf_cuts_needed_2 (Lib.ix P)) (.tail _ (.tail _ (.tail _ (.tail _ (.tail _ (.tail _ (.tail _ (.tail _ (.tail _ (.tail _ (.tail _ (.tail _ (.tail _ (.tail _ (.head _)))))))))))))))
abbrev f_thing_in : Nat := Lib.ix P 295
theorem p_thing_in : P (f_thing_in P) = some (cf_thing_in (Lib.ix P)) := Lib.q14 (295, cf_thing_in (Lib.ix P)) (.tail _ (.tail _ (.tail _ (.tail _ (.tail _ (.tail _ (.tail _ (.tail _ (.tail _ (.tail _ (.tail _ (.tail _ (.tail _ (.tail _ (.tail _ (.head _))))))))))))))))
abbrev f_row_in : Nat := Lib.ix P 296
theorem p_row_in : P (f_row_in P) = some (cf_row_in (Lib.ix P)) := Lib.q14 (296, cf_row_in (Lib.ix P)) (.tail _ (.tail _ (.tail _ (.tail _ (.tail _ (.tail _ (.tail _ (.tail _ (.tail _ (.tail _ (.tail _ (.tail _ (.tail _ (.tail _ (.tail _ (.tail _ (.head _)))))))))))))))))
abbrev f_cable_text : Nat := Lib.ix P 297
theorem p_cable_text : P (f_cable_text P) = some (cf_cable_text (Lib.ix P)) := Lib.q14 (297, cf_cable_text (Lib.ix P)) (.tail _ (.tail _ (.tail _ (.tail _ (.tail _ (.tail _ (.tail _ (.tail _ (.tail _ (.tail _ (.tail _ (.tail _ (.tail _ (.tail _ (.tail _ (.tail _ (.tail _ (.head _))))))))))))))))))
abbrev f_leak_text : Nat := Lib.ix P 298
theorem p_leak_text : P (f_leak_text P) = some (cf_leak_text (Lib.ix P)) := Lib.q14 (298, cf_leak_text (Lib.ix P)) (.tail _ (.tail _ (.tail _ (.tail _ (.tail _ (.tail _ (.tail _ (.tail _ (.tail _ (.tail _ (.tail _ (.tail _ (.tail _ (.tail _ (.tail _ (.tail _ (.tail _ (.tail _ (.head _)))))))))))))))))))
abbrev f_kind_text : Nat := Lib.ix P 299
theorem p_kind_text : P (f_kind_text P) = some (cf_kind_text (Lib.ix P)) := Lib.q14 (299, cf_kind_text (Lib.ix P)) (.tail _ (.tail _ (.tail _ (.tail _ (.tail _ (.tail _ (.tail _ (.tail _ (.tail _ (.tail _ (.tail _ (.tail _ (.tail _ (.tail _ (.tail _ (.tail _ (.tail _ (.tail _ (.tail _ (.head _))))))))))))))))))))
abbrev f_span_text : Nat := Lib.ix P 300
theorem p_span_text : P (f_span_text P) = some (cf_span_text (Lib.ix P)) := Lib.q15 (300, cf_span_text (Lib.ix P)) (.head _)
abbrev f_numbers_text : Nat := Lib.ix P 301
theorem p_numbers_text : P (f_numbers_text P) = some (cf_numbers_text (Lib.ix P)) := Lib.q15 (301, cf_numbers_text (Lib.ix P)) (.tail _ (.head _))
abbrev f_telling_text : Nat := Lib.ix P 302
theorem p_telling_text : P (f_telling_text P) = some (cf_telling_text (Lib.ix P)) := Lib.q15 (302, cf_telling_text (Lib.ix P)) (.tail _ (.tail _ (.head _)))
abbrev f_east_span_2 : Nat := Lib.ix P 303
theorem p_east_span_2 : P (f_east_span_2 P) = some (cf_east_span_2 (Lib.ix P)) := Lib.q15 (303, cf_east_span_2 (Lib.ix P)) (.tail _ (.tail _ (.tail _ (.head _))))
abbrev f_day_text : Nat := Lib.ix P 304
theorem p_day_text : P (f_day_text P) = some (cf_day_text (Lib.ix P)) := Lib.q15 (304, cf_day_text (Lib.ix P)) (.tail _ (.tail _ (.tail _ (.tail _ (.head _)))))
abbrev f_law_said : Nat := Lib.ix P 305
theorem p_law_said : P (f_law_said P) = some (cf_law_said (Lib.ix P)) := Lib.q15 (305, cf_law_said (Lib.ix P)) (.tail _ (.tail _ (.tail _ (.tail _ (.tail _ (.head _))))))
abbrev f_clash_of_2 : Nat := Lib.ix P 306
theorem p_clash_of_2 : P (f_clash_of_2 P) = some (cf_clash_of_2 (Lib.ix P)) := Lib.q15 (306, cf_clash_of_2 (Lib.ix P)) (.tail _ (.tail _ (.tail _ (.tail _ (.tail _ (.tail _ (.head _)))))))
abbrev f_cuts_needed_3 : Nat := Lib.ix P 307
theorem p_cuts_needed_3 : P (f_cuts_needed_3 P) = some (cf_cuts_needed_3 (Lib.ix P)) := Lib.q15 (307, cf_cuts_needed_3 (Lib.ix P)) (.tail _ (.tail _ (.tail _ (.tail _ (.tail _ (.tail _ (.tail _ (.head _))))))))
abbrev f_clash_of_3 : Nat := Lib.ix P 308
theorem p_clash_of_3 : P (f_clash_of_3 P) = some (cf_clash_of_3 (Lib.ix P)) := Lib.q15 (308, cf_clash_of_3 (Lib.ix P)) (.tail _ (.tail _ (.tail _ (.tail _ (.tail _ (.tail _ (.tail _ (.tail _ (.head _)))))))))
abbrev f_marks_of_2 : Nat := Lib.ix P 309
theorem p_marks_of_2 : P (f_marks_of_2 P) = some (cf_marks_of_2 (Lib.ix P)) := Lib.q15 (309, cf_marks_of_2 (Lib.ix P)) (.tail _ (.tail _ (.tail _ (.tail _ (.tail _ (.tail _ (.tail _ (.tail _ (.tail _ (.head _))))))))))
abbrev f_ways_by_2 : Nat := Lib.ix P 310
theorem p_ways_by_2 : P (f_ways_by_2 P) = some (cf_ways_by_2 (Lib.ix P)) := Lib.q15 (310, cf_ways_by_2 (Lib.ix P)) (.tail _ (.tail _ (.tail _ (.tail _ (.tail _ (.tail _ (.tail _ (.tail _ (.tail _ (.tail _ (.head _)))))))))))
abbrev f_all_ways_3 : Nat := Lib.ix P 311
theorem p_all_ways_3 : P (f_all_ways_3 P) = some (cf_all_ways_3 (Lib.ix P)) := Lib.q15 (311, cf_all_ways_3 (Lib.ix P)) (.tail _ (.tail _ (.tail _ (.tail _ (.tail _ (.tail _ (.tail _ (.tail _ (.tail _ (.tail _ (.tail _ (.head _))))))))))))
abbrev f_ways_of_3 : Nat := Lib.ix P 312
theorem p_ways_of_3 : P (f_ways_of_3 P) = some (cf_ways_of_3 (Lib.ix P)) := Lib.q15 (312, cf_ways_of_3 (Lib.ix P)) (.tail _ (.tail _ (.tail _ (.tail _ (.tail _ (.tail _ (.tail _ (.tail _ (.tail _ (.tail _ (.tail _ (.tail _ (.head _)))))))))))))
abbrev f_lamp_needed_3 : Nat := Lib.ix P 313
theorem p_lamp_needed_3 : P (f_lamp_needed_3 P) = some (cf_lamp_needed_3 (Lib.ix P)) := Lib.q15 (313, cf_lamp_needed_3 (Lib.ix P)) (.tail _ (.tail _ (.tail _ (.tail _ (.tail _ (.tail _ (.tail _ (.tail _ (.tail _ (.tail _ (.tail _ (.tail _ (.tail _ (.head _))))))))))))))
abbrev f_lamp_plan_3 : Nat := Lib.ix P 314
theorem p_lamp_plan_3 : P (f_lamp_plan_3 P) = some (cf_lamp_plan_3 (Lib.ix P)) := Lib.q15 (314, cf_lamp_plan_3 (Lib.ix P)) (.tail _ (.tail _ (.tail _ (.tail _ (.tail _ (.tail _ (.tail _ (.tail _ (.tail _ (.tail _ (.tail _ (.tail _ (.tail _ (.tail _ (.head _)))))))))))))))
abbrev f_law_way : Nat := Lib.ix P 315
theorem p_law_way : P (f_law_way P) = some (cf_law_way (Lib.ix P)) := Lib.q15 (315, cf_law_way (Lib.ix P)) (.tail _ (.tail _ (.tail _ (.tail _ (.tail _ (.tail _ (.tail _ (.tail _ (.tail _ (.tail _ (.tail _ (.tail _ (.tail _ (.tail _ (.tail _ (.head _))))))))))))))))
abbrev f_law_ways : Nat := Lib.ix P 316
theorem p_law_ways : P (f_law_ways P) = some (cf_law_ways (Lib.ix P)) := Lib.q15 (316, cf_law_ways (Lib.ix P)) (.tail _ (.tail _ (.tail _ (.tail _ (.tail _ (.tail _ (.tail _ (.tail _ (.tail _ (.tail _ (.tail _ (.tail _ (.tail _ (.tail _ (.tail _ (.tail _ (.head _)))))))))))))))))
abbrev f_law_sort_3 : Nat := Lib.ix P 317
theorem p_law_sort_3 : P (f_law_sort_3 P) = some (cf_law_sort_3 (Lib.ix P)) := Lib.q15 (317, cf_law_sort_3 (Lib.ix P)) (.tail _ (.tail _ (.tail _ (.tail _ (.tail _ (.tail _ (.tail _ (.tail _ (.tail _ (.tail _ (.tail _ (.tail _ (.tail _ (.tail _ (.tail _ (.tail _ (.tail _ (.head _))))))))))))))))))
end
end Z

/-! X, part A: runs by simp. -/
namespace Z
open PySem
/-- the continuation behind stays as it is while the first is run: it stands in the type -/
abbrev Kk {γ : Type} (_k : γ) (t : Type) : Type := t
def R.bk {α β : Type} (r : R α) (k : α → Store → R β) : Kk k (R β) := r.bind k
def R.sk {α : Type} (r : R α) (δ : Env) (k : α → Store → SR) : Kk k SR := r.st δ k
def SR.bs (r : SR) (k : Env → Store → SR) : Kk k SR := r.bind k
@[simp] theorem R.bk_ok {α β : Type} (a : α) (S : Store) (k : α → Store → R β) : (R.ok a S).bk k = k a S := rfl
@[simp] theorem R.bk_exc {α β : Type} (c : Nat) (a : D) (S : Store) (k : α → Store → R β) : (R.exc c a S : R α).bk k = .exc c a S := rfl
@[simp] theorem R.bk_stuck {α β : Type} (k : α → Store → R β) : (R.stuck : R α).bk k = .stuck := rfl
@[simp] theorem R.sk_ok {α : Type} (a : α) (S : Store) (δ : Env) (k : α → Store → SR) : (R.ok a S).sk δ k = k a S := rfl
@[simp] theorem R.sk_exc {α : Type} (c : Nat) (a : D) (S : Store) (δ : Env) (k : α → Store → SR) : (R.exc c a S : R α).sk δ k = .xc c a δ S := rfl
@[simp] theorem R.sk_stuck {α : Type} (δ : Env) (k : α → Store → SR) : (R.stuck : R α).sk δ k = .stuck := rfl
@[simp] theorem SR.bs_nx (δ : Env) (S : Store) (k : Env → Store → SR) : (SR.nx δ S).bs k = k δ S := rfl
@[simp] theorem SR.bs_rt (d : D) (S : Store) (k : Env → Store → SR) : (SR.rt d S).bs k = .rt d S := rfl
@[simp] theorem SR.bs_bk (δ : Env) (S : Store) (k : Env → Store → SR) : (SR.bk δ S).bs k = .bk δ S := rfl
@[simp] theorem SR.bs_xc (c : Nat) (a : D) (δ : Env) (S : Store) (k : Env → Store → SR) : (SR.xc c a δ S).bs k = .xc c a δ S := rfl
@[simp] theorem SR.bs_stuck (k : Env → Store → SR) : (SR.stuck).bs k = .stuck := rfl
section
variable {P : Nat → Option CF} {n : Nat} {F : Fn} {S S' : Store} {δ : Env} {a b c e es : CE}
@[simp] theorem ev_var {i : Nat} : ev F (.var i) δ S = match δ[i]? with
    | some (some d) => .ok d S
    | _ => .stuck := by rw [ev] <;> rfl
@[simp] theorem ev_con' {d : D} : ev F (.con d) δ S = .ok d S := ev_con d δ S
@[simp] theorem ev_edic : ev F .edic δ S = .ok .edic S := by rw [ev] <;> rfl
@[simp] theorem ev_tup : ev F (.tup es) δ S = (evs F es δ S).bk fun ds S1 => .ok (.tup ds) S1 := by rw [ev] <;> rfl
@[simp] theorem ev_lst : ev F (.lst es) δ S = (evs F es δ S).bk fun ds S1 => .ok (.lst ds) S1 := by rw [ev] <;> rfl
@[simp] theorem ev_mlst : ev F (.mlst es) δ S = (evs F es δ S).bk fun ds S1 => .ok (.ref S1.length) (S1 ++ [.lst ds]) := by rw [ev] <;> rfl
@[simp] theorem ev_mdk : ev F .mdk δ S = .ok (.ref S.length) (S ++ [.dk []]) := by rw [ev] <;> rfl
@[simp] theorem ev_bin {op} : ev F (.bin op a b) δ S = (ev F a δ S).bk fun x S1 => (ev F b δ S1).bk fun y S2 => .opt (binEv op x y S2) S2 := by rw [ev] <;> rfl
@[simp] theorem ev_neg : ev F (.neg a) δ S = (ev F a δ S).bk fun x S1 => match x with
    | .int i => .ok (.int (-i)) S1
    | _ => .stuck := by rw [ev] <;> rfl
@[simp] theorem ev_cmp {op} : ev F (.cmp op a b) δ S = (ev F a δ S).bk fun x S1 => (ev F b δ S1).bk fun y S2 => .opt (cmpEv op x y S2) S2 := by rw [ev] <;> rfl
@[simp] theorem ev_chain {o1 o2} : ev F (.chain o1 o2 a b c) δ S = (ev F a δ S).bk fun x S1 => (ev F b δ S1).bk fun y S2 => match cmpB o1 x y S2 with
    | some true => (ev F c δ S2).bk fun z S4 => .opt (cmpEv o2 y z S4) S4
    | some false => .ok (.bl false) S2
    | none => .stuck := by rw [ev] <;> rfl
@[simp] theorem ev_not : ev F (.not a) δ S = (ev F a δ S).bk fun x S1 => match x with
    | .bl b => .ok (.bl (!b)) S1
    | _ => .stuck := by rw [ev] <;> rfl
@[simp] theorem ev_and : ev F (.and a b) δ S = (ev F a δ S).bk fun x S1 => match x with
    | .bl true => ev F b δ S1
    | .bl false => .ok (.bl false) S1
    | _ => .stuck := by rw [ev] <;> rfl
@[simp] theorem ev_or : ev F (.or a b) δ S = (ev F a δ S).bk fun x S1 => match x with
    | .bl true => .ok (.bl true) S1
    | .bl false => ev F b δ S1
    | _ => .stuck := by rw [ev] <;> rfl
@[simp] theorem ev_ife : ev F (.ife c a b) δ S = (ev F c δ S).bk fun x S1 => match x with
    | .bl true => ev F a δ S1
    | .bl false => ev F b δ S1
    | _ => .stuck := by rw [ev] <;> rfl
@[simp] theorem ev_idx : ev F (.idx a b) δ S = (ev F a δ S).bk fun x S1 => (ev F b δ S1).bk fun y S2 => .opt (idxEv x y S2) S2 := by rw [ev] <;> rfl
@[simp] theorem ev_sl : ev F (.sl a b c) δ S = (ev F a δ S).bk fun x S1 => (evo F b δ S1).bk fun l S2 => (evo F c δ S2).bk fun h S3 => .opt (slEv x l h S3) S3 := by rw [ev] <;> rfl
@[simp] theorem ev_rev : ev F (.rev a) δ S = (ev F a δ S).bk fun x S1 => .opt (revEv x S1) S1 := by rw [ev] <;> rfl
@[simp] theorem ev_call {f} : ev F (.call f es) δ S = (evs F es δ S).bk fun ds S1 => F f ds S1 := by rw [ev] <;> rfl
@[simp] theorem ev_blt {t} : ev F (.blt t es) δ S = (evs F es δ S).bk fun ds S1 => .opt (bltEv t ds S1) S1 := by rw [ev] <;> rfl
@[simp] theorem ev_isi {t} : ev F (.isi a t) δ S = (ev F a δ S).bk fun x S1 => .opt ((isiEv x t S1).map .bl) S1 := by rw [ev] <;> rfl
@[simp] theorem ev_mth {m} : ev F (.mth m a es) δ S = (ev F a δ S).bk fun x S1 => match seqL S1 x with
    | some _ => (evs F es δ S1).bk fun ds S2 => .opt2 (mthEv m x ds S2)
    | none => .stuck := by rw [ev] <;> rfl
@[simp] theorem ev_comp {tg own isM} : ev F (.comp e tg a c own isM) δ S = (evI F a δ S).bk fun w S1 =>
      (compEv (ev F e) (ev F c) tg w δ own w.items [] S1).bk fun ds S2 =>
        if isM then .ok (.ref S2.length) (S2 ++ [.lst ds]) else .ok (.lst ds) S2 := by rw [ev] <;> rfl
@[simp] theorem ev_rgl : ev F (.rgl a b) δ S = (ev F a δ S).bk fun x S1 => (ev F b δ S1).bk fun y S2 => match x, y with
    | .int i, .int j => open Classical in if small62 i ∧ small62 j ∧ (j - i).toNat ≤ 2 ^ 24 then .ok (.lst (rngD i j)) S2 else .stuck
    | _, _ => .stuck := by rw [ev] <;> rfl
@[simp] theorem ev_setd {c : CE} : ev F (.setd a b c) δ S = (ev F a δ S).bk fun x S1 => match dkOf S1 x with
    | some _ => (ev F b δ S1).bk fun y S2 => (ev F c δ S2).bk fun z S3 => .opt2 (setdEv x y z S3)
    | none => .stuck := by rw [ev] <;> rfl
@[simp] theorem evs_nil : evs F .nil δ S = .ok [] S := by rw [evs] <;> rfl
@[simp] theorem evs_cons : evs F (.cons e es) δ S = (ev F e δ S).bk fun d S1 => (evs F es δ S1).bk fun ds S2 => .ok (d :: ds) S2 := by rw [evs] <;> rfl
@[simp] theorem evI_rng : evI F (.rng a b) δ S = (ev F a δ S).bk fun x S1 => (ev F b δ S1).bk fun y S2 => match x, y with
    | .int i, .int j => open Classical in if small62 i ∧ small62 j then .ok (.fix (rngD i j)) S2 else .stuck
    | _, _ => .stuck := by rw [evI] <;> rfl
@[simp] theorem evI_one : evI F (.one e) δ S = (ev F e δ S).bk fun x S1 => match walkSeq S1 x with
    | some w => .ok w S1
    | none => .stuck := by rw [evI] <;> rfl
@[simp] theorem evo_nil : evo F .nil δ S = .ok none S := by rw [evo] <;> rfl
@[simp] theorem evo_one : evo F (.one e) δ S = (ev F e δ S).bk fun x S1 => match x with
    | .int i => .ok (some i) S1
    | _ => .stuck := by rw [evo] <;> rfl
variable {s t : CS}
@[simp] theorem run_skip : run F .skip δ S = .nx δ S := by rw [run] <;> rfl
@[simp] theorem run_seq : run F (.seq s t) δ S = (run F s δ S).bs fun δ1 S1 => run F t δ1 S1 := by rw [run] <;> rfl
@[simp] theorem run_expr : run F (.expr e) δ S = (ev F e δ S).sk δ fun _ S1 => .nx δ S1 := by rw [run] <;> rfl
@[simp] theorem run_ret : run F (.ret e) δ S = (ev F e δ S).sk δ fun d S1 => .rt d S1 := by rw [run] <;> rfl
@[simp] theorem run_retF {i : Nat} : run F (.retF i) δ S = match δ[i]? with
    | some (some (.ref p)) => match S[p]? with
      | some (.lst ds) => .rt (.lst ds) (S.set p .gone)
      | _ => .stuck
    | _ => .stuck := by rw [run] <;> rfl
@[simp] theorem run_asg {tg} : run F (.asg tg e) δ S = (ev F e δ S).sk δ fun d S1 => match stepT tg d δ with
    | some δ1 => .nx δ1 S1
    | none => .stuck := by rw [run] <;> rfl
@[simp] theorem run_set : run F (.set a b c) δ S = (ev F c δ S).sk δ fun v S1 => (ev F a δ S1).sk δ fun x S2 => (ev F b δ S2).sk δ fun y S3 => match setEv x y v S3 with
    | some S4 => .nx δ S4
    | none => .stuck := by rw [run] <;> rfl
@[simp] theorem run_ife : run F (.ife c s t) δ S = (ev F c δ S).sk δ fun x S1 => match x with
    | .bl true => run F s δ S1
    | .bl false => run F t δ S1
    | _ => .stuck := by rw [run] <;> rfl
@[simp] theorem run_fr {tg} : run F (.fr tg a s) δ S = (evI F a δ S).sk δ fun w S1 => forEv (run F s) tg w w.items δ S1 := by rw [run] <;> rfl
@[simp] theorem run_rais {x : Nat} : run F (.rais x e) δ S = (ev F e δ S).sk δ fun d S1 => .xc x d δ S1 := by rw [run] <;> rfl
/-- what a clause makes of its body's end -/
def SR.tr (r : SR) (c i : Nat) (k : Env → Store → SR) : SR := match r with
  | .xc c' a δ1 S1 => if c' < excNames.length then
      if c < 100 then
        if c = 0 ∨ c = c' then match a with
          | .non => match k (δ1.set i (some (.exc c' .non))) S1 with
            | .nx δ2 S2 => .nx (δ2.set i none) S2
            | .rt d S2 => .rt d S2
            | _ => .stuck
          | _ => .stuck
        else .xc c' a δ1 S1
      else if c = 100 ∨ c = 100 + c' then match k δ1 S1 with
        | .nx δ2 S2 => .nx δ2 S2
        | .rt d S2 => .rt d S2
        | _ => .stuck
      else .xc c' a δ1 S1
    else .stuck
  | r => r
def SR.ts (r : SR) (c i : Nat) (k : Env → Store → SR) : Kk k SR := r.tr c i k
@[simp] theorem SR.ts_nx (δ : Env) (S : Store) (c i : Nat) (k : Env → Store → SR) : (SR.nx δ S).ts c i k = .nx δ S := rfl
@[simp] theorem SR.ts_rt (d : D) (S : Store) (c i : Nat) (k : Env → Store → SR) : (SR.rt d S).ts c i k = .rt d S := rfl
@[simp] theorem SR.ts_bk (δ : Env) (S : Store) (c i : Nat) (k : Env → Store → SR) : (SR.bk δ S).ts c i k = .bk δ S := rfl
@[simp] theorem SR.ts_stuck (c i : Nat) (k : Env → Store → SR) : (SR.stuck).ts c i k = .stuck := rfl
theorem SR.ts_xc {c' c i : Nat} {δ : Env} {S : Store} {k : Env → Store → SR} (h : c' < 19) (hc : c = 0 ∨ c = c') : (SR.xc c' .non δ S).ts c i k = match k (δ.set i (some (.exc c' .non))) S with
    | .nx δ2 S2 => .nx (δ2.set i none) S2
    | .rt d S2 => .rt d S2
    | _ => .stuck := by
  unfold SR.ts SR.tr
  have h1 : c' < excNames.length := h
  have h2 : c < 100 := by omega
  simp only [if_pos h1, if_pos h2, if_pos hc]
@[simp] theorem run_tr {c i : Nat} : run F (.tr s c i t) δ S = (run F s δ S).ts c i fun δ1 S1 => run F t δ1 S1 := by
  rw [run]
  unfold SR.ts SR.tr
  cases run F s δ S <;> rfl
@[simp] theorem out_xc {c : Nat} {d : D} : (SR.xc c d δ S).out = .exc c d S := rfl
@[simp] theorem run_brk : run F .brk δ S = .bk δ S := by rw [run] <;> rfl
theorem run_whl : run F (.whl c s) δ S = match ev F c δ S with
    | .ok (.bl true) S1 => (match run F s δ S1 with
      | .nx δ' S' => run F (.whl c s) δ' S'
      | .bk δ' S' => .nx δ' S'
      | r => r)
    | .ok (.bl false) S1 => .nx δ S1
    | .exc x d S1 => .xc x d δ S1
    | _ => .stuck := by
  have e : ∀ δ S, run F (.whl c s) δ S = loopW (wstep (ev F c) (run F s)) (δ, S) := fun δ S => by rw [run]
  rw [e, loopW_step]
  unfold wstep
  cases ev F c δ S with
  | ok d S1 =>
    cases d with
    | bl q =>
      cases q with
      | false => rfl
      | true => 
        simp only []
        cases run F s δ S1 with
        | nx δ' S' => simp only []; rw [e]; rfl
        | _ => rfl
    | _ => rfl
  | exc x d S1 => rfl
  | stuck => rfl
@[simp] theorem out_nx : (SR.nx δ S).out = .ok .non S := rfl
@[simp] theorem out_rt {d} : (SR.rt d S).out = .ok d S := rfl
@[simp] theorem stepT_nm {i : Nat} {d : D} : stepT (.nm i) d δ = if i < δ.length then some (δ.set i (some d)) else none := rfl
@[simp] theorem stepT_tp {ts : CT} {ds : List D} : stepT (.tp ts) (.tup ds) δ = stepT.go ts ds δ := rfl
@[simp] theorem go_nil : stepT.go .nil [] δ = some δ := rfl
@[simp] theorem go_cons {i : Nat} {ts : CT} {d : D} {ds : List D} : stepT.go (.cons (.nm i) ts) (d :: ds) δ = if i < δ.length then stepT.go ts ds (δ.set i (some d)) else none := rfl
theorem evF_body {f : Nat} {cf : CF} {ds : List D} (h : P f = some cf) (hl : ds.length = cf.np) (hn : cf.np ≤ cf.ns) :
    evF P (n + 1) f ds S = gc S (run (evF P n) cf.body (ds.map some ++ List.replicate (cf.ns - cf.np) none) S).out := by
  simp only [evF, h, hl, hn, and_self, if_true]
theorem evF_at {f : Nat} {cf : CF} {ds : List D} (h : P f = some cf) (hl : ds.length = cf.np) (hn : Nat.ble cf.np cf.ns = true) :
    evF P (n + 1) f ds S = gc S (run (evF P n) cf.body (ds.map some ++ List.replicate (cf.ns - cf.np) none) S).out := evF_body h hl (Nat.le_of_ble_eq_true hn)
theorem gc_same {d : D} (h : S'.length = S.length) : gc S (.ok d S') = .ok d S' := by
  by_cases k : Keep S S' ∧ noref d = true
  · simp only [gc, if_pos k]; rw [← h, List.take_length]
  · simp only [gc, if_neg k]
@[simp] theorem gc_id {d : D} : gc S (.ok d S) = .ok d S := gc_same rfl
/-! values -/
@[simp] theorem bin_add_int {i j : Int} : binEv .add (.int i) (.int j) S = some (.int (i + j)) := rfl
@[simp] theorem bin_sub_int {i j : Int} : binEv .sub (.int i) (.int j) S = some (.int (i - j)) := rfl
theorem bin_mul_int {i j : Int} (h : MulOk i j) : binEv .mul (.int i) (.int j) S = some (.int (i * j)) := by
  simp only [binEv, mulEv, if_pos h]
theorem bin_mod_int {i j : Int} (h : 0 < j) : binEv .mod (.int i) (.int j) S = some (.int (i % j)) := by
  simp [binEv, h]
theorem bin_div_int {i j : Int} (h : DivOk i j) : binEv .fdiv (.int i) (.int j) S = some (.int (i / j)) := by
  simp only [binEv, if_pos h]
@[simp] theorem cmp_lt {i j : Int} : cmpEv .lt (.int i) (.int j) S = some (.bl (decide (i < j))) := rfl
@[simp] theorem cmp_le {i j : Int} : cmpEv .le (.int i) (.int j) S = some (.bl (decide (i ≤ j))) := rfl
@[simp] theorem cmp_gt {i j : Int} : cmpEv .gt (.int i) (.int j) S = some (.bl (decide (j < i))) := rfl
@[simp] theorem cmp_ge {i j : Int} : cmpEv .ge (.int i) (.int j) S = some (.bl (decide (j ≤ i))) := rfl
@[simp] theorem cmpB_lt {i j : Int} : cmpB .lt (.int i) (.int j) S = some (decide (i < j)) := rfl
@[simp] theorem cmpB_le {i j : Int} : cmpB .le (.int i) (.int j) S = some (decide (i ≤ j)) := rfl
@[simp] theorem cmp_eq_int {i j : Int} : cmpEv .eq (.int i) (.int j) S = some (.bl (i == j)) := rfl
@[simp] theorem cmp_ne_int {i j : Int} : cmpEv .ne (.int i) (.int j) S = some (.bl (!(i == j))) := rfl
@[simp] theorem idx_tup {ds : List D} {i : Int} : idxEv (.tup ds) (.int i) S = L2.atI ds i := rfl
@[simp] theorem idx_lst {ds : List D} {i : Int} : idxEv (.lst ds) (.int i) S = L2.atI ds i := rfl
@[simp] theorem idx_scr {ds : List D} {i : Int} : idxEv (.scr ds) (.int i) S = L2.atI ds i := rfl
theorem atI_of {α : Type} {xs : List α} {i : Int} (h : 0 ≤ i) : L2.atI xs i = xs[i.toNat]? := by
  unfold L2.atI L2.ixN
  rw [if_pos h]
  by_cases h2 : i < xs.length
  · rw [if_pos h2]; rfl
  · rw [if_neg h2, List.getElem?_eq_none (by omega)]; rfl
@[simp] theorem at0 {d : D} {ds : List D} : L2.atI (d :: ds) 0 = some d := by rw [atI_of (by decide)]; rfl
@[simp] theorem at1 {c d : D} {ds : List D} : L2.atI (c :: d :: ds) 1 = some d := by rw [atI_of (by decide)]; rfl
@[simp] theorem at2 {b c d : D} {ds : List D} : L2.atI (b :: c :: d :: ds) 2 = some d := by rw [atI_of (by decide)]; rfl
/-! share_of, low -/
theorem gcd_step (a b : Int) : Int.gcd b (a % b) = Int.gcd a b := by
  rw [Int.gcd_comm a b]
  apply Nat.dvd_antisymm
  · apply Int.dvd_gcd
    · exact Int.gcd_dvd_left ..
    · have h1 : (Int.gcd b (a % b) : Int) ∣ b := Int.gcd_dvd_left ..
      have h2 : (Int.gcd b (a % b) : Int) ∣ a % b := Int.gcd_dvd_right ..
      have h3 := Int.dvd_add h2 (Int.dvd_mul_of_dvd_left h1 (c := a / b))
      rwa [Int.emod_add_mul_ediv a b] at h3
  · apply Int.dvd_gcd
    · exact Int.gcd_dvd_left ..
    · have h1 : (Int.gcd b a : Int) ∣ b := Int.gcd_dvd_left ..
      have h2 : (Int.gcd b a : Int) ∣ a := Int.gcd_dvd_right ..
      rw [Int.emod_def]
      exact Int.dvd_sub h2 (Int.dvd_mul_of_dvd_left h1)
@[simp] theorem isi_int_int {i : Int} : isiEv (.int i) .int S = some true := rfl
@[simp] theorem isi_int_bool {i : Int} : isiEv (.int i) .bool S = some false := rfl
@[simp] theorem isi_tup_tup {ds : List D} : isiEv (.tup ds) .tup S = some true := rfl
@[simp] theorem isi_bl_bool {b : Bool} : isiEv (.bl b) .bool S = some true := rfl
@[simp] theorem seqOf_tup {ds : List D} : seqOf S (.tup ds) = some ds := rfl
@[simp] theorem seqOf_lst {ds : List D} : seqOf S (.lst ds) = some ds := rfl
@[simp] theorem seqOf_scr {ds : List D} : seqOf S (.scr ds) = some ds := rfl
@[simp] theorem seqL_lst {ds : List D} : seqL S (.lst ds) = some ds := rfl
@[simp] theorem blt_len {d : D} : bltEv .len [d] S = lenEv S d := rfl
@[simp] theorem len_tup {ds : List D} : lenEv S (.tup ds) = some (.int ds.length) := rfl
@[simp] theorem len_lst {ds : List D} : lenEv S (.lst ds) = some (.int ds.length) := rfl
@[simp] theorem len_scr {ds : List D} : lenEv S (.scr ds) = some (.int ds.length) := rfl
@[simp] theorem blt_tuple {d : D} : bltEv .tuple [d] S = (seqOf S d).map .tup := rfl
@[simp] theorem blt_list {d : D} : bltEv .list [d] S = (seqOf S d).map .lst := rfl
@[simp] theorem blt_all {ds : List D} : bltEv .all [.lst ds] S = (bls? ds).map fun bs => .bl (bs.all id) := rfl
@[simp] theorem blt_sum {ds : List D} : bltEv .sum [.lst ds] S = (ints? ds).map fun ns => .int ns.sum := rfl
@[simp] theorem blt_max {i j : Int} : bltEv .max [.int i, .int j] S = some (.int (if j > i then j else i)) := rfl
@[simp] theorem blt_min {i j : Int} : bltEv .min [.int i, .int j] S = some (.int (if j < i then j else i)) := rfl
theorem ints_map (ns : List Int) : ints? (ns.map D.int) = some ns := by
  induction ns with
  | nil => rfl
  | cons n ns ih => rw [List.map_cons, ints?, ih]; rfl
theorem bls_map (ns : List Bool) : bls? (ns.map D.bl) = some ns := by
  induction ns with
  | nil => rfl
  | cons n ns ih => rw [List.map_cons, bls?, ih]; rfl
/-! equality -/
mutual
/-- data that == can read, of depth at most n -/
def okD : Nat → D → Bool
  | _, .non => true
  | _, .bl _ => true
  | _, .int _ => true
  | _, .str x => PyData.strOk x
  | n + 1, .tup ds => okDs n ds
  | n + 1, .lst ds => okDs n ds
  | _, _ => false
def okDs : Nat → List D → Bool
  | _, [] => true
  | n, d :: ds => okD n d && okDs n ds
end
mutual
theorem okD_py : ∀ (n : Nat) (d : D), okD n d = true → ∃ x, py d = some x ∧ x.canLay0 = true ∧ x.depth ≤ n
  | _, .non, _ => ⟨_, rfl, rfl, by simp [PyData.depth]⟩
  | _, .bl b, _ => ⟨_, rfl, rfl, by simp [PyData.depth]⟩
  | _, .int i, _ => ⟨_, rfl, rfl, by simp [PyData.depth]⟩
  | _, .str x, h => ⟨_, rfl, by unfold okD at h; exact h, by simp [PyData.depth]⟩
  | n + 1, .tup ds, h => by
    unfold okD at h
    obtain ⟨xs, e1, e2, e3⟩ := okDs_py n ds h
    exact ⟨.tuple xs, by unfold py; rw [e1], by simpa [PyData.canLay0] using e2, by simp [PyData.depth]; omega⟩
  | n + 1, .lst ds, h => by
    unfold okD at h
    obtain ⟨xs, e1, e2, e3⟩ := okDs_py n ds h
    exact ⟨.list xs, by unfold py; rw [e1], by simpa [PyData.canLay0] using e2, by simp [PyData.depth]; omega⟩
  | 0, .tup ds, h => by unfold okD at h; cases h
  | 0, .lst ds, h => by unfold okD at h; cases h
  | _, .scr _, h => by unfold okD at h; cases h
  | _, .edic, h => by unfold okD at h; cases h
  | _, .ref _, h => by unfold okD at h; cases h
  | _, .exc _ _, h => by unfold okD at h; cases h
theorem okDs_py : ∀ (n : Nat) (ds : List D), okDs n ds = true → ∃ xs, pys ds = some xs ∧ PyData.canLayAll0 xs = true ∧ PyData.depthAll xs ≤ n
  | _, [], _ => ⟨[], rfl, rfl, by simp [PyData.depthAll]⟩
  | n, d :: ds, h => by
    unfold okDs at h
    obtain ⟨h1, h2⟩ := ands h
    obtain ⟨x, e1, e2, e3⟩ := okD_py n d h1
    obtain ⟨xs, e4, e5, e6⟩ := okDs_py n ds h2
    exact ⟨x :: xs, by unfold pys; rw [e1, e4], by rw [PyData.canLayAll0, e2, e5]; rfl, by simp [PyData.depthAll]; omega⟩
end
def eqD (a b : D) : Bool := match py a, py b with
  | some x, some y => PyData.eqv x y
  | _, _ => false
theorem pyS_of {d : D} {n : Nat} (h : okD n d = true) : pyS S d = py d := by
  cases d <;> first | rfl | (unfold okD at h; cases h)
theorem eqEv_of {x y : D} {n : Nat} (hx : okD n x = true) (hy : okD n y = true) (hn : n ≤ 64) : eqEv S x y = some (eqD x y) := by
  obtain ⟨p, e1, e2, e3⟩ := okD_py n x hx
  obtain ⟨q, e4, e5, e6⟩ := okD_py n y hy
  unfold eqEv eqD
  rw [pyS_of hx, pyS_of hy, e1, e4]
  have s1 : SeqAt.shaped p = true := by unfold SeqAt.shaped; rw [e2]; simp; omega
  have s2 : SeqAt.shaped q = true := by unfold SeqAt.shaped; rw [e5]; simp; omega
  simp only [shapedO, if_pos s1, if_pos s2]
theorem cmp_eq {x y : D} (n : Nat) (hx : okD n x = true) (hy : okD n y = true) (hn : n ≤ 64) : cmpEv .eq x y S = some (.bl (eqD x y)) := by
  show (eqEv S x y).map D.bl = _
  rw [eqEv_of hx hy hn]
  rfl
theorem cmp_ne {x y : D} (n : Nat) (hx : okD n x = true) (hy : okD n y = true) (hn : n ≤ 64) : cmpEv .ne x y S = some (.bl (!eqD x y)) := by
  show ((eqEv S x y).map (!·)).map D.bl = _
  rw [eqEv_of hx hy hn]
  rfl
theorem eqD_refl {x : D} (n : Nat) (hx : okD n x = true) : eqD x x = true := by
  obtain ⟨p, e1, e2, e3⟩ := okD_py n x hx
  unfold eqD
  rw [e1]
  exact SeqAt.eqv_refl p e2
theorem okDs_all {n : Nat} : ∀ {ds : List D}, (∀ d ∈ ds, okD n d = true) → okDs n ds = true
  | [], _ => by unfold okDs; rfl
  | d :: ds, h => by
    unfold okDs
    rw [h d List.mem_cons_self, okDs_all fun x hx => h x (List.mem_cons_of_mem _ hx)]
    rfl
theorem ok_tup {n : Nat} {ds : List D} (h : ∀ d ∈ ds, okD n d = true) : okD (n + 1) (.tup ds) = true := by
  unfold okD
  exact okDs_all h
end
end Z

/-! X, part B: numbers, their sizes, the fractions' defs. -/
namespace Z
open PySem
class IB (i : Int) (m : outParam Nat) : Prop where
  n : i.natAbs ≤ 2 ^ m
class Bd (q : Rat) (m : outParam Nat) : Prop where
  n : q.num.natAbs ≤ 2 ^ m
  d : q.den ≤ 2 ^ m
theorem pow_le {m l : Nat} (h : m ≤ l) : 2 ^ m ≤ 2 ^ l := Nat.pow_le_pow_right (by decide) h
theorem IB.mono {i : Int} {m l : Nat} (h : IB i m) (hl : m ≤ l) : IB i l := ⟨Nat.le_trans h.n (pow_le hl)⟩
theorem Bd.mono {q : Rat} {m l : Nat} (h : Bd q m) (hl : m ≤ l) : Bd q l := ⟨Nat.le_trans h.n (pow_le hl), Nat.le_trans h.d (pow_le hl)⟩
section
variable {i j : Int} {m l : Nat} {a b : Rat}
theorem mul_le_pow {x y : Nat} (h1 : x ≤ 2 ^ m) (h2 : y ≤ 2 ^ l) : x * y ≤ 2 ^ (m + l) := by
  rw [Nat.pow_add]
  exact Nat.mul_le_mul h1 h2
theorem le_l {x : Nat} (h : x ≤ 2 ^ m) : x ≤ 2 ^ (m + l) := Nat.le_trans h (pow_le (by omega))
theorem le_r {x : Nat} (h : x ≤ 2 ^ m) : x ≤ 2 ^ (l + m) := Nat.le_trans h (pow_le (by omega))
instance [IB i m] [IB j l] : IB (i + j) (m + l + 1) := ⟨by
  have h1 : i.natAbs ≤ 2 ^ (m + l) := le_l (IB.n (i := i))
  have h2 : j.natAbs ≤ 2 ^ (m + l) := le_r (IB.n (i := j))
  rw [Nat.pow_succ]; omega⟩
instance [IB i m] [IB j l] : IB (i - j) (m + l + 1) := ⟨by
  have h1 : i.natAbs ≤ 2 ^ (m + l) := le_l (IB.n (i := i))
  have h2 : j.natAbs ≤ 2 ^ (m + l) := le_r (IB.n (i := j))
  rw [Nat.pow_succ]; omega⟩
instance [IB i m] [IB j l] : IB (i * j) (m + l) := ⟨by
  rw [Int.natAbs_mul]
  exact mul_le_pow (IB.n (i := i)) (IB.n (i := j))⟩
instance [IB i m] : IB (-i) m := ⟨by rw [Int.natAbs_neg]; exact IB.n (i := i)⟩
instance : IB 0 0 := ⟨by decide⟩
instance : IB 1 0 := ⟨by decide⟩
instance : IB 2 1 := ⟨by decide⟩
instance : IB 3 2 := ⟨by decide⟩
instance : IB 4 2 := ⟨by decide⟩
instance : IB 6 3 := ⟨by decide⟩
instance : IB 12 4 := ⟨by decide⟩
instance [Bd a m] : IB a.num m := ⟨Bd.n (q := a)⟩
instance [Bd a m] : IB (a.den : Int) m := ⟨by have := Bd.d (q := a); omega⟩
theorem intBits_ib [IB i m] : Builtin.Int.intBits i ≤ m + 1 := by
  have h := IB.n (i := i)
  unfold Builtin.Int.intBits
  split
  · omega
  · rename_i h0
    have h1 : i.natAbs ≠ 0 := by
      intro e
      apply h0
      have : i = 0 := by omega
      subst this
      rfl
    have : i.natAbs.log2 < m + 1 := (Nat.log2_lt h1).mpr (by rw [Nat.pow_succ]; have := Nat.pos_of_ne_zero h1; omega)
    omega
theorem mulOk_ib [IB i m] [IB j l] (h : m + l ≤ 134000000) : MulOk i j := IntMulOk.of_le (intBits_ib (i := i)) (intBits_ib (i := j)) (by omega)
theorem mulOk_l (h1 : -(2 ^ 64) < i) (h2 : i < 2 ^ 64) : MulOk i j := .of_left (intBits_le_64 h1 h2)
theorem mulOk_r (h1 : -(2 ^ 64) < j) (h2 : j < 2 ^ 64) : MulOk i j := .of_right (intBits_le_64 h1 h2)
@[simp] theorem bin_mul_ib {S : Store} [IB i m] [IB j l] (h : m + l ≤ 134000000) : binEv .mul (.int i) (.int j) S = some (.int (i * j)) := bin_mul_int (mulOk_ib h)
@[simp] theorem bin_div_pos {S : Store} (h : 0 < j) : binEv .fdiv (.int i) (.int j) S = some (.int (i / j)) := bin_div_int h
@[simp] theorem bin_mod_pos {S : Store} (h : 0 < j) : binEv .mod (.int i) (.int j) S = some (.int (i % j)) := bin_mod_int h
/-! fractions -/
def fr (q : Rat) : D := .tup [.int q.num, .int (q.den : Int)]
theorem fr_def (q : Rat) : fr q = .tup [.int q.num, .int (q.den : Int)] := rfl
@[simp] theorem fr_int : D.tup [.int i, .int 1] = fr (i : Rat) := by simp [fr]
@[simp] theorem idx_fr0 {S : Store} : idxEv (fr a) (.int 0) S = some (.int a.num) := by simp [fr]
@[simp] theorem idx_fr1 {S : Store} : idxEv (fr a) (.int 1) S = some (.int (a.den : Int)) := by simp [fr]
@[simp] theorem isi_fr {S : Store} : isiEv (fr a) .tup S = some true := rfl
@[simp] theorem len_fr {S : Store} : lenEv S (fr a) = some (.int 2) := rfl
@[simp] theorem is_fr_non {S : Store} : cmpEv .is (fr a) .non S = some (.bl false) := rfl
@[simp] theorem isnot_fr_non {S : Store} : cmpEv .isnot (fr a) .non S = some (.bl true) := rfl
@[simp] theorem is_non_non {S : Store} : cmpEv .is .non .non S = some (.bl true) := rfl
@[simp] theorem isnot_non_non {S : Store} : cmpEv .isnot .non .non S = some (.bl false) := rfl
@[simp] theorem is_tup_non {S : Store} {ds : List D} : cmpEv .is (.tup ds) .non S = some (.bl false) := rfl
@[simp] theorem isnot_tup_non {S : Store} {ds : List D} : cmpEv .isnot (.tup ds) .non S = some (.bl true) := rfl
theorem rat_eq (q : Rat) : q = (q.num : Rat) / ((q.den : Int) : Rat) := by
  rw [← Rat.divInt_eq_div]
  exact (Rat.num_divInt_den q).symm
theorem den_pos (q : Rat) : 0 < (q.den : Int) := by have := q.den_pos; omega
theorem den_ne (q : Rat) : ((q.den : Int) : Rat) ≠ 0 := by
  have := den_pos q
  have h : (q.den : Int) ≠ 0 := by omega
  simpa using h
theorem low_num {a b : Int} (hb : 0 < b) : ((a : Rat) / (b : Rat)).num = a / (Int.gcd a b : Int) ∧ (((a : Rat) / (b : Rat)).den : Int) = b / (Int.gcd a b : Int) := by
  rw [← Rat.divInt_eq_div, Rat.num_divInt, Rat.den_divInt, if_neg (by omega), Int.gcd_comm b a]
  have hs : b.sign = 1 := Int.sign_eq_one_of_pos hb
  refine ⟨by rw [hs, Int.one_mul], ?_⟩
  rw [Int.natCast_ediv, Int.natAbs_of_nonneg (by omega)]
theorem bd_div0 {a b : Int} (hb : 0 < b) (h1 : a.natAbs ≤ 2 ^ m) (h2 : b.natAbs ≤ 2 ^ m) : Bd ((a : Rat) / (b : Rat)) m := by
  obtain ⟨e1, e2⟩ := low_num (a := a) hb
  refine ⟨?_, ?_⟩
  · rw [e1]
    exact Nat.le_trans (Int.natAbs_ediv_le_natAbs _ _) h1
  · have : b / (Int.gcd a b : Int) ≤ b := Int.ediv_le_self _ (by omega)
    have h3 : ((2 ^ m : Nat) : Int) = 2 ^ m := by simp
    omega
theorem bd_div {a b : Int} (h1 : a.natAbs ≤ 2 ^ m) (h2 : b.natAbs ≤ 2 ^ m) : Bd ((a : Rat) / (b : Rat)) m := by
  by_cases h : 0 < b
  · exact bd_div0 h h1 h2
  · by_cases h0 : b = 0
    · subst h0
      have e : (a : Rat) / ((0 : Int) : Rat) = 0 := by simp [Rat.div_def]
      rw [e]
      exact ⟨by simp, by simpa using Nat.one_le_two_pow⟩
    · have e : (a : Rat) / (b : Rat) = ((-a : Int) : Rat) / ((-b : Int) : Rat) := by
        have : (b : Rat) ≠ 0 := by simpa using h0
        rw [Rat.intCast_neg, Rat.intCast_neg]
        grind
      rw [e]
      exact bd_div0 (by omega) (by rwa [Int.natAbs_neg]) (by rwa [Int.natAbs_neg])
theorem dd_pos (a b : Rat) : 0 < (a.den : Int) * (b.den : Int) := Int.mul_pos (den_pos a) (den_pos b)
theorem add_eq (a b : Rat) : ((a.num * b.den + b.num * a.den : Int) : Rat) / ((a.den * b.den : Int) : Rat) = a + b := by
  have h1 := den_ne a
  have h2 := den_ne b
  have e1 := rat_eq a
  have e2 := rat_eq b
  rw [Rat.intCast_add, Rat.intCast_mul, Rat.intCast_mul, Rat.intCast_mul]
  generalize (a.num : Rat) = x at *
  generalize (b.num : Rat) = y at *
  generalize ((a.den : Int) : Rat) = u at *
  generalize ((b.den : Int) : Rat) = v at *
  subst e1 e2
  grind
theorem sub_eq (a b : Rat) : ((a.num * b.den - b.num * a.den : Int) : Rat) / ((a.den * b.den : Int) : Rat) = a - b := by
  have h1 := den_ne a
  have h2 := den_ne b
  have e1 := rat_eq a
  have e2 := rat_eq b
  rw [Rat.intCast_sub, Rat.intCast_mul, Rat.intCast_mul, Rat.intCast_mul]
  generalize (a.num : Rat) = x at *
  generalize (b.num : Rat) = y at *
  generalize ((a.den : Int) : Rat) = u at *
  generalize ((b.den : Int) : Rat) = v at *
  subst e1 e2
  grind
theorem mul_eq (a b : Rat) : ((a.num * b.num : Int) : Rat) / ((a.den * b.den : Int) : Rat) = a * b := by
  have h1 := den_ne a
  have h2 := den_ne b
  have e1 := rat_eq a
  have e2 := rat_eq b
  rw [Rat.intCast_mul, Rat.intCast_mul]
  generalize (a.num : Rat) = x at *
  generalize (b.num : Rat) = y at *
  generalize ((a.den : Int) : Rat) = u at *
  generalize ((b.den : Int) : Rat) = v at *
  subst e1 e2
  grind
theorem num_ne {b : Rat} (h : b ≠ 0) : b.num ≠ 0 := fun e => h (by rw [rat_eq b, e]; simp [Rat.div_def])
theorem div_eq (a b : Rat) (hb : b ≠ 0) : ((a.num * b.den : Int) : Rat) / ((a.den * b.num : Int) : Rat) = a / b := by
  have h1 := den_ne a
  have h2 := den_ne b
  have h3 : (b.num : Rat) ≠ 0 := by simpa using num_ne hb
  have e1 := rat_eq a
  have e2 := rat_eq b
  rw [Rat.intCast_mul, Rat.intCast_mul]
  generalize (a.num : Rat) = x at *
  generalize (b.num : Rat) = y at *
  generalize ((a.den : Int) : Rat) = u at *
  generalize ((b.den : Int) : Rat) = v at *
  subst e1 e2
  grind
instance [Bd a m] [Bd b l] : Bd (a + b) (m + l + 1) := by
  rw [← add_eq]
  exact bd_div (IB.n (i := a.num * b.den + b.num * a.den) (m := m + l + (l + m) + 1) |> fun _ => by
    have h1 : (a.num * b.den).natAbs ≤ 2 ^ (m + l) := IB.n
    have h2 : (b.num * a.den).natAbs ≤ 2 ^ (m + l) := by rw [Nat.add_comm m l]; exact IB.n
    rw [Nat.pow_succ]; omega) (by
    have h : ((a.den : Int) * (b.den : Int)).natAbs ≤ 2 ^ (m + l) := IB.n
    exact le_l h)
instance [Bd a m] [Bd b l] : Bd (a - b) (m + l + 1) := by
  rw [← sub_eq]
  exact bd_div (by
    have h1 : (a.num * b.den).natAbs ≤ 2 ^ (m + l) := IB.n
    have h2 : (b.num * a.den).natAbs ≤ 2 ^ (m + l) := by rw [Nat.add_comm m l]; exact IB.n
    rw [Nat.pow_succ]; omega) (by
    have h : ((a.den : Int) * (b.den : Int)).natAbs ≤ 2 ^ (m + l) := IB.n
    exact le_l h)
instance [Bd a m] [Bd b l] : Bd (a * b) (m + l) := by
  rw [← mul_eq]
  exact bd_div IB.n IB.n
instance [Bd a m] : Bd (-a) m := ⟨by rw [Rat.neg_num, Int.natAbs_neg]; exact Bd.n, by rw [Rat.neg_den]; exact Bd.d (q := a)⟩
instance : Bd 0 0 := ⟨by decide, by decide⟩
instance : Bd 1 0 := ⟨by decide, by decide⟩
instance : Bd 2 1 := ⟨by decide +kernel, by decide +kernel⟩
instance : Bd 4 2 := ⟨by decide +kernel, by decide +kernel⟩
instance : Bd 6 3 := ⟨by decide +kernel, by decide +kernel⟩
instance [Bd a m] [Bd b l] : Bd (a / b) (m + l) := by
  by_cases h : b = 0
  · subst h
    have e : a / 0 = 0 := by simp [Rat.div_def]
    rw [e]
    exact ⟨by simp, by simpa using Nat.one_le_two_pow⟩
  · rw [← div_eq a b h]
    exact bd_div IB.n IB.n
instance [IB i m] : Bd (i : Rat) m := ⟨by simpa using IB.n (i := i), by simpa using Nat.one_le_two_pow⟩
/-! ### the defs of fractions -/
theorem abs_nat (i : Int) : (if i < 0 then -i else i) = (i.natAbs : Int) := by split <;> omega
@[simp] theorem blt_abs {S : Store} {i : Int} : bltEv .abs [.int i] S = some (.int (i.natAbs : Int)) := by rw [← abs_nat]; rfl
theorem gcd_abs (a b : Int) : Int.gcd (a.natAbs : Int) b = Int.gcd a b := by simp [Int.gcd]
end
section
variable {P : Nat → Option CF} [Lib P] {n : Nat} {S : Store} {i j : Int} {m l : Nat} {a b : Rat}
theorem share_loop (F : Fn) : ∀ (k : Nat) (a b : Int), 0 ≤ a → 0 ≤ b → b.toNat ≤ k → run F (.whl (.cmp .gt (.var 1) (.con (.int 0))) (cb_share_of_1 (Lib.ix P))) [some (.int a), some (.int b)] S =
    .nx [some (.int (Int.gcd a b)), some (.int 0)] S
  | k, a, b, ha, hb, hk => by
    rw [run_whl]
    by_cases h0 : b = 0
    · subst h0
      simp [Int.natAbs_of_nonneg ha]
    · have hp : 0 < b := by omega
      have hm : 0 ≤ a % b := Int.emod_nonneg _ h0
      have hl : a % b < b := Int.emod_lt_of_pos _ hp
      cases k with
      | zero => omega
      | succ k =>
        have ih := share_loop F k b (a % b) hb hm (by omega)
        simp [hp, cb_share_of_1]
        simp [cb_share_of_1] at ih
        rw [ih]
        rw [gcd_step a b]
theorem ev_share {a b : Int} (ha : 0 ≤ a) (hb : 0 ≤ b) : evF P (n + 1) (f_share_of P) [.int a, .int b] S = .ok (.int (Int.gcd a b)) S := by
  rw [evF_at (p_share_of P) rfl rfl]
  simp [cf_share_of, share_loop (P := P) _ b.toNat a b ha hb (Nat.le_refl _)]
theorem gcd_pos {a b : Int} (hb : 0 < b) : 0 < (Int.gcd a b : Int) := by
  have := Int.gcd_pos_iff.mpr (Or.inr (show b ≠ 0 by omega) : a ≠ 0 ∨ b ≠ 0)
  omega
@[simp] theorem ev_low {a b : Int} (hb : b ≠ 0) : evF P (n + 2) (f_low P) [.int a, .int b] S = .ok (fr ((a : Rat) / (b : Rat))) S := by
  rw [evF_at (p_low P) rfl rfl]
  have key : ∀ a b : Int, 0 < b → evF P (n + 1) (f_share_of P) [.int (a.natAbs : Int), .int b] S = .ok (.int (Int.gcd a b)) S := fun a b hb => by
    rw [ev_share (by omega) (by omega)]
    simp [Int.gcd]
  by_cases hn : b < 0
  · have k1 := key (-a) (-b) (by omega)
    have g := gcd_pos (a := -a) (show 0 < -b by omega)
    rw [Int.gcd_neg, Int.neg_gcd] at g
    obtain ⟨e1, e2⟩ := low_num (a := -a) (b := -b) (by omega)
    have e : ((-a : Int) : Rat) / ((-b : Int) : Rat) = (a : Rat) / (b : Rat) := by
      have : (b : Rat) ≠ 0 := by simpa using hb
      rw [Rat.intCast_neg, Rat.intCast_neg]
      grind
    rw [e] at e1 e2
    simp at k1 e1 e2
    simp [cf_low, hn, k1, bin_div_int (show DivOk _ _ from g), fr_def, e1, e2]
  · have k1 := key a b (by omega)
    have g := gcd_pos (a := a) (show 0 < b by omega)
    obtain ⟨e1, e2⟩ := low_num (a := a) (b := b) (by omega)
    simp [cf_low, hn, k1, bin_div_int (show DivOk _ _ from g), fr_def, e1, e2]
theorem lawlow_loop (F : Fn) (x y : Option D) : ∀ (k : Nat) (a b : Int), 0 ≤ a → 0 ≤ b → b.toNat ≤ k → run F (.whl (.cmp .gt (.var 3) (.con (.int 0))) (cb_law_low_1 (Lib.ix P))) [x, y, some (.int a), some (.int b)] S =
    .nx [x, y, some (.int (Int.gcd a b)), some (.int 0)] S
  | k, a, b, ha, hb, hk => by
    rw [run_whl]
    by_cases h0 : b = 0
    · subst h0
      simp [Int.natAbs_of_nonneg ha]
    · have hp : 0 < b := by omega
      have hm : 0 ≤ a % b := Int.emod_nonneg _ h0
      have hl : a % b < b := Int.emod_lt_of_pos _ hp
      cases k with
      | zero => omega
      | succ k =>
        have ih := lawlow_loop F x y k b (a % b) hb hm (by omega)
        simp [hp, cb_law_low_1]
        simp [cb_law_low_1] at ih
        rw [ih]
        rw [gcd_step a b]
@[simp] theorem ev_law_low {a b : Int} (hb : b ≠ 0) : evF P (n + 1) (f_law_low P) [.int a, .int b] S = .ok (fr ((a : Rat) / (b : Rat))) S := by
  rw [evF_at (p_law_low P) rfl rfl]
  by_cases hn : b < 0
  · have g := gcd_pos (a := -a) (show 0 < -b by omega)
    rw [Int.gcd_neg, Int.neg_gcd] at g
    obtain ⟨e1, e2⟩ := low_num (a := -a) (b := -b) (by omega)
    have e : ((-a : Int) : Rat) / ((-b : Int) : Rat) = (a : Rat) / (b : Rat) := by
      have : (b : Rat) ≠ 0 := by simpa using hb
      rw [Rat.intCast_neg, Rat.intCast_neg]
      grind
    rw [e] at e1 e2
    have ll := lawlow_loop (P := P) (S := S) (evF P n) (some (.int (-a))) (some (.int (-b))) (-b).toNat ((-a).natAbs : Int) (-b) (by omega) (by omega) (Nat.le_refl _)
    rw [gcd_abs] at ll
    simp at ll e1 e2
    simp [cf_law_low, hn, ll, bin_div_int (show DivOk _ _ from g), fr_def, e1, e2]
  · have g := gcd_pos (a := a) (show 0 < b by omega)
    obtain ⟨e1, e2⟩ := low_num (a := a) (b := b) (by omega)
    have ll := lawlow_loop (P := P) (S := S) (evF P n) (some (.int a)) (some (.int b)) b.toNat (a.natAbs : Int) b (by omega) (by omega) (Nat.le_refl _)
    rw [gcd_abs] at ll
    simp [cf_law_low, hn, ll, bin_div_int (show DivOk _ _ from g), fr_def, e1, e2]
theorem dd_ne (a b : Rat) : (a.den : Int) * (b.den : Int) ≠ 0 := by have := dd_pos a b; omega
theorem dn_ne (a : Rat) {b : Rat} (h : b ≠ 0) : (a.den : Int) * b.num ≠ 0 := Int.mul_ne_zero (by have := den_pos a; omega) (num_ne h)
theorem low_at {x y : Int} {q : Rat} (hb : y ≠ 0) (e : (x : Rat) / (y : Rat) = q) : evF P (n + 2) (f_low P) [.int x, .int y] S = .ok (fr q) S := by rw [ev_low hb, e]
theorem lawlow_at {x y : Int} {q : Rat} (hb : y ≠ 0) (e : (x : Rat) / (y : Rat) = q) : evF P (n + 1) (f_law_low P) [.int x, .int y] S = .ok (fr q) S := by rw [ev_law_low hb, e]
@[simp] theorem ev_add [Bd a m] [Bd b l] (h : m + l ≤ 130000000) : evF P (n + 3) (f_add P) [fr a, fr b] S = .ok (fr (a + b)) S := by
  rw [evF_at (p_add P) rfl rfl]
  have e := low_at (P := P) (n := n) (S := S) (dd_ne a b) (add_eq a b)
  simp [cf_add, bin_mul_int (mulOk_ib (i := a.num) (j := b.den) (by omega)), bin_mul_int (mulOk_ib (i := b.num) (j := a.den) (by omega)), bin_mul_int (mulOk_ib (i := a.den) (j := b.den) (by omega)), e, -ev_low, -ev_law_low]
@[simp] theorem ev_law_plus [Bd a m] [Bd b l] (h : m + l ≤ 130000000) : evF P (n + 2) (f_law_plus P) [fr a, fr b] S = .ok (fr (a + b)) S := by
  rw [evF_at (p_law_plus P) rfl rfl]
  have e := lawlow_at (P := P) (n := n) (S := S) (dd_ne a b) (add_eq a b)
  simp [cf_law_plus, bin_mul_int (mulOk_ib (i := a.num) (j := b.den) (by omega)), bin_mul_int (mulOk_ib (i := b.num) (j := a.den) (by omega)), bin_mul_int (mulOk_ib (i := a.den) (j := b.den) (by omega)), e, -ev_low, -ev_law_low]
@[simp] theorem ev_less [Bd a m] [Bd b l] (h : m + l ≤ 130000000) : evF P (n + 3) (f_less P) [fr a, fr b] S = .ok (fr (a - b)) S := by
  rw [evF_at (p_less P) rfl rfl]
  have e := low_at (P := P) (n := n) (S := S) (dd_ne a b) (sub_eq a b)
  simp [cf_less, bin_mul_int (mulOk_ib (i := a.num) (j := b.den) (by omega)), bin_mul_int (mulOk_ib (i := b.num) (j := a.den) (by omega)), bin_mul_int (mulOk_ib (i := a.den) (j := b.den) (by omega)), e, -ev_low, -ev_law_low]
@[simp] theorem ev_law_minus [Bd a m] [Bd b l] (h : m + l ≤ 130000000) : evF P (n + 2) (f_law_minus P) [fr a, fr b] S = .ok (fr (a - b)) S := by
  rw [evF_at (p_law_minus P) rfl rfl]
  have e := lawlow_at (P := P) (n := n) (S := S) (dd_ne a b) (sub_eq a b)
  simp [cf_law_minus, bin_mul_int (mulOk_ib (i := a.num) (j := b.den) (by omega)), bin_mul_int (mulOk_ib (i := b.num) (j := a.den) (by omega)), bin_mul_int (mulOk_ib (i := a.den) (j := b.den) (by omega)), e, -ev_low, -ev_law_low]
@[simp] theorem ev_mul [Bd a m] [Bd b l] (h : m + l ≤ 130000000) : evF P (n + 3) (f_mul P) [fr a, fr b] S = .ok (fr (a * b)) S := by
  rw [evF_at (p_mul P) rfl rfl]
  have e := low_at (P := P) (n := n) (S := S) (dd_ne a b) (mul_eq a b)
  simp [cf_mul, bin_mul_int (mulOk_ib (i := a.num) (j := b.num) (by omega)), bin_mul_int (mulOk_ib (i := a.den) (j := b.den) (by omega)), e, -ev_low, -ev_law_low]
@[simp] theorem ev_law_times [Bd a m] [Bd b l] (h : m + l ≤ 130000000) : evF P (n + 2) (f_law_times P) [fr a, fr b] S = .ok (fr (a * b)) S := by
  rw [evF_at (p_law_times P) rfl rfl]
  have e := lawlow_at (P := P) (n := n) (S := S) (dd_ne a b) (mul_eq a b)
  simp [cf_law_times, bin_mul_int (mulOk_ib (i := a.num) (j := b.num) (by omega)), bin_mul_int (mulOk_ib (i := a.den) (j := b.den) (by omega)), e, -ev_low, -ev_law_low]
@[simp] theorem ev_div [Bd a m] [Bd b l] (hz : b ≠ 0) (h : m + l ≤ 130000000) : evF P (n + 3) (f_div P) [fr a, fr b] S = .ok (fr (a / b)) S := by
  rw [evF_at (p_div P) rfl rfl]
  have e := low_at (P := P) (n := n) (S := S) (dn_ne a hz) (div_eq a b hz)
  simp [cf_div, bin_mul_int (mulOk_ib (i := a.num) (j := b.den) (by omega)), bin_mul_int (mulOk_ib (i := a.den) (j := b.num) (by omega)), e, -ev_low, -ev_law_low]
@[simp] theorem ev_law_over [Bd a m] [Bd b l] (hz : b ≠ 0) (h : m + l ≤ 130000000) : evF P (n + 2) (f_law_over P) [fr a, fr b] S = .ok (fr (a / b)) S := by
  rw [evF_at (p_law_over P) rfl rfl]
  have e := lawlow_at (P := P) (n := n) (S := S) (dn_ne a hz) (div_eq a b hz)
  simp [cf_law_over, bin_mul_int (mulOk_ib (i := a.num) (j := b.den) (by omega)), bin_mul_int (mulOk_ib (i := a.den) (j := b.num) (by omega)), e, -ev_low, -ev_law_low]
@[simp] theorem ev_is_less [Bd a m] [Bd b l] (h : m + l ≤ 130000000) : evF P (n + 1) (f_is_less P) [fr a, fr b] S = .ok (.bl (decide (a < b))) S := by
  rw [evF_at (p_is_less P) rfl rfl]
  simp [cf_is_less, bin_mul_int (mulOk_ib (i := a.num) (j := b.den) (by omega)), bin_mul_int (mulOk_ib (i := b.num) (j := a.den) (by omega)), Rat.lt_iff]
@[simp] theorem ev_law_below [Bd a m] [Bd b l] (h : m + l ≤ 130000000) : evF P (n + 1) (f_law_below P) [fr a, fr b] S = .ok (.bl (decide (a < b))) S := by
  rw [evF_at (p_law_below P) rfl rfl]
  simp [cf_law_below, bin_mul_int (mulOk_ib (i := a.num) (j := b.den) (by omega)), bin_mul_int (mulOk_ib (i := b.num) (j := a.den) (by omega)), Rat.lt_iff]
theorem half_eq (a : Rat) : ((a.num : Int) : Rat) / ((2 * a.den : Int) : Rat) = a / 2 := by
  have h1 := den_ne a
  have e1 := rat_eq a
  rw [Rat.intCast_mul]
  generalize (a.num : Rat) = x at *
  generalize ((a.den : Int) : Rat) = u at *
  subst e1
  have : ((2 : Int) : Rat) = 2 := by simp
  rw [this]
  grind
@[simp] theorem ev_half [Bd a m] : evF P (n + 3) (f_half P) [fr a] S = .ok (fr (a / 2)) S := by
  rw [evF_at (p_half P) rfl rfl]
  have e := low_at (P := P) (n := n) (S := S) (x := a.num) (y := 2 * a.den) (by have := den_pos a; omega) (half_eq a)
  simp [cf_half, bin_mul_int (mulOk_l (i := 2) (j := a.den) (by decide) (by decide)), e, -ev_low]
@[simp] theorem ev_whole : evF P (n + 1) (f_is_whole P) [.int i] S = .ok (.bl true) S := by
  rw [evF_at (p_is_whole P) rfl rfl]
  simp [cf_is_whole]
@[simp] theorem ev_law_whole : evF P (n + 1) (f_law_whole P) [.int i] S = .ok (.bl true) S := by
  rw [evF_at (p_law_whole P) rfl rfl]
  simp [cf_law_whole]
@[simp] theorem ev_is_fraction : evF P (n + 2) (f_is_fraction P) [fr a] S = .ok (.bl true) S := by
  rw [evF_at (p_is_fraction P) rfl rfl]
  have hd := a.den_pos
  have hg : Int.gcd (a.num.natAbs : Int) (a.den : Int) = 1 := by
    have := a.reduced
    simpa [Int.gcd] using this
  simp [cf_is_fraction, ev_share (P := P) (a := (a.num.natAbs : Int)) (b := (a.den : Int)) (by omega) (by omega), hg, hd]
theorem num_pos {a : Rat} : (0 < a.num) ↔ 0 < a := by
  have h1 := Rat.num_nonneg (q := a)
  have h2 := Rat.num_eq_zero (q := a)
  constructor
  · intro h
    exact Rat.lt_of_le_of_ne (h1.mp (by omega)) (fun e => by have := h2.mpr e.symm; omega)
  · intro h
    have := h1.mpr (Rat.le_of_lt h)
    have : a.num ≠ 0 := fun e => by rw [h2.mp e] at h; exact absurd h (Rat.lt_irrefl)
    omega
@[simp] theorem ev_from0 : evF P (n + 3) (f_is_from_zero P) [fr a] S = .ok (.bl (decide (0 ≤ a))) S := by
  rw [evF_at (p_is_from_zero P) rfl rfl]
  simp [cf_is_from_zero, Rat.num_nonneg]
@[simp] theorem ev_above0 : evF P (n + 3) (f_is_above_zero P) [fr a] S = .ok (.bl (decide (0 < a))) S := by
  rw [evF_at (p_is_above_zero P) rfl rfl]
  simp [cf_is_above_zero, num_pos]
/-! equality of data -/
@[simp] theorem okD_tup (k : Nat) (ds : List D) : okD (k + 1) (.tup ds) = okDs k ds := by rw [okD]
@[simp] theorem okD_lst (k : Nat) (ds : List D) : okD (k + 1) (.lst ds) = okDs k ds := by rw [okD]
@[simp] theorem okD_non (k : Nat) : okD k .non = true := by cases k <;> rfl
@[simp] theorem okD_bl (k : Nat) (b : Bool) : okD k (.bl b) = true := by cases k <;> rfl
@[simp] theorem okD_int (k : Nat) (i : Int) : okD k (.int i) = true := by cases k <;> rfl
@[simp] theorem okDs_nil (k : Nat) : okDs k [] = true := by rw [okDs]
@[simp] theorem okDs_cons (k : Nat) (d : D) (ds : List D) : okDs k (d :: ds) = (okD k d && okDs k ds) := by rw [okDs]
@[simp] theorem okD_fr (k : Nat) (q : Rat) : okD (k + 1) (fr q) = true := by simp [fr]
theorem okDs_map {α : Type} {k : Nat} {en : α → D} (h : ∀ x, okD k (en x) = true) (xs : List α) : okDs k (xs.map en) = true := by
  refine okDs_all fun d hd => ?_
  obtain ⟨x, _, rfl⟩ := List.mem_map.mp hd
  exact h x
@[simp] theorem eq_ev {x y : D} (hx : okD 20 x = true) (hy : okD 20 y = true) : cmpEv .eq x y S = some (.bl (eqD x y)) := cmp_eq 20 hx hy (by decide)
@[simp] theorem ne_ev {x y : D} (hx : okD 20 x = true) (hy : okD 20 y = true) : cmpEv .ne x y S = some (.bl (!eqD x y)) := cmp_ne 20 hx hy (by decide)
def eqDs : List D → List D → Bool
  | [], [] => true
  | x :: xs, y :: ys => eqD x y && eqDs xs ys
  | _, _ => false
theorem eqDs_len : ∀ {xs ys : List D}, eqDs xs ys = true → xs.length = ys.length
  | [], [], _ => rfl
  | x :: xs, y :: ys, h => by
    unfold eqDs at h
    rw [List.length_cons, List.length_cons, eqDs_len (ands h).2]
  | [], _ :: _, h => by cases h
  | _ :: _, [], h => by cases h
theorem eqD_tups (xs ys : List D) : eqD (.tup xs) (.tup ys) = eqDs xs ys := by
  have key : ∀ xs ys : List D, (match pys xs, pys ys with
      | some p, some q => PyData.eqvAll p q
      | _, _ => false) = eqDs xs ys := fun xs => by
    induction xs with
    | nil =>
      intro ys
      cases ys with
      | nil => rfl
      | cons y ys =>
        cases h1 : py y <;> cases h2 : pys ys <;> simp [pys, h1, h2, eqDs, PyData.eqvAll]
    | cons x xs ih =>
      intro ys
      cases ys with
      | nil => cases h1 : py x <;> cases h2 : pys xs <;> simp [pys, h1, h2, eqDs, PyData.eqvAll]
      | cons y ys =>
        have i := ih ys
        cases h1 : py x <;> cases h2 : pys xs <;> cases h3 : py y <;> cases h4 : pys ys <;> simp_all [pys, eqDs, PyData.eqvAll, eqD]
  rw [← key]
  unfold eqD py
  cases h1 : pys xs <;> cases h2 : pys ys <;> simp [PyData.eqv]
@[simp] theorem eqD_tup (xs ys : List D) : eqD (.tup xs) (.tup ys) = eqDs xs ys := eqD_tups xs ys
@[simp] theorem eqD_lst (xs ys : List D) : eqD (.lst xs) (.lst ys) = eqDs xs ys := by
  rw [← eqD_tups]
  unfold eqD py
  cases h1 : pys xs <;> cases h2 : pys ys <;> simp [PyData.eqv]
@[simp] theorem eqDs_nil : eqDs [] [] = true := rfl
@[simp] theorem eqDs_cons (x y : D) (xs ys : List D) : eqDs (x :: xs) (y :: ys) = (eqD x y && eqDs xs ys) := rfl
@[simp] theorem eqDs_nc (x : D) (xs : List D) : eqDs [] (x :: xs) = false := rfl
@[simp] theorem eqDs_cn (x : D) (xs : List D) : eqDs (x :: xs) [] = false := rfl
@[simp] theorem eqD_int (i j : Int) : eqD (.int i) (.int j) = decide (i = j) := by
  have : eqD (.int i) (.int j) = (i == j) := rfl
  rw [this]
  rfl
@[simp] theorem eqD_non : eqD .non .non = true := rfl
@[simp] theorem eqD_non_tup (xs : List D) : eqD .non (.tup xs) = false := by
  unfold eqD py
  cases pys xs <;> rfl
@[simp] theorem eqD_tup_non (xs : List D) : eqD (.tup xs) .non = false := by
  unfold eqD py
  cases pys xs <;> rfl
@[simp] theorem eqD_non_fr : eqD .non (fr a) = false := rfl
@[simp] theorem eqD_fr_non : eqD (fr a) .non = false := rfl
@[simp] theorem eqD_fr : eqD (fr a) (fr b) = decide (a = b) := by
  simp [fr]
  rw [Bool.eq_iff_iff]
  simp
  constructor
  · intro h; exact Rat.ext h.1 (by omega)
  · intro h; subst h; exact ⟨rfl, rfl⟩
theorem eqDs_map {α : Type} {en : α → D} (h : ∀ x y, eqD (en x) (en y) = true ↔ x = y) : ∀ xs ys : List α, eqDs (xs.map en) (ys.map en) = true ↔ xs = ys
  | [], [] => by simp
  | [], _ :: _ => by simp
  | _ :: _, [] => by simp
  | x :: xs, y :: ys => by simp [h, eqDs_map h xs ys]
end
end Z

/-! X, part C: loops and comprehensions that change no cell; cables. -/
namespace Z
open PySem
theorem at_fix {S : Store} {ws : List D} : Wk.At S (.fix ws) = True := rfl
@[simp] theorem at_fix' {S : Store} {ws : List D} : Wk.At S (.fix ws) := trivial
@[simp] theorem items_fix {ws : List D} : Wk.items (.fix ws) = ws := rfl
@[simp] theorem wk_tup {S : Store} {ds : List D} : walkSeq S (.tup ds) = some (.fix ds) := rfl
@[simp] theorem wk_lst {S : Store} {ds : List D} : walkSeq S (.lst ds) = some (.fix ds) := rfl
theorem comp_map {α : Type} {F : Fn} {elt : CE} {tg : CT} {w : List D} {δ : Env} {own : List Nat} {S : Store} (en g : α → D) : ∀ (xs : List α) (acc : List D), acc.length + xs.length ≤ 1000 →
    (∀ x ∈ xs, (match stepT tg (en x) (wipeD δ own) with
      | some δ1 => ev F elt δ1 S
      | none => .stuck) = .ok (g x) S) →
    compEv (ev F elt) (ev F (.con (.bl true))) tg (.fix w) δ own (xs.map en) acc S = .ok (acc ++ xs.map g) S
  | [], acc, _, _ => by simp [compEv, at_fix]
  | x :: xs, acc, hl, h => by
    have hz : acc.length < sizeLine := by rw [sizeLine_eq]; simp at hl; omega
    have ih := comp_map (F := F) (elt := elt) (tg := tg) (w := w) (δ := δ) (own := own) en g xs (acc ++ [g x]) (by simp at hl ⊢; omega) (fun y hy => h y (List.mem_cons_of_mem _ hy))
    have hx := h x List.mem_cons_self
    rw [List.map_cons]
    cases e : stepT tg (en x) (wipeD δ own) with
    | none => rw [e] at hx; cases hx
    | some δ1 =>
      rw [e] at hx
      simp only [compEv, at_fix, if_true, e, hz, ev_con', hx]
      rw [ih]
      simp
theorem comp_filter {α : Type} {F : Fn} {elt cond : CE} {tg : CT} {w : List D} {δ : Env} {own : List Nat} {S : Store} (en g : α → D) (p : α → Bool) : ∀ (xs : List α) (acc : List D), acc.length + xs.length ≤ 1000 →
    (∀ x ∈ xs, (match stepT tg (en x) (wipeD δ own) with
      | some δ1 => ev F cond δ1 S
      | none => .stuck) = .ok (.bl (p x)) S) →
    (∀ x ∈ xs, p x = true → (match stepT tg (en x) (wipeD δ own) with
      | some δ1 => ev F elt δ1 S
      | none => .stuck) = .ok (g x) S) →
    compEv (ev F elt) (ev F cond) tg (.fix w) δ own (xs.map en) acc S = .ok (acc ++ (xs.filter p).map g) S
  | [], acc, _, _, _ => by simp [compEv, at_fix]
  | x :: xs, acc, hl, h, h' => by
    have hz : acc.length < sizeLine := by rw [sizeLine_eq]; simp at hl; omega
    have ih := fun acc' hl' => comp_filter (F := F) (elt := elt) (cond := cond) (tg := tg) (w := w) (δ := δ) (own := own) en g p xs acc' hl' (fun y hy => h y (List.mem_cons_of_mem _ hy)) (fun y hy => h' y (List.mem_cons_of_mem _ hy))
    have hx := h x List.mem_cons_self
    have hx' := h' x List.mem_cons_self
    rw [List.map_cons]
    cases e : stepT tg (en x) (wipeD δ own) with
    | none => rw [e] at hx; cases hx
    | some δ1 =>
      rw [e] at hx hx'
      simp only [compEv, at_fix, if_true, e, hz]
      have hx : ev F cond δ1 S = .ok (.bl (p x)) S := hx
      rw [hx]
      cases q : p x with
      | true =>
        have hx' : ev F elt δ1 S = .ok (g x) S := hx' q
        simp only [hx']
        rw [ih _ (by simp at hl ⊢; omega), List.filter_cons, q]
        simp
      | false =>
        simp only []
        rw [ih _ (by simp at hl ⊢; omega), List.filter_cons, q]
        simp
section
variable {F : Fn} {body : Env → Store → SR} {tg : CT} {ws : List D} {S : Store} {δ : Env} {d : D} {ds : List D}
@[simp] theorem for_nil : forEv body tg (.fix ws) [] δ S = .nx δ S := by simp [forEv, at_fix]
@[simp] theorem for_cons : forEv body tg (.fix ws) (d :: ds) δ S = match stepT tg d δ with
    | some δ1 => (match body δ1 S with
      | .nx δ2 S2 => forEv body tg (.fix ws) ds δ2 S2
      | .bk δ2 S2 => .nx δ2 S2
      | r => r)
    | none => .stuck := by
  rw [forEv, if_pos at_fix'] <;> rfl
@[simp] theorem in_lst {x : D} (hx : okD 20 x = true) (hd : okD 20 (.lst ds) = true) : cmpEv .isin x (.lst ds) S = some (.bl (ds.any fun z => eqD z x)) := by
  obtain ⟨p, e1, e2, e3⟩ := okD_py 20 x hx
  obtain ⟨q, e4, e5, e6⟩ := okD_py 20 (.lst ds) hd
  have s1 : SeqAt.shaped p = true := by unfold SeqAt.shaped; rw [e2]; simp; omega
  have s2 : SeqAt.shaped q = true := by unfold SeqAt.shaped; rw [e5]; simp; omega
  show ((inEvD S x (.lst ds))).map D.bl = _
  have h0 : inEvD S x (.lst ds) = inEv S x (.lst ds) := rfl
  rw [h0]
  unfold inEv
  simp only []
  rw [pyS_of hx, pyS_of hd, e1, e4]
  simp only [shapedO, if_pos s1, if_pos s2]
  unfold py at e4
  cases h : pys ds with
  | none => rw [h] at e4; cases e4
  | some es =>
    rw [h] at e4
    cases e4
    simp only [Option.map_some]
    congr 2
    have key : ∀ (ds : List D) (es : List PyData), pys ds = some es → (es.any fun z => PyData.eqv z p) = ds.any fun z => eqD z x := fun ds => by
      induction ds with
      | nil => intro es h; cases h; rfl
      | cons d ds ih =>
        intro es h
        unfold pys at h
        cases h1 : py d with
        | none => rw [h1] at h; cases h
        | some a =>
          cases h2 : pys ds with
          | none => rw [h1, h2] at h; cases h
          | some as =>
            rw [h1, h2] at h
            cases h
            have e : eqD d x = PyData.eqv a p := by unfold eqD; rw [h1, e1]
            rw [List.any_cons, List.any_cons, ih as h2, e]
    exact key ds es h
@[simp] theorem notin_lst {x : D} (hx : okD 20 x = true) (hd : okD 20 (.lst ds) = true) : cmpEv .notin x (.lst ds) S = some (.bl (!(ds.any fun z => eqD z x))) := by
  have h := in_lst (S := S) hx hd
  have e : cmpEv .isin x (.lst ds) S = (inEvD S x (.lst ds)).map D.bl := rfl
  have e2 : cmpEv .notin x (.lst ds) S = ((inEvD S x (.lst ds)).map (!·)).map D.bl := rfl
  rw [e] at h
  rw [e2]
  cases q : inEvD S x (.lst ds) with
  | none => rw [q] at h; cases h
  | some b =>
    rw [q] at h
    have : b = ds.any fun z => eqD z x := by simpa using h
    subst this
    rfl
end
def foldR {α σ β : Type} (f : σ → α → σ ⊕ β) : σ → List α → σ ⊕ β
  | s, [] => .inl s
  | s, x :: xs => match f s x with
    | .inl s' => foldR f s' xs
    | .inr r => .inr r
def outR {σ : Type} (E : σ → Env) (S : Store) : σ ⊕ D → SR
  | .inl s => .nx (E s) S
  | .inr d => .rt d S
@[simp] theorem outR_inl {σ : Type} {E : σ → Env} {S : Store} {s : σ} : outR E S (.inl s) = .nx (E s) S := rfl
@[simp] theorem outR_inr {σ : Type} {E : σ → Env} {S : Store} {d : D} : outR E S (.inr d) = .rt d S := rfl
/-- a loop over data, with an invariant over what is left -/
theorem for_ret {α σ : Type} {body : Env → Store → SR} {tg : CT} {ws : List D} {S : Store} (en : α → D) (E : σ → Env) (f : σ → α → σ ⊕ D) (I : List α → σ → Prop)
    (h : ∀ x xs s, I (x :: xs) s → (match stepT tg (en x) (E s) with
      | some δ1 => body δ1 S
      | none => .stuck) = outR E S (f s x) ∧ ∀ s', f s x = .inl s' → I xs s') : ∀ (xs : List α) (s : σ), I xs s →
    forEv body tg (.fix ws) (xs.map en) (E s) S = outR E S (foldR f s xs)
  | [], s, _ => by simp [forEv, at_fix, foldR]
  | x :: xs, s, hI => by
    obtain ⟨h1, h2⟩ := h x xs s hI
    rw [List.map_cons]
    unfold forEv foldR
    rw [if_pos at_fix']
    cases e : stepT tg (en x) (E s) with
    | none =>
      rw [e] at h1
      cases q : f s x <;> rw [q] at h1 <;> cases h1
    | some δ1 =>
      rw [e] at h1
      have h1 : body δ1 S = _ := h1
      simp only [h1]
      cases q : f s x with
      | inl s' => exact for_ret en E f I h xs s' (h2 s' q)
      | inr d => rfl
theorem for_fold {α σ : Type} {body : Env → Store → SR} {tg : CT} {ws : List D} {S : Store} (en : α → D) (E : σ → Env) (f : σ → α → σ) (I : List α → σ → Prop)
    (h : ∀ x xs s, I (x :: xs) s → (match stepT tg (en x) (E s) with
      | some δ1 => body δ1 S
      | none => .stuck) = .nx (E (f s x)) S ∧ I xs (f s x)) : ∀ (xs : List α) (s : σ), I xs s →
    forEv body tg (.fix ws) (xs.map en) (E s) S = .nx (E (xs.foldl f s)) S
  | [], s, _ => by simp [forEv, at_fix]
  | x :: xs, s, hI => by
    obtain ⟨h1, h2⟩ := h x xs s hI
    rw [List.map_cons]
    unfold forEv
    rw [if_pos at_fix']
    cases e : stepT tg (en x) (E s) with
    | none => rw [e] at h1; cases h1
    | some δ1 =>
      rw [e] at h1
      have h1 : body δ1 S = _ := h1
      simp only [h1]
      exact for_fold en E f I h xs (f s x) h2
theorem bls_eq {α : Type} (g : α → Bool) (xs : List α) : bls? (xs.map fun x => D.bl (g x)) = some (xs.map g) := by
  have := bls_map (xs.map g)
  rw [List.map_map] at this
  exact this
theorem ints_eq {α : Type} (g : α → Int) (xs : List α) : ints? (xs.map fun x => D.int (g x)) = some (xs.map g) := by
  have := ints_map (xs.map g)
  rw [List.map_map] at this
  exact this
@[simp] theorem bls_true {α : Type} (xs : List α) : bls? (xs.map fun _ => D.bl true) = some (xs.map fun _ => true) := bls_eq _ _
@[simp] theorem all_id_true {α : Type} (xs : List α) : (xs.map fun _ => true).all id = true := by simp
@[simp] theorem all_tt {α : Type} (xs : List α) : (xs.all fun _ => true) = true := by simp
/-! cables -/
abbrev Len := Int × Rat
def enL (x : Len) : D := .tup [.int x.1, fr x.2]
structure LenOk (x : Len) : Prop where
  lo : 1 ≤ x.1
  hi : x.1 ≤ 999
  pos : 0 < x.2
  n : x.2.num ≤ 999
  d : (x.2.den : Int) ≤ 999
class LsOk (ls : List Len) : Prop where
  lo : 1 ≤ ls.length
  hi : ls.length ≤ 12
  len : ∀ x ∈ ls, LenOk x
class BkOk (b : Rat) : Prop where
  back : 0 ≤ b
  n : b.num ≤ 999
  d : (b.den : Int) ≤ 999
theorem LenOk.ib {x : Len} (h : LenOk x) : IB x.1 10 := ⟨by have := h.lo; have := h.hi; omega⟩
theorem LenOk.bd {x : Len} (h : LenOk x) : Bd x.2 10 := ⟨by have := num_pos.mpr h.pos; have := h.n; omega, by have := h.d; omega⟩
section
variable {P : Nat → Option CF} [Lib P] {n : Nat} {S : Store} {m l : Nat} {a b p : Rat} {ls : List Len}
instance [h : BkOk b] : Bd b 10 := ⟨by have := Rat.num_nonneg.mpr h.back; have := h.n; omega, by have := h.d; omega⟩
@[simp] theorem walkI : (match (if True then (some a : Option Rat) else none) with | some x => x | none => 0) = a := rfl
def allSteps (ls : List Len) : Int := (ls.map (·.1)).sum
def allDrag (ls : List Len) : Rat := (ls.map fun x => (x.1 : Rat) * x.2).sum
theorem steps_pos : ∀ {xs : List Len}, (∀ x ∈ xs, LenOk x) → 0 ≤ allSteps xs ∧ allSteps xs ≤ 999 * xs.length
  | [], _ => by simp [allSteps]
  | x :: xs, h => by
    have ih := steps_pos fun y hy => h y (List.mem_cons_of_mem _ hy)
    have hx := h x List.mem_cons_self
    have h1 := hx.lo
    have h2 := hx.hi
    unfold allSteps at *
    simp only [List.map_cons, List.sum_cons, List.length_cons]
    omega
theorem ib_steps (h : ∀ x ∈ ls, LenOk x) (hl : ls.length ≤ 12) : IB (allSteps ls) 14 := ⟨by
  have := steps_pos h
  omega⟩
theorem bd_drag : ∀ {ls : List Len}, (∀ x ∈ ls, LenOk x) → Bd (allDrag ls) (21 * ls.length)
  | [], _ => by unfold allDrag; exact Bd.mono (m := 0) (inferInstanceAs (Bd 0 0)) (by omega)
  | x :: ls, h => by
    have ih := bd_drag fun y hy => h y (List.mem_cons_of_mem _ hy)
    have i1 := (h x List.mem_cons_self).ib
    have i2 := (h x List.mem_cons_self).bd
    unfold allDrag at *
    rw [List.map_cons, List.sum_cons]
    exact Bd.mono (m := 10 + 10 + 21 * ls.length + 1) inferInstance (by simp; omega)
theorem bd_drag12 (h : ∀ x ∈ ls, LenOk x) (hl : ls.length ≤ 12) : Bd (allDrag ls) 252 := (bd_drag h).mono (by omega)
def dragAt : List Len → Rat → Rat
  | [], _ => 0
  | x :: ls, p => if (x.1 : Rat) < p then (x.1 : Rat) * x.2 + dragAt ls (p - x.1) else p * x.2
def placeWith : List Len → Rat → Rat
  | [], _ => 0
  | x :: ls, d => if (x.1 : Rat) * x.2 < d then (x.1 : Rat) + placeWith ls (d - (x.1 : Rat) * x.2) else d / x.2
theorem bd_dragAt : ∀ {ls : List Len} {p : Rat} {m : Nat}, (∀ x ∈ ls, LenOk x) → Bd p m → Bd (dragAt ls p) (m + 40 * ls.length)
  | [], p, m, _, hp => by unfold dragAt; exact Bd.mono (m := 0) (inferInstanceAs (Bd 0 0)) (by omega)
  | x :: ls, p, m, h, hp => by
    have i1 := (h x List.mem_cons_self).ib
    have i2 := (h x List.mem_cons_self).bd
    have ih := bd_dragAt (ls := ls) (p := p - (x.1 : Rat)) (m := m + 10 + 1) (fun y hy => h y (List.mem_cons_of_mem _ hy)) inferInstance
    unfold dragAt
    split
    · exact Bd.mono (m := 10 + 10 + (m + 10 + 1 + 40 * ls.length) + 1) inferInstance (by simp; omega)
    · exact Bd.mono (m := m + 10) inferInstance (by simp; omega)
theorem bd_placeWith : ∀ {ls : List Len} {p : Rat} {m : Nat}, (∀ x ∈ ls, LenOk x) → Bd p m → Bd (placeWith ls p) (m + 40 * ls.length)
  | [], p, m, _, hp => by unfold placeWith; exact Bd.mono (m := 0) (inferInstanceAs (Bd 0 0)) (by omega)
  | x :: ls, p, m, h, hp => by
    have i1 := (h x List.mem_cons_self).ib
    have i2 := (h x List.mem_cons_self).bd
    have ih := bd_placeWith (ls := ls) (p := p - (x.1 : Rat) * x.2) (m := m + (10 + 10) + 1) (fun y hy => h y (List.mem_cons_of_mem _ hy)) inferInstance
    unfold placeWith
    split
    · exact Bd.mono (m := 10 + (m + (10 + 10) + 1 + 40 * ls.length) + 1) inferInstance (by simp; omega)
    · exact Bd.mono (m := m + 10) inferInstance (by simp; omega)
instance [h : LsOk ls] : IB (allSteps ls) 14 := ib_steps h.len h.hi
instance [h : LsOk ls] : Bd (allDrag ls) 252 := bd_drag12 h.len h.hi
instance [h : LsOk ls] [hp : Bd p m] : Bd (dragAt ls p) (m + 480) := (bd_dragAt h.len hp).mono (by have := h.hi; omega)
instance [h : LsOk ls] [hp : Bd p m] : Bd (placeWith ls p) (m + 480) := (bd_placeWith h.len hp).mono (by have := h.hi; omega)
theorem num_pos' {x : Len} (h : LenOk x) : 0 < x.2 := h.pos
theorem ev_small (h1 : a.num ≤ 999) (h2 : (a.den : Int) ≤ 999) : evF P (n + 1) (f_is_small P) [fr a] S = .ok (.bl true) S := by
  rw [evF_at (p_is_small P) rfl rfl]
  simp [cf_is_small, h1, h2]
theorem ev_is_length {x : Len} (h : LenOk x) : evF P (n + 4) (f_is_length P) [enL x] S = .ok (.bl true) S := by
  rw [evF_at (p_is_length P) rfl rfl]
  simp [cf_is_length, enL, h.lo, h.hi, h.pos, ev_small (P := P) h.n h.d]
@[simp] theorem ev_is_cable [h : LsOk ls] [hb : BkOk b] : evF P (n + 5) (f_is_cable P) [.tup [.tup (ls.map enL), fr b]] S = .ok (.bl true) S := by
  rw [evF_at (p_is_cable P) rfl rfl]
  have h1 : (1 : Int) ≤ ls.length := by have := h.lo; omega
  have h2 : (ls.length : Int) ≤ 12 := by have := h.hi; omega
  simp [cf_is_cable, h1, h2]
  rw [comp_map enL (fun _ => .bl true) ls [] (by simp; omega) (fun x hx => by simp [wipeD, ev_is_length (P := P) (h.len x hx)])]
  simp [hb.back, ev_small (P := P) hb.n hb.d]
@[simp] theorem ev_check_cable [h : LsOk ls] [hb : BkOk b] : evF P (n + 6) (f_check_cable P) [.tup [.tup (ls.map enL), fr b]] S = .ok .non S := by
  rw [evF_at (p_check_cable P) rfl rfl]
  simp [cf_check_cable]
@[simp] theorem ev_all_steps [h : LsOk ls] : evF P (n + 1) (f_all_steps P) [.tup [.tup (ls.map enL), fr b]] S = .ok (.int (allSteps ls)) S := by
  rw [evF_at (p_all_steps P) rfl rfl]
  simp [cf_all_steps]
  rw [comp_map enL (fun x => .int x.1) ls [] (by have := h.hi; simp; omega) (fun x hx => by simp [wipeD, enL])]
  simp [ints_eq, allSteps]
theorem foldl_sum {α : Type} (g : α → Rat) : ∀ (xs : List α) (s : Rat), xs.foldl (fun s x => s + g x) s = s + (xs.map g).sum
  | [], s => by simp [Rat.add_zero]
  | x :: xs, s => by
    rw [List.foldl_cons, foldl_sum g xs, List.map_cons, List.sum_cons]
    grind
end
end Z

/-! X, part D: drags and places; leaks. -/
namespace Z
open PySem
section
variable {P : Nat → Option CF} [Lib P] {n : Nat} {S : Store} {m l : Nat} {a b p : Rat} {ls : List Len}
/-- the loop of all_drag: what is found, the loop's names -/
@[simp] theorem ev_all_drag [h : LsOk ls] : evF P (n + 4) (f_all_drag P) [.tup [.tup (ls.map enL), fr b]] S = .ok (fr (allDrag ls)) S := by
  rw [evF_at (p_all_drag P) rfl rfl]
  have e : ∀ (ws : List D) (s : Rat × Option D × Option D), (s.1 = 0) → forEv (run (evF P (n + 3)) (cb_all_drag_1 (Lib.ix P))) (.tp (.cons (.nm 2) (.cons (.nm 3) .nil))) (.fix ws) (ls.map enL) [some (.tup [.tup (ls.map enL), fr b]), some (fr s.1), s.2.1, s.2.2] S
      = .nx (let t := ls.foldl (fun (s : Rat × Option D × Option D) x => (s.1 + (x.1 : Rat) * x.2, some (.int x.1), some (fr x.2))) s; [some (.tup [.tup (ls.map enL), fr b]), some (fr t.1), t.2.1, t.2.2]) S := fun ws s hs =>
    for_fold (ws := ws) enL (fun s : Rat × Option D × Option D => [some (.tup [.tup (ls.map enL), fr b]), some (fr s.1), s.2.1, s.2.2]) (fun s x => (s.1 + (x.1 : Rat) * x.2, some (.int x.1), some (fr x.2)))
      (fun xs s => (∀ x ∈ xs, LenOk x) ∧ xs.length ≤ 12 ∧ Bd s.1 (21 * (12 - xs.length))) (fun x xs s ⟨h1, h2, h3⟩ => by
        have i1 := (h1 x List.mem_cons_self).ib
        have i2 := (h1 x List.mem_cons_self).bd
        simp at h2
        have b3 : Bd s.1 252 := h3.mono (by omega)
        refine ⟨by simp [enL, cb_all_drag_1], fun y hy => h1 y (List.mem_cons_of_mem _ hy), by omega, ?_⟩
        show Bd (s.1 + (x.1 : Rat) * x.2) _
        clear b3
        exact Bd.mono (m := 21 * (12 - (x :: xs).length) + (10 + 10) + 1) inferInstance (by simp; omega)) ls s
      ⟨h.len, h.hi, by rw [hs]; exact Bd.mono (m := 0) (inferInstanceAs (Bd 0 0)) (by omega)⟩
  have e2 : ∀ (xs : List Len) (s : Rat × Option D × Option D), (xs.foldl (fun (s : Rat × Option D × Option D) x => (s.1 + (x.1 : Rat) * x.2, some (.int x.1), some (fr x.2))) s).1 = s.1 + allDrag xs := fun xs => by
    induction xs with
    | nil => intro s; simp [allDrag, Rat.add_zero]
    | cons x xs ih =>
      intro s
      rw [List.foldl_cons, ih]
      simp only [allDrag, List.map_cons, List.sum_cons]
      grind
  have e := e (ls.map enL) (0, none, none) rfl
  simp only [] at e
  simp [cf_all_drag, e, e2, Rat.zero_add]
theorem ev_drag_at [h : LsOk ls] [hp : Bd p m] (hm : m ≤ 120000000) : evF P (n + 4) (f_drag_at P) [.tup [.tup (ls.map enL), fr b], fr p] S = .ok (fr (dragAt ls p)) S := by
  rw [evF_at (p_drag_at P) rfl rfl]
  let C : D := .tup [.tup (ls.map enL), fr b]
  let E : Rat × Rat × Option D × Option D → Env := fun s => [some C, some (fr p), some (fr s.1), some (fr s.2.1), s.2.2.1, s.2.2.2]
  let f : Rat × Rat × Option D × Option D → Len → (Rat × Rat × Option D × Option D) ⊕ D := fun s x => if (x.1 : Rat) < s.2.1 then .inl (s.1 + (x.1 : Rat) * x.2, s.2.1 - (x.1 : Rat), some (.int x.1), some (fr x.2)) else .inr (fr (s.1 + s.2.1 * x.2))
  have e : ∀ (ws : List D), forEv (run (evF P (n + 3)) (cb_drag_at_1 (Lib.ix P))) (.tp (.cons (.nm 4) (.cons (.nm 5) .nil))) (.fix ws) (ls.map enL) (E (0, p, none, none)) S
      = outR E S (foldR f (0, p, none, none) ls) := fun ws =>
    for_ret (body := run (evF P (n + 3)) (cb_drag_at_1 (Lib.ix P))) (tg := (.tp (.cons (.nm 4) (.cons (.nm 5) .nil)))) (S := S) (ws := ws) enL E f
      (fun xs s => (∀ x ∈ xs, LenOk x) ∧ xs.length ≤ 12 ∧ Bd s.1 (21 * (12 - xs.length)) ∧ Bd s.2.1 (m + 11 * (12 - xs.length))) (fun x xs s ⟨h1, h2, h3, h4⟩ => by
        have i1 := (h1 x List.mem_cons_self).ib
        have i2 := (h1 x List.mem_cons_self).bd
        simp at h2
        have b3 : Bd s.1 252 := h3.mono (by omega)
        have b4 : Bd s.2.1 (m + 132) := h4.mono (by omega)
        have q1 : 10 + (m + 132) ≤ 130000000 := by omega
        have q2 : (m + 132) + 10 ≤ 130000000 := by omega
        have q3 : 252 + (m + 132 + 10) ≤ 130000000 := by omega
        by_cases c : (x.1 : Rat) < s.2.1
        · refine ⟨by simp [E, f, enL, cb_drag_at_1, c, ev_is_less q1, ev_less q2, C], fun s' hs' => ?_⟩
          simp only [f, if_pos c] at hs'
          cases hs'
          refine ⟨fun y hy => h1 y (List.mem_cons_of_mem _ hy), by omega, ?_, ?_⟩
          · show Bd (s.1 + (x.1 : Rat) * x.2) _
            clear b3
            exact Bd.mono (m := 21 * (12 - (x :: xs).length) + (10 + 10) + 1) inferInstance (by simp; omega)
          · show Bd (s.2.1 - (x.1 : Rat)) _
            clear b4
            exact Bd.mono (m := m + 11 * (12 - (x :: xs).length) + 10 + 1) inferInstance (by simp; omega)
        · refine ⟨by simp [E, f, enL, cb_drag_at_1, c, ev_is_less q1, ev_mul (b := x.2) q2, ev_add (b := s.2.1 * x.2) q3, C], fun s' hs' => ?_⟩
          simp only [f, if_neg c] at hs'
          cases hs') ls (0, p, none, none)
      ⟨h.len, h.hi, Bd.mono (m := 0) (inferInstanceAs (Bd 0 0)) (by omega), hp.mono (by omega)⟩
  have e2 : ∀ (xs : List Len) (s : Rat × Rat × Option D × Option D), (match foldR f s xs with
      | .inl s' => fr s'.1
      | .inr d => d) = fr (s.1 + dragAt xs s.2.1) := fun xs => by
    induction xs with
    | nil => intro s; simp [foldR, dragAt, Rat.add_zero]
    | cons x xs ih =>
      intro s
      unfold foldR dragAt
      by_cases c : (x.1 : Rat) < s.2.1
      · simp only [f, if_pos c]
        rw [ih]
        congr 1
        grind
      · simp only [f, if_neg c]
  have e := e (ls.map enL)
  have e2 := e2 ls (0, p, none, none)
  simp only [E, C] at e
  simp [cf_drag_at, e]
  cases q : foldR f (0, p, none, none) ls with
  | inl s' =>
    rw [q] at e2
    simp only [Rat.zero_add] at e2
    simp [e2]
  | inr d =>
    rw [q] at e2
    simp only [Rat.zero_add] at e2
    simp [e2]
theorem ev_place_with [h : LsOk ls] [hp : Bd p m] (hm : m ≤ 120000000) : evF P (n + 4) (f_place_with P) [.tup [.tup (ls.map enL), fr b], fr p] S = .ok (fr (placeWith ls p)) S := by
  rw [evF_at (p_place_with P) rfl rfl]
  let C : D := .tup [.tup (ls.map enL), fr b]
  let E : Int × Rat × Option D × Option D × Option D → Env := fun s => [some C, some (fr p), some (.int s.1), some (fr s.2.1), s.2.2.1, s.2.2.2.1, s.2.2.2.2]
  let f : Int × Rat × Option D × Option D × Option D → Len → (Int × Rat × Option D × Option D × Option D) ⊕ D := fun s x => if (x.1 : Rat) * x.2 < s.2.1 then .inl (s.1 + x.1, s.2.1 - (x.1 : Rat) * x.2, some (.int x.1), some (fr x.2), some (fr ((x.1 : Rat) * x.2))) else .inr (fr ((s.1 : Rat) + s.2.1 / x.2))
  have e : ∀ (ws : List D), forEv (run (evF P (n + 3)) (cb_place_with_1 (Lib.ix P))) (.tp (.cons (.nm 4) (.cons (.nm 5) .nil))) (.fix ws) (ls.map enL) (E (0, p, none, none, none)) S
      = outR E S (foldR f (0, p, none, none, none) ls) := fun ws =>
    for_ret (body := run (evF P (n + 3)) (cb_place_with_1 (Lib.ix P))) (tg := (.tp (.cons (.nm 4) (.cons (.nm 5) .nil)))) (S := S) (ws := ws) enL E f
      (fun xs s => (∀ x ∈ xs, LenOk x) ∧ xs.length ≤ 12 ∧ IB s.1 (11 * (12 - xs.length)) ∧ Bd s.2.1 (m + 21 * (12 - xs.length))) (fun x xs s ⟨h1, h2, h3, h4⟩ => by
        have i1 := (h1 x List.mem_cons_self).ib
        have i2 := (h1 x List.mem_cons_self).bd
        have xp := (h1 x List.mem_cons_self).pos
        have xz : x.2 ≠ 0 := fun e => by rw [e] at xp; exact absurd xp Rat.lt_irrefl
        simp at h2
        have b3 : IB s.1 132 := h3.mono (by omega)
        have b4 : Bd s.2.1 (m + 252) := h4.mono (by omega)
        have q1 : (10 + 10) + (m + 252) ≤ 130000000 := by omega
        have q2 : (m + 252) + (10 + 10) ≤ 130000000 := by omega
        have q3 : (m + 252) + 10 ≤ 130000000 := by omega
        have q4 : 132 + (m + 252 + 10) ≤ 130000000 := by omega
        by_cases c : (x.1 : Rat) * x.2 < s.2.1
        · refine ⟨by simp [E, f, enL, cb_place_with_1, c, ev_is_less q1, ev_less q2, C], fun s' hs' => ?_⟩
          simp only [f, if_pos c] at hs'
          cases hs'
          refine ⟨fun y hy => h1 y (List.mem_cons_of_mem _ hy), by omega, ?_, ?_⟩
          · show IB (s.1 + x.1) _
            clear b3
            exact IB.mono (m := 11 * (12 - (x :: xs).length) + 10 + 1) inferInstance (by simp; omega)
          · show Bd (s.2.1 - (x.1 : Rat) * x.2) _
            clear b4
            exact Bd.mono (m := m + 21 * (12 - (x :: xs).length) + (10 + 10) + 1) inferInstance (by simp; omega)
        · refine ⟨by simp [E, f, enL, cb_place_with_1, c, ev_is_less q1, ev_div xz q3, ev_add (b := s.2.1 / x.2) q4, C], fun s' hs' => ?_⟩
          simp only [f, if_neg c] at hs'
          cases hs') ls (0, p, none, none, none)
      ⟨h.len, h.hi, IB.mono (m := 0) (inferInstanceAs (IB 0 0)) (by omega), hp.mono (by omega)⟩
  have e2 : ∀ (xs : List Len) (s : Int × Rat × Option D × Option D × Option D), (match foldR f s xs with
      | .inl s' => fr (s'.1 : Rat)
      | .inr d => d) = fr ((s.1 : Rat) + placeWith xs s.2.1) := fun xs => by
    induction xs with
    | nil => intro s; simp [foldR, placeWith, Rat.add_zero]
    | cons x xs ih =>
      intro s
      unfold foldR placeWith
      by_cases c : (x.1 : Rat) * x.2 < s.2.1
      · simp only [f, if_pos c]
        rw [ih]
        congr 1
        rw [Rat.intCast_add]
        grind
      · simp only [f, if_neg c]
  have e := e (ls.map enL)
  have e2 := e2 ls (0, p, none, none, none)
  simp only [E, C] at e
  simp [cf_place_with, e]
  have z0 : ((0 : Int) : Rat) = 0 := rfl
  cases q : foldR f (0, p, none, none, none) ls with
  | inl s' =>
    rw [q] at e2
    simp only [Rat.zero_add, z0] at e2
    simp [e2]
  | inr d =>
    rw [q] at e2
    simp only [Rat.zero_add, z0] at e2
    simp [e2]
@[simp] theorem ev_drag_at' [h : LsOk ls] [hp : Bd p m] (hm : m ≤ 120000000) : evF P (n + 4) (f_drag_at P) [.tup [.tup (ls.map enL), fr b], fr p] S = .ok (fr (dragAt ls p)) S := ev_drag_at hm
@[simp] theorem ev_place_with' [h : LsOk ls] [hp : Bd p m] (hm : m ≤ 120000000) : evF P (n + 4) (f_place_with P) [.tup [.tup (ls.map enL), fr b], fr p] S = .ok (fr (placeWith ls p)) S := ev_place_with hm
@[simp] theorem ev_is_place [h : LsOk ls] [hp : Bd p m] (hm : m ≤ 120000000) : evF P (n + 4) (f_is_place P) [.tup [.tup (ls.map enL), fr b], fr p] S = .ok (.bl (decide (0 ≤ p) && decide (p ≤ allSteps ls))) S := by
  rw [evF_at (p_is_place P) rfl rfl]
  have q : 14 + m ≤ 130000000 := by omega
  by_cases c : 0 ≤ p
  · by_cases c2 : ((allSteps ls : Int) : Rat) < p
    · simp [cf_is_place, c, ev_is_less q, c2, Rat.not_le.mpr c2]
    · simp [cf_is_place, c, ev_is_less q, c2, Rat.not_lt.mp c2]
  · simp [cf_is_place, c]
/-! leaks -/
abbrev Leak := Rat × Rat
def enK (x : Leak) : D := .tup [fr x.1, fr x.2]
/-- leaks of a cable; sizes of places and drags -/
class KsB (ls : List Len) (xs : List Leak) (B : outParam Nat) : Prop where
  len : xs.length ≤ 6
  cap : xs.length ≤ 2 ∨ B ≤ 2000
  hB : B ≤ 500000
  lo : ∀ x ∈ xs, 0 ≤ x.1
  hi : ∀ x ∈ xs, x.1 ≤ (allSteps ls : Int)
  pos : ∀ x ∈ xs, 0 < x.2
  s1 : ∀ x ∈ xs, Bd x.1 B
  s2 : ∀ x ∈ xs, Bd x.2 B
  up : xs.Pairwise fun x y => x.1 < y.1
abbrev KsOk (ls : List Len) (xs : List Leak) : Prop := KsB ls xs 1000
theorem map_range_get {α β : Type} (xs : List α) (g : α → β) (d : α) : (List.range xs.length).map (fun k => g (xs.getD k d)) = xs.map g := by
  refine List.ext_getElem (by simp) fun i h1 h2 => ?_
  simp at h1
  simp [List.getD_eq_getElem?_getD, h1]
@[simp] theorem ev_are_leaks [h : LsOk ls] {xs : List Leak} {B : Nat} [hK : KsB ls xs B] : evF P (n + 6) (f_are_leaks P) [.tup [.tup (ls.map enL), fr b], .tup (xs.map enK)] S = .ok (.bl true) S := by
  rw [evF_at (p_are_leaks P) rfl rfl]
  have hl := hK.len
  have hlk : ∀ x ∈ xs, ∀ S, evF P (n + 5) (f_is_leak P) [.tup [.tup (ls.map enL), fr b], enK x] S = .ok (.bl true) S := fun x hx S => by
    rw [evF_at (p_is_leak P) rfl rfl]
    have i1 := hK.s1 x hx
    have hB := hK.hB
    simp [cf_is_leak, enK, hK.lo x hx, hK.hi x hx, hK.pos x hx, ev_is_place (P := P) (p := x.1) (show B ≤ 120000000 by omega)]
  have h6 : ¬ (6 < (xs.length : Int)) := by omega
  simp [cf_are_leaks, h6]
  rw [comp_map enK (fun _ => .bl true) xs [] (by simp; omega) (fun x hx => by simp [wipeD, hlk x hx])]
  have s1 : small62 0 := ⟨by decide, by decide⟩
  have s2 : small62 ((xs.length : Int) - 1) := ⟨by omega, by omega⟩
  have hr : rngD 0 ((xs.length : Int) - 1) = (List.range ((xs.length : Int) - 1 - 0).toNat).map fun k : Nat => D.int (0 + (k : Int)) := rfl
  simp [s1, s2, hr]
  have ed := comp_map (F := evF P (n + 5)) (S := S) (elt := .call (Lib.ix P 9) (.cons (.idx (.idx (.var 1) (.var 3)) (.con (.int 0))) (.cons (.idx (.idx (.var 1) (.bin .add (.var 3) (.con (.int 1)))) (.con (.int 0))) .nil))) (tg := .nm 3) (w := (List.range ((xs.length : Int) - 1).toNat).map fun k : Nat => D.int (k : Int)) (δ := [some (.tup [.tup (ls.map enL), fr b]), some (.tup (xs.map enK)), none, none]) (own := [3])
    (fun k : Nat => D.int (k : Int)) (fun _ => D.bl true) (List.range ((xs.length : Int) - 1).toNat) [] (by simp; omega) (fun k hk => by
      have hk := List.mem_range.mp hk
      have k1 : k < xs.length := by omega
      have k2 : k + 1 < xs.length := by omega
      have g1 : L2.atI (xs.map enK) (k : Int) = some (enK xs[k]) := by rw [atI_of (by omega)]; simp [k1]
      have g2 : L2.atI (xs.map enK) ((k : Int) + 1) = some (enK xs[k + 1]) := by
        rw [atI_of (by omega), show ((k : Int) + 1).toNat = k + 1 by omega]; simp [k2]
      have o1 := hK.s1 xs[k] (List.getElem_mem k1)
      have o2 := hK.s1 xs[k + 1] (List.getElem_mem k2)
      have lt : xs[k].1 < xs[k + 1].1 := List.pairwise_iff_getElem.mp hK.up k (k + 1) k1 k2 (by omega)
      have hB := hK.hB
      simp [wipeD, g1, g2, enK, lt, ev_is_less (P := P) (a := xs[k].1) (b := xs[k + 1].1) (show B + B ≤ 130000000 by omega)])
  simp at ed
  rw [ed]
  simp
@[simp] theorem ev_check_leaks [h : LsOk ls] {xs : List Leak} {B : Nat} [hK : KsB ls xs B] : evF P (n + 7) (f_check_leaks P) [.tup [.tup (ls.map enL), fr b], .tup (xs.map enK)] S = .ok .non S := by
  rw [evF_at (p_check_leaks P) rfl rfl]
  simp [cf_check_leaks]
end
end Z

/-! X, part E: stretches, measures, days. -/
namespace Z
open PySem
abbrev Sn := Rat × Rat × Rat
abbrev Stretch := Rat × Option Sn
def enSn (s : Sn) : D := .tup [fr s.1, fr s.2.1, fr s.2.2]
def enO : Option Sn → D
  | none => .non
  | some s => enSn s
def enS (s : Stretch) : D := .tup [fr s.1, enO s.2]
def bothSeen (a b : Sn) : Sn :=
  (a.1 + a.2.2 * (a.2.1 + b.1) / (a.2.2 + b.2.2 + (a.2.1 + b.1)), b.2.1 + b.2.2 * (a.2.1 + b.1) / (a.2.2 + b.2.2 + (a.2.1 + b.1)), a.2.2 * b.2.2 / (a.2.2 + b.2.2 + (a.2.1 + b.1)))
def joinO (d e : Rat) : Option Sn → Option Sn → Option Sn
  | none, none => none
  | none, some b => some (b.1 + d, b.2.1, b.2.2)
  | some a, none => some (a.1, a.2.1 + e, a.2.2)
  | some a, some b => some (bothSeen a b)
def join (s t : Stretch) : Stretch := (s.1 + t.1, joinO s.1 t.1 s.2 t.2)
section
variable {P : Nat → Option CF} [Lib P] {n : Nat} {S : Store} {m l : Nat} {a b p d e w f g : Rat} {ls : List Len}
theorem ev_join_nn [Bd d m] [Bd e l] (h : m + l ≤ 130000000) : evF P (n + 5) (f_join P) [.tup [fr d, .non], .tup [fr e, .non]] S = .ok (.tup [fr (d + e), .non]) S := by
  rw [evF_at (p_join P) rfl rfl]
  simp [cf_join, ev_add h]
theorem ev_join_sn {k : Nat} {q : Rat} {o1 o3 : D} [Bd d m] [Bd e l] [Bd q k] (h : m + l ≤ 130000000) (h2 : k + l ≤ 130000000) : evF P (n + 5) (f_join P) [.tup [fr d, .tup [o1, fr q, o3]], .tup [fr e, .non]] S = .ok (.tup [fr (d + e), .tup [o1, fr (q + e), o3]]) S := by
  rw [evF_at (p_join P) rfl rfl]
  simp [cf_join, ev_add h, ev_add (a := q) h2]
theorem ev_join_ns {k : Nat} {q : Rat} {o2 o3 : D} [Bd d m] [Bd e l] [Bd q k] (h : m + l ≤ 130000000) (h2 : k + m ≤ 130000000) : evF P (n + 5) (f_join P) [.tup [fr d, .non], .tup [fr e, .tup [fr q, o2, o3]]] S = .ok (.tup [fr (d + e), .tup [fr (q + d), o2, o3]]) S := by
  rw [evF_at (p_join P) rfl rfl]
  simp [cf_join, ev_add h, ev_add (a := q) h2]
theorem ev_both {s t : Sn} {mw me mf lw le lf : Nat} [Bd s.1 mw] [Bd s.2.1 me] [Bd s.2.2 mf] [Bd t.1 lw] [Bd t.2.1 le] [Bd t.2.2 lf] (h : mw + le + 2 * (me + mf + lw + lf) ≤ 60000000) (hz : s.2.2 + t.2.2 + (s.2.1 + t.1) ≠ 0) :
    evF P (n + 4) (f_both_seen P) [.tup [fr s.1, fr s.2.1, fr s.2.2], .tup [fr t.1, fr t.2.1, fr t.2.2]] S = .ok (enSn (bothSeen s t)) S := by
  rw [evF_at (p_both_seen P) rfl rfl]
  have q1 : me + lw ≤ 130000000 := by omega
  have q2 : mf + lf ≤ 130000000 := by omega
  have q3 : mf + lf + 1 + (me + lw + 1) ≤ 130000000 := by omega
  have q4 : mf + (me + lw + 1) ≤ 130000000 := by omega
  have q5 : lf + (me + lw + 1) ≤ 130000000 := by omega
  have q6 : mf + (me + lw + 1) + (mf + lf + 1 + (me + lw + 1) + 1) ≤ 130000000 := by omega
  have q7 : lf + (me + lw + 1) + (mf + lf + 1 + (me + lw + 1) + 1) ≤ 130000000 := by omega
  have q8 : mf + lf + (mf + lf + 1 + (me + lw + 1) + 1) ≤ 130000000 := by omega
  have q9 : mw + (mf + (me + lw + 1) + (mf + lf + 1 + (me + lw + 1) + 1)) ≤ 130000000 := by omega
  have q10 : le + (lf + (me + lw + 1) + (mf + lf + 1 + (me + lw + 1) + 1)) ≤ 130000000 := by omega
  simp [cf_both_seen, bothSeen, enSn, q1, q2, q3, q4, q5, q6, q7, q8, q9, q10, hz]
theorem ev_join_ss {s t : Sn} {mw me mf lw le lf : Nat} [Bd d m] [Bd e l] [Bd s.1 mw] [Bd s.2.1 me] [Bd s.2.2 mf] [Bd t.1 lw] [Bd t.2.1 le] [Bd t.2.2 lf] (h0 : m + l ≤ 130000000) (h : mw + le + 2 * (me + mf + lw + lf) ≤ 60000000) (hz : s.2.2 + t.2.2 + (s.2.1 + t.1) ≠ 0) :
    evF P (n + 5) (f_join P) [.tup [fr d, .tup [fr s.1, fr s.2.1, fr s.2.2]], .tup [fr e, .tup [fr t.1, fr t.2.1, fr t.2.2]]] S = .ok (.tup [fr (d + e), enSn (bothSeen s t)]) S := by
  rw [evF_at (p_join P) rfl rfl]
  simp [cf_join, ev_add h0, ev_both (P := P) h hz]
/-- a stretch, its sizes: drag, west, the others -/
structure SB (s : Stretch) (md mw m : Nat) : Prop where
  d : Bd s.1 md
  seen : ∀ q, s.2 = some q → Bd q.1 mw ∧ Bd q.2.1 m ∧ Bd q.2.2 m ∧ 0 ≤ q.1 ∧ 0 ≤ q.2.1 ∧ 0 < q.2.2
  nn : 0 ≤ s.1
theorem SB.mono {s : Stretch} {md mw m md' mw' m' : Nat} (h : SB s md mw m) (h1 : md ≤ md') (h2 : mw ≤ mw') (h3 : m ≤ m') : SB s md' mw' m' :=
  ⟨h.d.mono h1, fun q hq => let ⟨a, b, c, r⟩ := h.seen q hq; ⟨a.mono h2, b.mono h3, c.mono h3, r⟩, h.nn⟩
/-- what is seen, over one bottom: the numbers grow on by the bits that come in -/
structure IForm (q : Sn) (N : Nat) : Prop where
  ex : ∃ a b e c g : Int, 0 < c ∧ q.1 = (a : Rat) / (c : Rat) ∧ q.2.1 = (b : Rat) / (c : Rat) ∧ q.2.2 = (e : Rat) / (c : Rat) ∧ a * b + a * e + b * e = c * g ∧ a.natAbs ≤ 2 ^ N ∧ b.natAbs ≤ 2 ^ N ∧ e.natAbs ≤ 2 ^ N ∧ c.natAbs ≤ 2 ^ N ∧ g.natAbs ≤ 2 ^ N
theorem IForm.bd {q : Sn} {N : Nat} (h : IForm q N) : Bd q.1 N ∧ Bd q.2.1 N ∧ Bd q.2.2 N := by
  obtain ⟨a, b, e, c, g, hc, h1, h2, h3, _, b1, b2, b3, b4, _⟩ := h.ex
  rw [h1, h2, h3]
  exact ⟨bd_div b1 b4, bd_div b2 b4, bd_div b3 b4⟩
theorem div_nonneg {a b : Rat} (h1 : 0 ≤ a) (h2 : 0 < b) : 0 ≤ a / b := by
  rw [Rat.div_def]
  exact Rat.mul_nonneg h1 (Rat.le_of_lt (Rat.inv_pos.mpr h2))
theorem div_pos {a b : Rat} (h1 : 0 < a) (h2 : 0 < b) : 0 < a / b := by
  rw [Rat.div_def]
  exact Rat.mul_pos h1 (Rat.inv_pos.mpr h2)
theorem ib_of {i : Int} {m : Nat} (h : i.natAbs ≤ 2 ^ m) : IB i m := ⟨h⟩
theorem IForm.mono {q : Sn} {N M : Nat} (h : IForm q N) (hl : N ≤ M) : IForm q M := by
  obtain ⟨a, b, e, c, g, h0, h1, h2, h3, h4, b1, b2, b3, b4, b5⟩ := h.ex
  have p := pow_le hl
  exact ⟨a, b, e, c, g, h0, h1, h2, h3, h4, by omega, by omega, by omega, by omega, by omega⟩
theorem cast_ne {c : Int} (h : 0 < c) : (c : Rat) ≠ 0 := by
  have : c ≠ 0 := by omega
  simpa using this
theorem IForm.wire {q : Sn} {N c : Nat} (h : IForm q N) [hb : Bd e c] : IForm (q.1, q.2.1 + e, q.2.2) (N + c + 2) := by
  obtain ⟨a, b, f, d, g, h0, h1, h2, h3, h4, b1, b2, b3, b4, b5⟩ := h.ex
  have i1 := ib_of b1
  have i2 := ib_of b2
  have i3 := ib_of b3
  have i4 := ib_of b4
  have i5 := ib_of b5
  have dz := cast_ne h0
  have ez := den_ne e
  have ee := rat_eq e
  have ep := den_pos e
  refine ⟨a * e.den, b * e.den + e.num * d, f * e.den, d * e.den, e.den * g + e.num * (a + f), Int.mul_pos h0 ep, ?_, ?_, ?_, ?_, ?_, ?_, ?_, ?_, ?_⟩
  · show q.1 = _
    rw [h1, Rat.intCast_mul, Rat.intCast_mul]
    generalize ((e.den : Int) : Rat) = v at *
    grind
  · show q.2.1 + e = _
    rw [h2, Rat.intCast_mul, Rat.intCast_add, Rat.intCast_mul, Rat.intCast_mul]
    generalize (e.num : Rat) = n at *
    generalize ((e.den : Int) : Rat) = v at *
    rw [ee]
    grind
  · show q.2.2 = _
    rw [h3, Rat.intCast_mul, Rat.intCast_mul]
    generalize ((e.den : Int) : Rat) = v at *
    grind
  · generalize (e.den : Int) = v at *
    generalize e.num = n at *
    grind
  · exact (IB.mono (m := N + c) inferInstance (by omega) : IB (a * e.den) _).n
  · exact (IB.mono (i := b * e.den + e.num * d) (m := N + c + 1) ⟨by
      have x1 : (b * e.den).natAbs ≤ 2 ^ (N + c) := IB.n
      have x2 : (e.num * d).natAbs ≤ 2 ^ (N + c) := by rw [Nat.add_comm]; exact IB.n
      rw [Nat.pow_succ]; omega⟩ (by omega)).n
  · exact (IB.mono (m := N + c) inferInstance (by omega) : IB (f * e.den) _).n
  · exact (IB.mono (m := N + c) inferInstance (by omega) : IB (d * e.den) _).n
  · have x1 : (e.den * g : Int).natAbs ≤ 2 ^ (N + c) := by rw [Nat.add_comm]; exact IB.n
    have x2 : (e.num * a).natAbs ≤ 2 ^ (N + c) := by rw [Nat.add_comm]; exact IB.n
    have x3 : (e.num * f).natAbs ≤ 2 ^ (N + c) := by rw [Nat.add_comm]; exact IB.n
    rw [Int.mul_add, Nat.pow_succ, Nat.pow_succ]
    omega
theorem ddiv (x : Rat) {R s : Rat} (hR : R ≠ 0) (hs : s ≠ 0) : x / (R / s) = x * s / R := by
  obtain ⟨y, hy⟩ : ∃ y, y = R / s := ⟨_, rfl⟩
  have e : R = y * s := by rw [hy]; grind
  have y0 : y ≠ 0 := fun z => hR (by rw [e, z]; grind)
  rw [← hy, e]
  grind
theorem IForm.leak {q : Sn} {N c : Nat} (h : IForm q N) [hb : Bd g c] (hg : 0 < g) (hp : 0 ≤ q.2.1 ∧ 0 < q.2.2) : IForm (bothSeen q (0, 0, g)) (N + c + 2) := by
  obtain ⟨a, b, f, d, k, h0, h1, h2, h3, h4, b1, b2, b3, b4, b5⟩ := h.ex
  have i1 := ib_of b1
  have i2 := ib_of b2
  have i3 := ib_of b3
  have i4 := ib_of b4
  have i5 := ib_of b5
  have dz := cast_ne h0
  have gz := den_ne g
  have ge := rat_eq g
  have gp := den_pos g
  have gn := num_pos.mpr hg
  have dr : (0 : Rat) < (d : Rat) := by
    have := Rat.intCast_lt_intCast.mpr h0
    simpa using this
  have b0 : 0 ≤ b := by
    have : (0 : Rat) ≤ (b : Rat) := by
      have e : (b : Rat) = q.2.1 * d := by rw [h2]; grind
      rw [e]
      exact Rat.mul_nonneg hp.1 (Rat.le_of_lt dr)
    have := Rat.intCast_le_intCast.mp (show ((0 : Int) : Rat) ≤ (b : Rat) by simpa using this)
    exact this
  have f0 : 0 ≤ f := by
    have : (0 : Rat) ≤ (f : Rat) := by
      have e : (f : Rat) = q.2.2 * d := by rw [h3]; grind
      rw [e]
      exact Rat.mul_nonneg (Rat.le_of_lt hp.2) (Rat.le_of_lt dr)
    have := Rat.intCast_le_intCast.mp (show ((0 : Int) : Rat) ≤ (f : Rat) by simpa using this)
    exact this
  have Rp : 0 < (g.den : Int) * (f + b) + g.num * d := by
    have := Int.mul_nonneg (Int.le_of_lt gp) (show 0 ≤ f + b by omega)
    have := Int.mul_pos gn h0
    omega
  have Rz := cast_ne Rp
  rw [Rat.intCast_add, Rat.intCast_mul, Rat.intCast_mul, Rat.intCast_add] at Rz
  have e4 : (a : Rat) * b + a * f + b * f = d * k := by
    have := congrArg (fun z : Int => (z : Rat)) h4
    simpa [Rat.intCast_add, Rat.intCast_mul] using this
  refine ⟨g.den * k + g.num * a, g.num * b, g.num * f, g.den * (f + b) + g.num * d, g.num * k, Rp, ?_, ?_, ?_, ?_, ?_, ?_, ?_, ?_, ?_⟩
  · show q.1 + q.2.2 * (q.2.1 + 0) / (q.2.2 + g + (q.2.1 + 0)) = _
    rw [h1, h2, h3, Rat.intCast_add, Rat.intCast_mul, Rat.intCast_mul, Rat.intCast_add, Rat.intCast_mul, Rat.intCast_mul, Rat.intCast_add]
    generalize (g.num : Rat) = u at *
    generalize ((g.den : Int) : Rat) = v at *
    subst ge
    generalize (a : Rat) = A at *
    generalize (b : Rat) = B at *
    generalize (f : Rat) = F at *
    generalize (d : Rat) = C at *
    generalize (k : Rat) = G at *
    have z : F / C + u / v + (B / C + 0) = (v * (F + B) + u * C) / (C * v) := by grind
    have z3 : A * (v * (F + B) + u * C) + F * B * v = C * (v * G + u * A) := by grind
    have zc : C * v ≠ 0 := fun e => by rcases Rat.mul_eq_zero.mp e with h | h <;> contradiction
    rw [z, ddiv _ Rz zc]
    generalize v * (F + B) + u * C = R at *
    grind
  · show 0 + g * (q.2.1 + 0) / (q.2.2 + g + (q.2.1 + 0)) = _
    rw [h2, h3, Rat.intCast_add, Rat.intCast_mul, Rat.intCast_mul, Rat.intCast_add, Rat.intCast_mul]
    generalize (g.num : Rat) = u at *
    generalize ((g.den : Int) : Rat) = v at *
    subst ge
    generalize (b : Rat) = B at *
    generalize (f : Rat) = F at *
    generalize (d : Rat) = C at *
    have z : F / C + u / v + (B / C + 0) = (v * (F + B) + u * C) / (C * v) := by grind
    have zc : C * v ≠ 0 := fun e => by rcases Rat.mul_eq_zero.mp e with h | h <;> contradiction
    rw [z, ddiv _ Rz zc]
    generalize v * (F + B) + u * C = R at *
    grind
  · show q.2.2 * g / (q.2.2 + g + (q.2.1 + 0)) = _
    rw [h2, h3, Rat.intCast_add, Rat.intCast_mul, Rat.intCast_mul, Rat.intCast_add, Rat.intCast_mul]
    generalize (g.num : Rat) = u at *
    generalize ((g.den : Int) : Rat) = v at *
    subst ge
    generalize (b : Rat) = B at *
    generalize (f : Rat) = F at *
    generalize (d : Rat) = C at *
    have z : F / C + u / v + (B / C + 0) = (v * (F + B) + u * C) / (C * v) := by grind
    have zc : C * v ≠ 0 := fun e => by rcases Rat.mul_eq_zero.mp e with h | h <;> contradiction
    rw [z, ddiv _ Rz zc]
    generalize v * (F + B) + u * C = R at *
    grind
  · generalize (g.den : Int) = v at *
    generalize g.num = u at *
    have t1 : (v * k + u * a) * (u * b) + (v * k + u * a) * (u * f) + u * b * (u * f) = u * (v * k * (b + f)) + u * u * (a * b + a * f + b * f) := by grind
    rw [t1, h4]
    grind
  · have x1 : (g.den * k : Int).natAbs ≤ 2 ^ (N + c) := by rw [Nat.add_comm]; exact IB.n
    have x2 : (g.num * a).natAbs ≤ 2 ^ (N + c) := by rw [Nat.add_comm]; exact IB.n
    rw [Nat.pow_succ, Nat.pow_succ]; omega
  · exact (IB.mono (m := c + N) inferInstance (by omega) : IB (g.num * b) _).n
  · exact (IB.mono (m := c + N) inferInstance (by omega) : IB (g.num * f) _).n
  · have x1 : (g.den * f : Int).natAbs ≤ 2 ^ (N + c) := by rw [Nat.add_comm]; exact IB.n
    have x2 : (g.den * b : Int).natAbs ≤ 2 ^ (N + c) := by rw [Nat.add_comm]; exact IB.n
    have x3 : (g.num * d).natAbs ≤ 2 ^ (N + c) := by rw [Nat.add_comm]; exact IB.n
    rw [Int.mul_add, Nat.pow_succ, Nat.pow_succ]; omega
  · exact (IB.mono (m := c + N) inferInstance (by omega) : IB (g.num * k) _).n
theorem IForm.first {c : Nat} [hd : Bd d m] [hb : Bd g c] : IForm (0 + d, 0, g) (m + c) := by
  have dz := den_ne d
  have gz := den_ne g
  have de := rat_eq d
  have ge := rat_eq g
  refine ⟨d.num * g.den, 0, g.num * d.den, d.den * g.den, d.num * g.num, Int.mul_pos (den_pos d) (den_pos g), ?_, ?_, ?_, by grind, ?_, by simp, ?_, ?_, ?_⟩
  · show 0 + d = _
    rw [Rat.intCast_mul, Rat.intCast_mul]
    generalize (d.num : Rat) = n at *
    generalize ((d.den : Int) : Rat) = v at *
    generalize ((g.den : Int) : Rat) = w at *
    grind
  · show (0 : Rat) = ((0 : Int) : Rat) / _
    simp [Rat.div_def]
  · show g = _
    rw [Rat.intCast_mul, Rat.intCast_mul]
    generalize (g.num : Rat) = n at *
    generalize ((d.den : Int) : Rat) = v at *
    generalize ((g.den : Int) : Rat) = w at *
    grind
  · exact (inferInstance : IB (d.num * g.den) (m + c)).n
  · exact (IB.mono (m := c + m) inferInstance (by omega) : IB (g.num * d.den) (m + c)).n
  · exact (inferInstance : IB ((d.den : Int) * g.den) (m + c)).n
  · exact (inferInstance : IB (d.num * g.num) (m + c)).n
/-- a stretch in the making: its drag, what is seen over one bottom -/
structure ST (s : Stretch) (md N : Nat) : Prop where
  d : Bd s.1 md
  nn : 0 ≤ s.1
  seen : ∀ q, s.2 = some q → IForm q N ∧ 0 ≤ q.1 ∧ 0 ≤ q.2.1 ∧ 0 < q.2.2
theorem ev_join_wire {s : Stretch} {md N c : Nat} (h : ST s md N) [Bd e c] (he : 0 ≤ e) (h1 : md + c ≤ 130000000) (h2 : N + c ≤ 130000000) :
    (∀ n S, evF P (n + 5) (f_join P) [enS s, .tup [fr e, .non]] S = .ok (enS (join s (e, none))) S) ∧ ST (join s (e, none)) (md + c + 1) (N + c + 2) := by
  obtain ⟨d, o⟩ := s
  have i1 : Bd d md := h.d
  have nn : 0 ≤ d := h.nn
  cases o with
  | none =>
    refine ⟨fun n S => ev_join_nn (P := P) (d := d) h1, (inferInstance : Bd (d + e) _), ?_, fun q hq => ?_⟩
    · show 0 ≤ d + e
      grind
    · cases hq
  | some q =>
    obtain ⟨fq, p1, p2, p3⟩ := h.seen q rfl
    obtain ⟨i2, i3, i4⟩ := fq.bd
    refine ⟨fun n S => ev_join_sn (P := P) (d := d) (q := q.2.1) h1 h2, (inferInstance : Bd (d + e) _), ?_, fun q' hq => ?_⟩
    · show 0 ≤ d + e
      grind
    · cases hq
      exact ⟨fq.wire, p1, by show 0 ≤ q.2.1 + e; grind, p3⟩
theorem ev_join_leak {s : Stretch} {md N c : Nat} (h : ST s md N) [Bd g c] (hg : 0 < g) (h1 : md ≤ 120000000) (h2 : 5 * N + 2 * c ≤ 60000000) (h3 : md ≤ N) :
    (∀ n S, evF P (n + 5) (f_join P) [enS s, .tup [fr 0, .tup [fr 0, fr 0, fr g]]] S = .ok (enS (join s (0, some (0, 0, g)))) S) ∧ ST (join s (0, some (0, 0, g))) (md + 1) (N + c + 2) := by
  obtain ⟨d, o⟩ := s
  have i1 : Bd d md := h.d
  have nn : 0 ≤ d := h.nn
  cases o with
  | none =>
    have q1 : md + 0 ≤ 130000000 := by omega
    have q2 : 0 + md ≤ 130000000 := by omega
    refine ⟨fun n S => ev_join_ns (P := P) (d := d) (e := 0) (q := 0) q1 q2, ?_, ?_, fun q hq => ?_⟩
    · show Bd (d + 0) _
      exact Bd.mono (m := md + 0 + 1) inferInstance (by omega)
    · show 0 ≤ d + 0
      grind
    · cases hq
      exact ⟨IForm.first.mono (by omega), by show 0 ≤ 0 + d; grind, Rat.le_refl, hg⟩
  | some q =>
    obtain ⟨fq, p1, p2, p3⟩ := h.seen q rfl
    obtain ⟨i2, i3, i4⟩ := fq.bd
    have q1 : md + 0 ≤ 130000000 := by omega
    have q2 : N + 0 + 2 * (N + N + 0 + c) ≤ 60000000 := by omega
    have rp : 0 < q.2.2 + g + (q.2.1 + 0) := by grind
    have rz : q.2.2 + g + (q.2.1 + 0) ≠ 0 := fun e => by rw [e] at rp; exact absurd rp Rat.lt_irrefl
    refine ⟨fun n S => ?_, ?_, ?_, fun q' hq => ?_⟩
    · have e := ev_join_ss (P := P) (n := n) (S := S) (d := d) (e := 0) (s := q) (t := (0, 0, g)) q1 q2 rz
      simp only [enS, enO, enSn, join, joinO] at e ⊢
      exact e
    · show Bd (d + 0) _
      exact Bd.mono (m := md + 0 + 1) inferInstance (by omega)
    · show 0 ≤ d + 0
      grind
    · cases hq
      refine ⟨fq.leak hg ⟨p2, p3⟩, ?_, ?_, ?_⟩
      · show 0 ≤ q.1 + q.2.2 * (q.2.1 + 0) / (q.2.2 + g + (q.2.1 + 0))
        have := div_nonneg (Rat.mul_nonneg (Rat.le_of_lt p3) (show 0 ≤ q.2.1 + 0 by grind)) rp
        grind
      · show 0 ≤ 0 + g * (q.2.1 + 0) / (q.2.2 + g + (q.2.1 + 0))
        have := div_nonneg (Rat.mul_nonneg (Rat.le_of_lt hg) (show 0 ≤ q.2.1 + 0 by grind)) rp
        grind
      · exact div_pos (Rat.mul_pos p3 hg) rp
/-! drags by places: order -/
theorem dragAt_nonneg : ∀ {ls : List Len} {p : Rat}, (∀ x ∈ ls, LenOk x) → 0 ≤ p → 0 ≤ dragAt ls p
  | [], p, _, _ => by simp [dragAt]
  | x :: ls, p, h, hp => by
    have hx := h x List.mem_cons_self
    have h0 := hx.pos
    unfold dragAt
    split
    · rename_i c
      have ih := dragAt_nonneg (ls := ls) (p := p - x.1) (fun y hy => h y (List.mem_cons_of_mem _ hy)) (by grind)
      have h1 : (0 : Rat) ≤ (x.1 : Rat) := by
        have := Rat.intCast_le_intCast.mpr (show (0 : Int) ≤ x.1 by have := hx.lo; omega)
        simpa using this
      have := Rat.mul_nonneg h1 (Rat.le_of_lt h0)
      grind
    · exact Rat.mul_nonneg hp (Rat.le_of_lt h0)
theorem lenPos {x : Len} (h : LenOk x) : (0 : Rat) < (x.1 : Rat) := by
  have := Rat.intCast_lt_intCast.mpr (show (0 : Int) < x.1 by have := h.lo; omega)
  simpa using this
theorem allSteps_cons {x : Len} {ls : List Len} : ((allSteps (x :: ls) : Int) : Rat) = (x.1 : Rat) + ((allSteps ls : Int) : Rat) := by simp [allSteps, Rat.intCast_add]
theorem allDrag_cons {x : Len} {ls : List Len} : allDrag (x :: ls) = (x.1 : Rat) * x.2 + allDrag ls := by simp [allDrag]
theorem dragAt_mono : ∀ {ls : List Len} {p q : Rat}, (∀ x ∈ ls, LenOk x) → 0 ≤ p → p < q → q ≤ (allSteps ls : Int) → dragAt ls p < dragAt ls q
  | [], p, q, _, h0, h1, h2 => by
    have : ((allSteps [] : Int) : Rat) = 0 := rfl
    rw [this] at h2
    grind
  | x :: ls, p, q, h, h0, h1, h2 => by
    have hx := h x List.mem_cons_self
    have hr := fun y hy => h y (List.mem_cons_of_mem _ hy)
    have xp := hx.pos
    rw [allSteps_cons] at h2
    unfold dragAt
    by_cases c : (x.1 : Rat) < p
    · rw [if_pos c, if_pos (by grind)]
      have := dragAt_mono (ls := ls) (p := p - x.1) (q := q - x.1) hr (by grind) (by grind) (by grind)
      grind
    · rw [if_neg c]
      by_cases c2 : (x.1 : Rat) < q
      · rw [if_pos c2]
        have n := dragAt_mono (ls := ls) (p := 0) (q := q - x.1) hr (by grind) (by grind) (by grind)
        have n0 := dragAt_nonneg (ls := ls) (p := 0) hr (by grind)
        have := Rat.mul_le_mul_of_nonneg_right (show p ≤ (x.1 : Rat) by grind) (Rat.le_of_lt xp)
        grind
      · rw [if_neg c2]
        exact Rat.mul_lt_mul_of_pos_right h1 xp
theorem dragAt_le {ls : List Len} {p q : Rat} (h : ∀ x ∈ ls, LenOk x) (h0 : 0 ≤ p) (h1 : p ≤ q) (h2 : q ≤ (allSteps ls : Int)) : dragAt ls p ≤ dragAt ls q := by
  by_cases e : p = q
  · subst e; exact Rat.le_refl
  · exact Rat.le_of_lt (dragAt_mono h h0 (by grind) h2)
theorem dragAt_zero : ∀ {ls : List Len}, (∀ x ∈ ls, LenOk x) → dragAt ls 0 = 0
  | [], _ => rfl
  | x :: ls, h => by
    have := lenPos (h x List.mem_cons_self)
    unfold dragAt
    rw [if_neg (by grind), Rat.zero_mul]
theorem dragAt_end : ∀ {ls : List Len}, (∀ x ∈ ls, LenOk x) → dragAt ls (allSteps ls : Int) = allDrag ls
  | [], _ => rfl
  | x :: ls, h => by
    have hx := lenPos (h x List.mem_cons_self)
    have hr := fun y hy => h y (List.mem_cons_of_mem _ hy)
    have ih := dragAt_end hr
    have sp := steps_pos hr
    have s0 : (0 : Rat) ≤ ((allSteps ls : Int) : Rat) := by
      have := Rat.intCast_le_intCast.mpr sp.1
      simpa using this
    unfold dragAt
    rw [allSteps_cons, allDrag_cons]
    by_cases c : (x.1 : Rat) < (x.1 : Rat) + ((allSteps ls : Int) : Rat)
    · rw [if_pos c]
      have e : (x.1 : Rat) + ((allSteps ls : Int) : Rat) - (x.1 : Rat) = ((allSteps ls : Int) : Rat) := by grind
      rw [e, ih]
    · rw [if_neg c]
      have e : ((allSteps ls : Int) : Rat) = 0 := by grind
      rw [e] at ih ⊢
      rw [dragAt_zero hr] at ih
      rw [← ih]
      grind
theorem dragAt_hi {ls : List Len} {p : Rat} (h : ∀ x ∈ ls, LenOk x) (h0 : 0 ≤ p) (h1 : p ≤ (allSteps ls : Int)) : dragAt ls p ≤ allDrag ls := by
  rw [← dragAt_end h]
  exact dragAt_le h h0 h1 Rat.le_refl
end
end Z

/-! X, part F: the stretch of leaks; readings, days. -/
namespace Z
open PySem
def stStep (ls : List Len) (t : Stretch × Rat) (x : Leak) : Stretch × Rat := (join (join t.1 (dragAt ls x.1 - t.2, none)) (0, some (0, 0, x.2)), dragAt ls x.1)
def stretchBy (ls : List Len) (xs : List Leak) : Stretch := join (xs.foldl (stStep ls) ((0, none), 0)).1 (allDrag ls - (xs.foldl (stStep ls) ((0, none), 0)).2, none)
def nB (B : Nat) : Nat := 8 * (3 * B + 1500)
def nK (B : Nat) : Nat → Nat
  | 0 => 3 * B + 1500
  | k + 1 => nK B k + (3 * B + 1500)
theorem nK_mono {B j k : Nat} (h : j ≤ k) : nK B j ≤ nK B k := by
  induction k with
  | zero => have : j = 0 := by omega
            subst this; exact Nat.le_refl _
  | succ k ih =>
    by_cases e : j = k + 1
    · subst e; exact Nat.le_refl _
    · have := ih (by omega)
      have e : nK B (k + 1) = nK B k + (3 * B + 1500) := rfl
      omega
theorem nK5 (B : Nat) : nK B 5 = 18 * B + 9000 := by
  show 3 * B + 1500 + (3 * B + 1500) + (3 * B + 1500) + (3 * B + 1500) + (3 * B + 1500) + (3 * B + 1500) = _
  omega
theorem nK6 (B : Nat) : nK B 6 = 21 * B + 10500 := by
  have := nK5 B
  have e : nK B 6 = nK B 5 + (3 * B + 1500) := rfl
  omega
/-- so many leaks are joined, these are ahead -/
structure StI (ls : List Len) (B k : Nat) (xs : List Leak) (t : Stretch × Rat) : Prop where
  len : k + xs.length ≤ 6
  hB : B ≤ 500000
  lo : ∀ x ∈ xs, 0 ≤ x.1
  hi : ∀ x ∈ xs, x.1 ≤ (allSteps ls : Int)
  pos : ∀ x ∈ xs, 0 < x.2
  s1 : ∀ x ∈ xs, Bd x.1 B
  s2 : ∀ x ∈ xs, Bd x.2 B
  up : xs.Pairwise fun x y => x.1 < y.1
  h0 : 0 ≤ t.2
  hm : ∀ x ∈ xs, t.2 ≤ dragAt ls x.1
  he : t.2 ≤ allDrag ls
  hb : Bd t.2 (B + 480)
  eq : t.1.1 = t.2
  st : ∀ q, t.1.2 = some q → IForm q (nK B k) ∧ 0 ≤ q.1 ∧ 0 ≤ q.2.1 ∧ 0 < q.2.2
section
variable {P : Nat → Option CF} [Lib P] {n : Nat} {S : Store} {m l B k : Nat} {a b p d e w f g : Rat} {ls : List Len} {xs : List Leak}
theorem StI.ST {t : Stretch × Rat} (I : StI ls B k xs t) : ST t.1 (B + 480) (nK B k) := ⟨by rw [I.eq]; exact I.hb, by rw [I.eq]; exact I.h0, I.st⟩
theorem StI.step [h : LsOk ls] {x : Leak} {t : Stretch × Rat} (I : StI ls B k (x :: xs) t) :
    (∀ n S, evF P (n + 5) (f_join P) [enS t.1, .tup [fr (dragAt ls x.1 - t.2), .non]] S = .ok (enS (join t.1 (dragAt ls x.1 - t.2, none))) S) ∧
    (∀ n S, evF P (n + 5) (f_join P) [enS (join t.1 (dragAt ls x.1 - t.2, none)), .tup [fr 0, .tup [fr 0, fr 0, fr x.2]]] S = .ok (enS (stStep ls t x).1) S) ∧ StI ls B (k + 1) xs (stStep ls t x) := by
  have hl := I.len
  simp at hl
  have hB := I.hB
  have i1 : Bd x.1 B := I.s1 x List.mem_cons_self
  have i2 : Bd x.2 B := I.s2 x List.mem_cons_self
  have i3 := I.hb
  have hN := nK_mono (B := B) (show k ≤ 5 by omega)
  have hN2 := nK_mono (B := B) (show 0 ≤ k by omega)
  have hN0 : nK B 0 = 3 * B + 1500 := rfl
  have hN3 : nK B (k + 1) = nK B k + (3 * B + 1500) := rfl
  rw [nK5] at hN
  rw [hN0] at hN2
  have st := I.ST
  obtain ⟨a1, a2⟩ := ev_join_wire (P := P) (e := dragAt ls x.1 - t.2) (c := B + 480 + (B + 480) + 1) st (by have := I.hm x List.mem_cons_self; grind) (by omega) (by omega)
  obtain ⟨b1, b2⟩ := ev_join_leak (P := P) (g := x.2) (c := B) a2 (I.pos x List.mem_cons_self) (by omega) (by omega) (by omega)
  have hlo := I.lo x List.mem_cons_self
  have hhi := I.hi x List.mem_cons_self
  have up := List.pairwise_cons.mp I.up
  refine ⟨a1, b1, by omega, hB, fun y hy => I.lo y (List.mem_cons_of_mem _ hy), fun y hy => I.hi y (List.mem_cons_of_mem _ hy), fun y hy => I.pos y (List.mem_cons_of_mem _ hy), fun y hy => I.s1 y (List.mem_cons_of_mem _ hy), fun y hy => I.s2 y (List.mem_cons_of_mem _ hy), up.2, ?_, fun y hy => ?_, ?_, ?_, ?_, fun q hq => ?_⟩
  · exact dragAt_nonneg h.len hlo
  · exact dragAt_le h.len hlo (Rat.le_of_lt (up.1 y hy)) (I.hi y (List.mem_cons_of_mem _ hy))
  · exact dragAt_hi h.len hlo hhi
  · show Bd (dragAt ls x.1) (B + 480)
    infer_instance
  · show t.1.1 + (dragAt ls x.1 - t.2) + 0 = dragAt ls x.1
    rw [I.eq]
    grind
  · obtain ⟨f1, f2⟩ := b2.seen q hq
    exact ⟨f1.mono (by omega), f2⟩
theorem dr_nn [h : LsOk ls] : 0 ≤ allDrag ls := by
  have sp := steps_pos h.len
  have s0 : (0 : Rat) ≤ ((allSteps ls : Int) : Rat) := by
    have := Rat.intCast_le_intCast.mpr sp.1
    simpa using this
  rw [← dragAt_end h.len]
  exact dragAt_nonneg h.len s0
theorem st_init [hK : KsB ls xs B] [h : LsOk ls] : StI ls B 0 xs ((0, none), 0) :=
  ⟨by have := hK.len; omega, hK.hB, hK.lo, hK.hi, hK.pos, hK.s1, hK.s2, hK.up, Rat.le_refl, fun x hx => dragAt_nonneg h.len (hK.lo x hx), dr_nn, Bd.mono (m := 0) inferInstance (by omega), rfl, fun q hq => by cases hq⟩
theorem st_fold (P : Nat → Option CF) [Lib P] [h : LsOk ls] : ∀ (xs : List Leak) (k : Nat) (t : Stretch × Rat), StI ls B k xs t → ∃ j, StI ls B j [] (xs.foldl (stStep ls) t)
  | [], k, t, I => ⟨k, I⟩
  | x :: xs, k, t, I => st_fold P xs (k + 1) _ (I.step (P := P)).2.2
theorem st_last [h : LsOk ls] {t : Stretch × Rat} (I : StI ls B k [] t) :
    (∀ n S, evF P (n + 5) (f_join P) [enS t.1, .tup [fr (allDrag ls - t.2), .non]] S = .ok (enS (join t.1 (allDrag ls - t.2, none))) S) ∧ SB (join t.1 (allDrag ls - t.2, none)) 300 (nB B) (nB B) := by
  have i3 := I.hb
  have hl := I.len
  simp at hl
  have hB := I.hB
  have hN := nK_mono (B := B) (show k ≤ 6 by omega)
  rw [nK6] at hN
  have st := I.ST
  generalize nK B k = N at *
  obtain ⟨a1, a2⟩ := ev_join_wire (P := P) (e := allDrag ls - t.2) (c := 252 + (B + 480) + 1) st (by have := I.he; grind) (by omega) (by omega)
  refine ⟨a1, ?_, fun q hq => ?_, a2.nn⟩
  · have : (join t.1 (allDrag ls - t.2, none)).1 = allDrag ls := by
      show t.1.1 + (allDrag ls - t.2) = allDrag ls
      rw [I.eq]
      grind
    rw [this]
    exact Bd.mono (m := 252) inferInstance (by omega)
  · obtain ⟨f1, f2⟩ := a2.seen q hq
    obtain ⟨g1, g2, g3⟩ := f1.bd
    have : N + (252 + (B + 480) + 1) + 2 ≤ nB B := by unfold nB; omega
    exact ⟨g1.mono this, g2.mono this, g3.mono this, f2⟩
theorem sb_stretch (P : Nat → Option CF) [Lib P] [h : LsOk ls] [hK : KsB ls xs B] : SB (stretchBy ls xs) 300 (nB B) (nB B) := by
  obtain ⟨j, I⟩ := st_fold P xs 0 _ (st_init (ls := ls) (xs := xs))
  exact (st_last (P := P) I).2
@[simp] theorem ev_stretch_by [h : LsOk ls] [hK : KsB ls xs B] : evF P (n + 6) (f_stretch_by P) [.tup [.tup (ls.map enL), fr b], .tup (xs.map enK)] S = .ok (enS (stretchBy ls xs)) S := by
  rw [evF_at (p_stretch_by P) rfl rfl]
  let E : (Stretch × Rat) × Option D × Option D × Option D → Env := fun s => [some (.tup [.tup (ls.map enL), fr b]), some (.tup (xs.map enK)), some (enS s.1.1), some (fr s.1.2), s.2.1, s.2.2.1, s.2.2.2]
  let f : (Stretch × Rat) × Option D × Option D × Option D → Leak → (Stretch × Rat) × Option D × Option D × Option D := fun s x => (stStep ls s.1 x, some (fr x.1), some (fr x.2), some (fr (dragAt ls x.1)))
  have e := for_fold (body := run (evF P (n + 5)) (cb_stretch_by_1 (Lib.ix P))) (tg := .tp (.cons (.nm 4) (.cons (.nm 5) .nil))) (S := S) (ws := xs.map enK) enK E f (fun xs s => ∃ k, StI ls B k xs s.1)
    (fun x ys s ⟨k, I⟩ => by
      obtain ⟨a1, a2, a3⟩ := I.step (P := P)
      refine ⟨?_, k + 1, a3⟩
      have i1 : Bd x.1 B := I.s1 x List.mem_cons_self
      have i3 := I.hb
      have hB := I.hB
      have e1 := fun S => a1 n S
      have e2 := fun S => a2 n S
      have e2' : ∀ S, evF P (n + 5) (f_join P) [enS (join s.1.1 (dragAt ls x.1 - s.1.2, none)), .tup [fr 0, .tup [fr 0, fr 0, fr x.2]]] S = .ok (enS (join (join s.1.1 (dragAt ls x.1 - s.1.2, none)) (0, some (0, 0, x.2)))) S := e2
      simp [E, f, enK, cb_stretch_by_1, e1, e2', stStep, ev_drag_at (P := P) (ls := ls) (p := x.1) (show B ≤ 120000000 by omega), ev_less (P := P) (a := dragAt ls x.1) (b := s.1.2) (show B + 480 + (B + 480) ≤ 130000000 by omega)]) xs (((0, none), 0), none, none, none) ⟨0, st_init⟩
  have key : ∀ (ys : List Leak) (s : (Stretch × Rat) × Option D × Option D × Option D), (ys.foldl f s).1 = ys.foldl (stStep ls) s.1 := fun ys => by
    induction ys with
    | nil => intro s; rfl
    | cons y ys ih => intro s; rw [List.foldl_cons, ih]; rfl
  obtain ⟨j, I⟩ := st_fold P xs 0 _ (st_init (ls := ls) (xs := xs))
  have hl := st_last (P := P) I
  have k := key xs (((0, none), 0), none, none, none)
  have hb := I.hb
  have hB := I.hB
  have e1 := fun S => hl.1 n S
  simp only [E, enS, enO] at e
  simp only [enS, enO] at e1
  have z : ((0 : Int) : Rat) = 0 := rfl
  simp [cf_stretch_by, e, k, e1, ev_less (P := P) (a := allDrag ls) (show 252 + (B + 480) ≤ 130000000 by omega)]
  rfl
end
end Z

/-! X, part G: readings, measures, days. -/
namespace Z
open PySem
def enQ : Option Rat → D
  | none => .non
  | some q => fr q
def besideOf (f g : Rat) : Rat := f * g / (f + g)
def readingOf (k : Nat) (s : Stretch) (back : Rat) : Option Rat := match s.2 with
  | none => (match k with
    | 0 => none
    | 1 => none
    | 2 => some s.1
    | 3 => some s.1
    | _ => some (back + s.1))
  | some q => some (match k with
    | 0 => q.1 + q.2.2
    | 1 => q.2.1 + q.2.2
    | 2 => q.1 + besideOf q.2.2 q.2.1
    | 3 => q.2.1 + besideOf q.2.2 q.1
    | _ => back + (q.1 + q.2.1))
section
variable {P : Nat → Option CF} [Lib P] {n : Nat} {S : Store} {m l k : Nat} {a b p d e w f g : Rat} {ls : List Len} {xs : List Leak}
@[simp] theorem blt_int_bl {b : Bool} : bltEv .int [.bl b] S = some (.int (if b then 1 else 0)) := rfl
@[simp] theorem blt_int_int {i : Int} : bltEv .int [.int i] S = some (.int i) := rfl
theorem ev_beside [Bd f m] [Bd g l] (h : m + l ≤ 60000000) (hz : f + g ≠ 0) : evF P (n + 4) (f_beside P) [fr f, fr g] S = .ok (fr (besideOf f g)) S := by
  rw [evF_at (p_beside P) rfl rfl]
  have q1 : m + l ≤ 130000000 := by omega
  have q2 : m + l + (m + l + 1) ≤ 130000000 := by omega
  simp [cf_beside, besideOf, q1, q2, hz]
theorem s_west_free_loop : cmpEv .eq (.str "west free") (.str "loop") S = some (.bl false) := by rw [eq_ev (by decide +kernel) (by decide +kernel)]; rfl
theorem s_west_free_earth : cmpEv .isin (.str "west free") (.tup [.str "west earth", .str "east earth"]) S = some (.bl false) := by rfl
theorem s_west_free_east : cmpEv .isin (.str "west free") (.tup [.str "east free", .str "east earth"]) S = some (.bl false) := by rfl
theorem s_west_free_free : cmpEv .isin (.str "west free") (.tup [.str "west free", .str "east free"]) S = some (.bl true) := by rfl
theorem s_west_free_all : cmpEv .notin (.str "west free") (.tup [.str "west free", .str "east free", .str "west earth", .str "east earth", .str "loop"]) S = some (.bl false) := by rfl
theorem s_west_free_isi : isiEv (.str "west free") .str S = some true := by rfl
theorem s_east_free_loop : cmpEv .eq (.str "east free") (.str "loop") S = some (.bl false) := by rw [eq_ev (by decide +kernel) (by decide +kernel)]; rfl
theorem s_east_free_earth : cmpEv .isin (.str "east free") (.tup [.str "west earth", .str "east earth"]) S = some (.bl false) := by rfl
theorem s_east_free_east : cmpEv .isin (.str "east free") (.tup [.str "east free", .str "east earth"]) S = some (.bl true) := by rfl
theorem s_east_free_free : cmpEv .isin (.str "east free") (.tup [.str "west free", .str "east free"]) S = some (.bl true) := by rfl
theorem s_east_free_all : cmpEv .notin (.str "east free") (.tup [.str "west free", .str "east free", .str "west earth", .str "east earth", .str "loop"]) S = some (.bl false) := by rfl
theorem s_east_free_isi : isiEv (.str "east free") .str S = some true := by rfl
theorem s_west_earth_loop : cmpEv .eq (.str "west earth") (.str "loop") S = some (.bl false) := by rw [eq_ev (by decide +kernel) (by decide +kernel)]; rfl
theorem s_west_earth_earth : cmpEv .isin (.str "west earth") (.tup [.str "west earth", .str "east earth"]) S = some (.bl true) := by rfl
theorem s_west_earth_east : cmpEv .isin (.str "west earth") (.tup [.str "east free", .str "east earth"]) S = some (.bl false) := by rfl
theorem s_west_earth_free : cmpEv .isin (.str "west earth") (.tup [.str "west free", .str "east free"]) S = some (.bl false) := by rfl
theorem s_west_earth_all : cmpEv .notin (.str "west earth") (.tup [.str "west free", .str "east free", .str "west earth", .str "east earth", .str "loop"]) S = some (.bl false) := by rfl
theorem s_west_earth_isi : isiEv (.str "west earth") .str S = some true := by rfl
theorem s_east_earth_loop : cmpEv .eq (.str "east earth") (.str "loop") S = some (.bl false) := by rw [eq_ev (by decide +kernel) (by decide +kernel)]; rfl
theorem s_east_earth_earth : cmpEv .isin (.str "east earth") (.tup [.str "west earth", .str "east earth"]) S = some (.bl true) := by rfl
theorem s_east_earth_east : cmpEv .isin (.str "east earth") (.tup [.str "east free", .str "east earth"]) S = some (.bl true) := by rfl
theorem s_east_earth_free : cmpEv .isin (.str "east earth") (.tup [.str "west free", .str "east free"]) S = some (.bl false) := by rfl
theorem s_east_earth_all : cmpEv .notin (.str "east earth") (.tup [.str "west free", .str "east free", .str "west earth", .str "east earth", .str "loop"]) S = some (.bl false) := by rfl
theorem s_east_earth_isi : isiEv (.str "east earth") .str S = some true := by rfl
theorem s_loop_loop : cmpEv .eq (.str "loop") (.str "loop") S = some (.bl true) := by rw [eq_ev (by decide +kernel) (by decide +kernel)]; rfl
theorem s_loop_earth : cmpEv .isin (.str "loop") (.tup [.str "west earth", .str "east earth"]) S = some (.bl false) := by rfl
theorem s_loop_east : cmpEv .isin (.str "loop") (.tup [.str "east free", .str "east earth"]) S = some (.bl false) := by rfl
theorem s_loop_free : cmpEv .isin (.str "loop") (.tup [.str "west free", .str "east free"]) S = some (.bl false) := by rfl
theorem s_loop_all : cmpEv .notin (.str "loop") (.tup [.str "west free", .str "east free", .str "west earth", .str "east earth", .str "loop"]) S = some (.bl false) := by rfl
theorem s_loop_isi : isiEv (.str "loop") .str S = some true := by rfl
theorem ne_of_pos {a : Rat} (h : 0 < a) : a ≠ 0 := fun e => by rw [e] at h; exact absurd h Rat.lt_irrefl
theorem ev_reading_west_free {s : Stretch} {N : Nat} (h : SB s 300 N N) (hN : N ≤ 12100000) [Bd b l] (hl : l ≤ 1000000) : evF P (n + 5) (f_reading P) [enS s, fr b, .str "west free"] S = .ok (enQ (readingOf 0 s b)) S := by
  rw [evF_at (p_reading P) rfl rfl]
  obtain ⟨d, o⟩ := s
  have i1 : Bd d 300 := h.d
  have q0 : l + 300 ≤ 130000000 := by omega
  have q00 : l + (N + N + 1) ≤ 130000000 := by omega
  have qNN : N + N ≤ 130000000 := by omega
  have qN2 : N + N ≤ 60000000 := by omega
  have qN5 : N + (4 * N + 1) ≤ 130000000 := by omega
  cases o with
  | none => simp [cf_reading, enS, enO, readingOf, enQ, s_west_free_loop, s_west_free_earth, s_west_free_east, s_west_free_free, q0]
  | some q =>
    obtain ⟨i2, i3, i4, p1, p2, p3⟩ := h.seen q rfl
    have z1 : q.2.2 + q.2.1 ≠ 0 := ne_of_pos (by grind)
    have z2 : q.2.2 + q.1 ≠ 0 := ne_of_pos (by grind)
    have b1 : ∀ S, evF P (n + 4) (f_beside P) [fr q.2.2, fr q.2.1] S = .ok (fr (besideOf q.2.2 q.2.1)) S := fun S => ev_beside qN2 z1
    have b2 : ∀ S, evF P (n + 4) (f_beside P) [fr q.2.2, fr q.1] S = .ok (fr (besideOf q.2.2 q.1)) S := fun S => ev_beside qN2 z2
    have c1 : Bd (besideOf q.2.2 q.2.1) (4 * N + 1) := by unfold besideOf; exact Bd.mono (m := N + N + (N + N + 1)) inferInstance (by omega)
    have c2 : Bd (besideOf q.2.2 q.1) (4 * N + 1) := by unfold besideOf; exact Bd.mono (m := N + N + (N + N + 1)) inferInstance (by omega)
    simp [cf_reading, enS, enO, enSn, readingOf, enQ, s_west_free_loop, s_west_free_earth, s_west_free_east, s_west_free_free, b1, b2, ev_add (P := P) (a := q.1) (b := q.2.2) qNN, ev_add (P := P) (a := q.2.1) (b := q.2.2) qNN, ev_add (P := P) (a := q.1) (b := q.2.1) qNN, ev_add (P := P) (a := q.1) (b := besideOf q.2.2 q.2.1) qN5, ev_add (P := P) (a := q.2.1) (b := besideOf q.2.2 q.1) qN5, ev_add (P := P) (a := b) (b := q.1 + q.2.1) q00]
@[simp] theorem ev_measure_west_free [h : LsOk ls] [hb : BkOk b] {B : Nat} [hK : KsB ls xs B] : evF P (n + 8) (f_measure P) [.tup [.tup (ls.map enL), fr b], .tup (xs.map enK), .str "west free"] S = .ok (enQ (readingOf 0 (stretchBy ls xs) b)) S := by
  rw [evF_at (p_measure P) rfl rfl]
  have hB := hK.hB
  have hN : nB B ≤ 12100000 := by unfold nB; omega
  simp [cf_measure, s_west_free_isi, s_west_free_all, ev_reading_west_free (P := P) (b := b) (sb_stretch P (ls := ls) (xs := xs)) hN]
theorem ev_reading_east_free {s : Stretch} {N : Nat} (h : SB s 300 N N) (hN : N ≤ 12100000) [Bd b l] (hl : l ≤ 1000000) : evF P (n + 5) (f_reading P) [enS s, fr b, .str "east free"] S = .ok (enQ (readingOf 1 s b)) S := by
  rw [evF_at (p_reading P) rfl rfl]
  obtain ⟨d, o⟩ := s
  have i1 : Bd d 300 := h.d
  have q0 : l + 300 ≤ 130000000 := by omega
  have q00 : l + (N + N + 1) ≤ 130000000 := by omega
  have qNN : N + N ≤ 130000000 := by omega
  have qN2 : N + N ≤ 60000000 := by omega
  have qN5 : N + (4 * N + 1) ≤ 130000000 := by omega
  cases o with
  | none => simp [cf_reading, enS, enO, readingOf, enQ, s_east_free_loop, s_east_free_earth, s_east_free_east, s_east_free_free, q0]
  | some q =>
    obtain ⟨i2, i3, i4, p1, p2, p3⟩ := h.seen q rfl
    have z1 : q.2.2 + q.2.1 ≠ 0 := ne_of_pos (by grind)
    have z2 : q.2.2 + q.1 ≠ 0 := ne_of_pos (by grind)
    have b1 : ∀ S, evF P (n + 4) (f_beside P) [fr q.2.2, fr q.2.1] S = .ok (fr (besideOf q.2.2 q.2.1)) S := fun S => ev_beside qN2 z1
    have b2 : ∀ S, evF P (n + 4) (f_beside P) [fr q.2.2, fr q.1] S = .ok (fr (besideOf q.2.2 q.1)) S := fun S => ev_beside qN2 z2
    have c1 : Bd (besideOf q.2.2 q.2.1) (4 * N + 1) := by unfold besideOf; exact Bd.mono (m := N + N + (N + N + 1)) inferInstance (by omega)
    have c2 : Bd (besideOf q.2.2 q.1) (4 * N + 1) := by unfold besideOf; exact Bd.mono (m := N + N + (N + N + 1)) inferInstance (by omega)
    simp [cf_reading, enS, enO, enSn, readingOf, enQ, s_east_free_loop, s_east_free_earth, s_east_free_east, s_east_free_free, b1, b2, ev_add (P := P) (a := q.1) (b := q.2.2) qNN, ev_add (P := P) (a := q.2.1) (b := q.2.2) qNN, ev_add (P := P) (a := q.1) (b := q.2.1) qNN, ev_add (P := P) (a := q.1) (b := besideOf q.2.2 q.2.1) qN5, ev_add (P := P) (a := q.2.1) (b := besideOf q.2.2 q.1) qN5, ev_add (P := P) (a := b) (b := q.1 + q.2.1) q00]
@[simp] theorem ev_measure_east_free [h : LsOk ls] [hb : BkOk b] {B : Nat} [hK : KsB ls xs B] : evF P (n + 8) (f_measure P) [.tup [.tup (ls.map enL), fr b], .tup (xs.map enK), .str "east free"] S = .ok (enQ (readingOf 1 (stretchBy ls xs) b)) S := by
  rw [evF_at (p_measure P) rfl rfl]
  have hB := hK.hB
  have hN : nB B ≤ 12100000 := by unfold nB; omega
  simp [cf_measure, s_east_free_isi, s_east_free_all, ev_reading_east_free (P := P) (b := b) (sb_stretch P (ls := ls) (xs := xs)) hN]
theorem ev_reading_west_earth {s : Stretch} {N : Nat} (h : SB s 300 N N) (hN : N ≤ 12100000) [Bd b l] (hl : l ≤ 1000000) : evF P (n + 5) (f_reading P) [enS s, fr b, .str "west earth"] S = .ok (enQ (readingOf 2 s b)) S := by
  rw [evF_at (p_reading P) rfl rfl]
  obtain ⟨d, o⟩ := s
  have i1 : Bd d 300 := h.d
  have q0 : l + 300 ≤ 130000000 := by omega
  have q00 : l + (N + N + 1) ≤ 130000000 := by omega
  have qNN : N + N ≤ 130000000 := by omega
  have qN2 : N + N ≤ 60000000 := by omega
  have qN5 : N + (4 * N + 1) ≤ 130000000 := by omega
  cases o with
  | none => simp [cf_reading, enS, enO, readingOf, enQ, s_west_earth_loop, s_west_earth_earth, s_west_earth_east, s_west_earth_free, q0]
  | some q =>
    obtain ⟨i2, i3, i4, p1, p2, p3⟩ := h.seen q rfl
    have z1 : q.2.2 + q.2.1 ≠ 0 := ne_of_pos (by grind)
    have z2 : q.2.2 + q.1 ≠ 0 := ne_of_pos (by grind)
    have b1 : ∀ S, evF P (n + 4) (f_beside P) [fr q.2.2, fr q.2.1] S = .ok (fr (besideOf q.2.2 q.2.1)) S := fun S => ev_beside qN2 z1
    have b2 : ∀ S, evF P (n + 4) (f_beside P) [fr q.2.2, fr q.1] S = .ok (fr (besideOf q.2.2 q.1)) S := fun S => ev_beside qN2 z2
    have c1 : Bd (besideOf q.2.2 q.2.1) (4 * N + 1) := by unfold besideOf; exact Bd.mono (m := N + N + (N + N + 1)) inferInstance (by omega)
    have c2 : Bd (besideOf q.2.2 q.1) (4 * N + 1) := by unfold besideOf; exact Bd.mono (m := N + N + (N + N + 1)) inferInstance (by omega)
    simp [cf_reading, enS, enO, enSn, readingOf, enQ, s_west_earth_loop, s_west_earth_earth, s_west_earth_east, s_west_earth_free, b1, b2, ev_add (P := P) (a := q.1) (b := q.2.2) qNN, ev_add (P := P) (a := q.2.1) (b := q.2.2) qNN, ev_add (P := P) (a := q.1) (b := q.2.1) qNN, ev_add (P := P) (a := q.1) (b := besideOf q.2.2 q.2.1) qN5, ev_add (P := P) (a := q.2.1) (b := besideOf q.2.2 q.1) qN5, ev_add (P := P) (a := b) (b := q.1 + q.2.1) q00]
@[simp] theorem ev_measure_west_earth [h : LsOk ls] [hb : BkOk b] {B : Nat} [hK : KsB ls xs B] : evF P (n + 8) (f_measure P) [.tup [.tup (ls.map enL), fr b], .tup (xs.map enK), .str "west earth"] S = .ok (enQ (readingOf 2 (stretchBy ls xs) b)) S := by
  rw [evF_at (p_measure P) rfl rfl]
  have hB := hK.hB
  have hN : nB B ≤ 12100000 := by unfold nB; omega
  simp [cf_measure, s_west_earth_isi, s_west_earth_all, ev_reading_west_earth (P := P) (b := b) (sb_stretch P (ls := ls) (xs := xs)) hN]
theorem ev_reading_east_earth {s : Stretch} {N : Nat} (h : SB s 300 N N) (hN : N ≤ 12100000) [Bd b l] (hl : l ≤ 1000000) : evF P (n + 5) (f_reading P) [enS s, fr b, .str "east earth"] S = .ok (enQ (readingOf 3 s b)) S := by
  rw [evF_at (p_reading P) rfl rfl]
  obtain ⟨d, o⟩ := s
  have i1 : Bd d 300 := h.d
  have q0 : l + 300 ≤ 130000000 := by omega
  have q00 : l + (N + N + 1) ≤ 130000000 := by omega
  have qNN : N + N ≤ 130000000 := by omega
  have qN2 : N + N ≤ 60000000 := by omega
  have qN5 : N + (4 * N + 1) ≤ 130000000 := by omega
  cases o with
  | none => simp [cf_reading, enS, enO, readingOf, enQ, s_east_earth_loop, s_east_earth_earth, s_east_earth_east, s_east_earth_free, q0]
  | some q =>
    obtain ⟨i2, i3, i4, p1, p2, p3⟩ := h.seen q rfl
    have z1 : q.2.2 + q.2.1 ≠ 0 := ne_of_pos (by grind)
    have z2 : q.2.2 + q.1 ≠ 0 := ne_of_pos (by grind)
    have b1 : ∀ S, evF P (n + 4) (f_beside P) [fr q.2.2, fr q.2.1] S = .ok (fr (besideOf q.2.2 q.2.1)) S := fun S => ev_beside qN2 z1
    have b2 : ∀ S, evF P (n + 4) (f_beside P) [fr q.2.2, fr q.1] S = .ok (fr (besideOf q.2.2 q.1)) S := fun S => ev_beside qN2 z2
    have c1 : Bd (besideOf q.2.2 q.2.1) (4 * N + 1) := by unfold besideOf; exact Bd.mono (m := N + N + (N + N + 1)) inferInstance (by omega)
    have c2 : Bd (besideOf q.2.2 q.1) (4 * N + 1) := by unfold besideOf; exact Bd.mono (m := N + N + (N + N + 1)) inferInstance (by omega)
    simp [cf_reading, enS, enO, enSn, readingOf, enQ, s_east_earth_loop, s_east_earth_earth, s_east_earth_east, s_east_earth_free, b1, b2, ev_add (P := P) (a := q.1) (b := q.2.2) qNN, ev_add (P := P) (a := q.2.1) (b := q.2.2) qNN, ev_add (P := P) (a := q.1) (b := q.2.1) qNN, ev_add (P := P) (a := q.1) (b := besideOf q.2.2 q.2.1) qN5, ev_add (P := P) (a := q.2.1) (b := besideOf q.2.2 q.1) qN5, ev_add (P := P) (a := b) (b := q.1 + q.2.1) q00]
@[simp] theorem ev_measure_east_earth [h : LsOk ls] [hb : BkOk b] {B : Nat} [hK : KsB ls xs B] : evF P (n + 8) (f_measure P) [.tup [.tup (ls.map enL), fr b], .tup (xs.map enK), .str "east earth"] S = .ok (enQ (readingOf 3 (stretchBy ls xs) b)) S := by
  rw [evF_at (p_measure P) rfl rfl]
  have hB := hK.hB
  have hN : nB B ≤ 12100000 := by unfold nB; omega
  simp [cf_measure, s_east_earth_isi, s_east_earth_all, ev_reading_east_earth (P := P) (b := b) (sb_stretch P (ls := ls) (xs := xs)) hN]
theorem ev_reading_loop {s : Stretch} {N : Nat} (h : SB s 300 N N) (hN : N ≤ 12100000) [Bd b l] (hl : l ≤ 1000000) : evF P (n + 5) (f_reading P) [enS s, fr b, .str "loop"] S = .ok (enQ (readingOf 4 s b)) S := by
  rw [evF_at (p_reading P) rfl rfl]
  obtain ⟨d, o⟩ := s
  have i1 : Bd d 300 := h.d
  have q0 : l + 300 ≤ 130000000 := by omega
  have q00 : l + (N + N + 1) ≤ 130000000 := by omega
  have qNN : N + N ≤ 130000000 := by omega
  have qN2 : N + N ≤ 60000000 := by omega
  have qN5 : N + (4 * N + 1) ≤ 130000000 := by omega
  cases o with
  | none => simp [cf_reading, enS, enO, readingOf, enQ, s_loop_loop, s_loop_earth, s_loop_east, s_loop_free, q0]
  | some q =>
    obtain ⟨i2, i3, i4, p1, p2, p3⟩ := h.seen q rfl
    have z1 : q.2.2 + q.2.1 ≠ 0 := ne_of_pos (by grind)
    have z2 : q.2.2 + q.1 ≠ 0 := ne_of_pos (by grind)
    have b1 : ∀ S, evF P (n + 4) (f_beside P) [fr q.2.2, fr q.2.1] S = .ok (fr (besideOf q.2.2 q.2.1)) S := fun S => ev_beside qN2 z1
    have b2 : ∀ S, evF P (n + 4) (f_beside P) [fr q.2.2, fr q.1] S = .ok (fr (besideOf q.2.2 q.1)) S := fun S => ev_beside qN2 z2
    have c1 : Bd (besideOf q.2.2 q.2.1) (4 * N + 1) := by unfold besideOf; exact Bd.mono (m := N + N + (N + N + 1)) inferInstance (by omega)
    have c2 : Bd (besideOf q.2.2 q.1) (4 * N + 1) := by unfold besideOf; exact Bd.mono (m := N + N + (N + N + 1)) inferInstance (by omega)
    simp [cf_reading, enS, enO, enSn, readingOf, enQ, s_loop_loop, s_loop_earth, s_loop_east, s_loop_free, b1, b2, ev_add (P := P) (a := q.1) (b := q.2.2) qNN, ev_add (P := P) (a := q.2.1) (b := q.2.2) qNN, ev_add (P := P) (a := q.1) (b := q.2.1) qNN, ev_add (P := P) (a := q.1) (b := besideOf q.2.2 q.2.1) qN5, ev_add (P := P) (a := q.2.1) (b := besideOf q.2.2 q.1) qN5, ev_add (P := P) (a := b) (b := q.1 + q.2.1) q00]
@[simp] theorem ev_measure_loop [h : LsOk ls] [hb : BkOk b] {B : Nat} [hK : KsB ls xs B] : evF P (n + 8) (f_measure P) [.tup [.tup (ls.map enL), fr b], .tup (xs.map enK), .str "loop"] S = .ok (enQ (readingOf 4 (stretchBy ls xs) b)) S := by
  rw [evF_at (p_measure P) rfl rfl]
  have hB := hK.hB
  have hN : nB B ≤ 12100000 := by unfold nB; omega
  simp [cf_measure, s_loop_isi, s_loop_all, ev_reading_loop (P := P) (b := b) (sb_stretch P (ls := ls) (xs := xs)) hN]
end
end Z

/-! X, part H: what the laws draw. -/
namespace Z
open PySem
structure Q3 where
  a : Int
  b : Int
  c : Int
def cellQ (q : Q3) : Cell := .lst [.int q.a, .int q.b, .int q.c]
/-- the store with a purse at p -/
def Sq (S : Store) (p : Nat) (q : Q3) : Store := S.set p (cellQ q)
@[simp] theorem Sq_len {S : Store} {p : Nat} {q : Q3} : (Sq S p q).length = S.length := by simp [Sq]
theorem Sq_at {S : Store} {p : Nat} {q : Q3} (hp : p < S.length) : (Sq S p q)[p]? = some (cellQ q) := by simp [Sq, hp]
@[simp] theorem Sq_Sq {S : Store} {p : Nat} {q q' : Q3} : Sq (Sq S p q) p q' = Sq S p q' := by simp [Sq]
def pkC (q : Q3) : Int := q.c + 1
def pkA (q : Q3) : Int := q.a % 999999893 * (q.a % 999999893 % 40009 + 10007) + 80021 * (q.c + 1)
def pkR (m : Int) (q : Q3) : Int := if 0 < q.b then q.b % m else pkA q % 999999893 / 16 % m
def pkQ (m : Int) (q : Q3) : Q3 := if 0 < q.b then ⟨pkA q, q.b / m, q.c + 1⟩ else ⟨pkA q, q.b, q.c + 1⟩
theorem pkR_nonneg {m : Int} {q : Q3} (h : 0 < m) : 0 ≤ pkR m q := by
  unfold pkR
  split <;> exact Int.emod_nonneg _ (by omega)
theorem pkR_lt {m : Int} {q : Q3} (h : 0 < m) : pkR m q < m := by
  unfold pkR
  split <;> exact Int.emod_lt_of_pos _ h
section
variable {P : Nat → Option CF} [Lib P] {n k f m l : Nat} {S : Store} {p : Nat} {q : Q3}
@[simp] theorem idx_Sq (hp : p < S.length) {i : Int} : idxEv (.ref p) (.int i) (Sq S p q) = L2.atI [.int q.a, .int q.b, .int q.c] i := by
  simp [idxEv, dkOf, seqOf, Sq_at hp, cellQ]
@[simp] theorem set_Sq0 (hp : p < S.length) {v : Int} : setEv (.ref p) (.int 0) (.int v) (Sq S p q) = some (Sq S p ⟨v, q.b, q.c⟩) := by
  simp only [setEv, Sq_at hp, cellQ]
  simp [L2.ixN, Sq, cellQ]
@[simp] theorem set_Sq1 (hp : p < S.length) {v : Int} : setEv (.ref p) (.int 1) (.int v) (Sq S p q) = some (Sq S p ⟨q.a, v, q.c⟩) := by
  simp only [setEv, Sq_at hp, cellQ]
  simp [L2.ixN, Sq, cellQ]
@[simp] theorem set_Sq2 (hp : p < S.length) {v : Int} : setEv (.ref p) (.int 2) (.int v) (Sq S p q) = some (Sq S p ⟨q.a, q.b, v⟩) := by
  simp only [setEv, Sq_at hp, cellQ]
  simp [L2.ixN, Sq, cellQ]
@[simp] theorem ev_pick (hp : p < S.length) {m : Int} (hm : 0 < m) : evF P (n + 1) (f_law_pick P) [.ref p, .int m] (Sq S p q) = .ok (.int (pkR m q)) (Sq S p (pkQ m q)) := by
  rw [evF_at (p_law_pick P) rfl rfl]
  have h1 : 0 ≤ q.a % 999999893 := Int.emod_nonneg _ (by decide)
  have h2 : q.a % 999999893 < 999999893 := Int.emod_lt_of_pos _ (by decide)
  have m1 : MulOk (q.a % 999999893) (q.a % 999999893 % 40009 + 10007) := mulOk_l (by omega) (by omega)
  have m2 : MulOk 80021 (q.c + 1) := mulOk_l (by decide) (by decide)
  by_cases hb : 0 < q.b
  · simp [cf_law_pick, hp, bin_mul_int m1, bin_mul_int m2, hm, hb]
    rw [gc_same (by simp)]
    simp [pkR, pkQ, hb, pkA]
  · simp [cf_law_pick, hp, bin_mul_int m1, bin_mul_int m2, hm, hb]
    rw [gc_same (by simp)]
    simp [pkR, pkQ, hb, pkA]
theorem Sq_new {q : Q3} : S ++ [cellQ q] = Sq (S ++ [.gone]) S.length q := by simp [Sq]
@[simp] theorem bin_pow_18 : binEv .pow (.int 10) (.int 18) S = some (.int 1000000000000000000) := by
  simp only [binEv]
  rw [if_pos (by decide)]
  rfl
theorem ex_purse (c : Int) : ∃ q, ∀ n S, evF P (n + 1) (f_law_purse P) [.int c] S = .ok (.ref S.length) (Sq (S ++ [.gone]) S.length q) := by
  refine ⟨⟨c % 999999893 * 6007 + 2503, if 1000000000000000000 ≤ c then c else 0, 0⟩, fun n S => ?_⟩
  rw [evF_at (p_law_purse P) rfl rfl]
  have m1 : MulOk (c % 999999893) 6007 := mulOk_r (by decide) (by decide)
  have e : ∀ x y z : Int, S ++ [Cell.lst [.int x, .int y, .int z]] = Sq (S ++ [.gone]) S.length ⟨x, y, z⟩ := fun x y z => by simp [Sq, cellQ]
  by_cases h : 1000000000000000000 ≤ c
  · simp [cf_law_purse, bin_mul_int m1, h, e]
    have : ¬ (Keep S (Sq (S ++ [.gone]) S.length ⟨c % 999999893 * 6007 + 2503, c, 0⟩) ∧ noref (.ref S.length) = true) := fun z => by have := z.2; unfold noref at this; cases this
    simp only [gc, if_neg this]
  · simp [cf_law_purse, bin_mul_int m1, h, e]
    have : ¬ (Keep S (Sq (S ++ [.gone]) S.length ⟨c % 999999893 * 6007 + 2503, 0, 0⟩) ∧ noref (.ref S.length) = true) := fun z => by have := z.2; unfold noref at this; cases this
    simp only [gc, if_neg this]
theorem cut_map {ns : List Int} {lo hi : Option Int} : ∃ ms : List Int, cutD (ns.map D.int) lo hi = ms.map D.int := ⟨(ns.drop (HT.sIx (ns.map D.int).length 0 lo)).take (HT.sIx (ns.map D.int).length (ns.map D.int).length hi - HT.sIx (ns.map D.int).length 0 lo), by
  unfold cutD
  rw [List.map_take, List.map_drop]⟩
@[simp] theorem sl_scr {ds : List D} {lo hi : Option Int} : slEv (.scr ds) lo hi S = some (.lst (cutD ds lo hi)) := rfl
@[simp] theorem sl_tup {ds : List D} {lo hi : Option Int} : slEv (.tup ds) lo hi S = some (.tup (cutD ds lo hi)) := rfl
@[simp] theorem sl_lst {ds : List D} {lo hi : Option Int} : slEv (.lst ds) lo hi S = some (.lst (cutD ds lo hi)) := rfl
theorem ex_cell {ns : List Int} {i : Int} (h0 : 0 ≤ i) (h1 : i < 2 ^ 60) : ∃ c, ∀ n S, evF P (n + 1) (f_law_cell P) [.scr (ns.map .int), .int i] S = .ok (.int c) S := by
  by_cases hl : i < (ns.length : Int)
  · obtain ⟨x, hx⟩ : ∃ x, ns[i.toNat]? = some x := ⟨_, List.getElem?_eq_getElem (by omega)⟩
    refine ⟨x, fun n S => ?_⟩
    rw [evF_at (p_law_cell P) rfl rfl]
    simp [cf_law_cell, hl, atI_of h0, hx]
  · obtain ⟨ms, hm⟩ := cut_map (ns := ns) (lo := none) (hi := some 4)
    have m1 : MulOk i i := mulOk_l (by omega) (by omega)
    have m2 : MulOk 11 i := mulOk_l (by decide) (by decide)
    have m3 : MulOk 70001 (i * i + 11 * i + 5) := mulOk_l (by decide) (by decide)
    have key : ∀ (n : Nat) (S : Store) (ws : List D) (xs : List Int) (s : Int × Option D), forEv (run (evF P n) (cb_law_cell_1 (Lib.ix P))) (.nm 3) (.fix ws) (xs.map D.int) [some (.scr (ns.map .int)), some (.int i), some (.int s.1), s.2] S =
        .nx (let t := xs.foldl (fun (s : Int × Option D) x => ((s.1 * 20011 + x) % 1000000021, some (.int x))) s; [some (.scr (ns.map .int)), some (.int i), some (.int t.1), t.2]) S := fun n S ws xs s =>
      for_fold (body := run (evF P n) (cb_law_cell_1 (Lib.ix P))) (tg := .nm 3) (S := S) (ws := ws) D.int (fun s : Int × Option D => [some (.scr (ns.map .int)), some (.int i), some (.int s.1), s.2]) (fun s x => ((s.1 * 20011 + x) % 1000000021, some (.int x))) (fun _ _ => True) (fun x xs s _ => by
        have m4 : MulOk s.1 20011 := mulOk_r (by decide) (by decide)
        exact ⟨by simp [cb_law_cell_1, bin_mul_int m4], trivial⟩) xs s trivial
    refine ⟨(ms.foldl (fun (s : Int × Option D) x => ((s.1 * 20011 + x) % 1000000021, some (.int x))) (70001 * (i * i + 11 * i + 5) % 1000000021, none)).1, fun n S => ?_⟩
    rw [evF_at (p_law_cell P) rfl rfl]
    have k := fun ws => key n S ws ms (70001 * (i * i + 11 * i + 5) % 1000000021, none)
    simp only [] at k
    simp [cf_law_cell, hl, bin_mul_int m1, bin_mul_int m2, bin_mul_int m3, hm, k]
mutual
theorem noref_ok : ∀ {n : Nat} {d : D}, okD n d = true → noref d = true
  | _, .non, _ => by unfold noref; rfl
  | _, .bl _, _ => by unfold noref; rfl
  | _, .int _, _ => by unfold noref; rfl
  | _, .str _, _ => by unfold noref; rfl
  | n + 1, .tup ds, h => by unfold okD at h; unfold noref; exact norefs_ok h
  | n + 1, .lst ds, h => by unfold okD at h; unfold noref; exact norefs_ok h
  | 0, .tup ds, h => by unfold okD at h; cases h
  | 0, .lst ds, h => by unfold okD at h; cases h
  | _, .scr _, h => by unfold okD at h; cases h
  | _, .edic, h => by unfold okD at h; cases h
  | _, .ref _, h => by unfold okD at h; cases h
  | _, .exc _ _, h => by unfold okD at h; cases h
theorem norefs_ok : ∀ {n : Nat} {ds : List D}, okDs n ds = true → norefs ds = true
  | _, [], _ => by unfold norefs; rfl
  | n, d :: ds, h => by
    unfold okDs at h
    obtain ⟨h1, h2⟩ := ands h
    unfold norefs
    rw [noref_ok h1, norefs_ok h2]
    rfl
end
/-! a purse and a cell behind -/
theorem Sq_app {c : Cell} (hp : p < S.length) : Sq S p q ++ [c] = Sq (S ++ [c]) p q := by simp [Sq, hp]
theorem Sq_last {c : Cell} (hp : p < S.length) : (Sq (S ++ [c]) p q)[S.length]? = some c := by
  unfold Sq
  rw [List.getElem?_set_ne (by omega)]
  simp
theorem Sq_setLast {c c' : Cell} (hp : p < S.length) : (Sq (S ++ [c]) p q).set S.length c' = Sq (S ++ [c']) p q := by
  unfold Sq
  rw [List.set_comm _ _ (by omega)]
  simp
theorem noref_cellQ (q : Q3) : (cellQ q).noref = true := by simp [cellQ, Cell.noref, norefs, noref]
theorem gc_sq {d : D} {T : Store} {q' : Q3} (hp : p < S.length) (hd : noref d = true) : gc (Sq S p q) (.ok d (Sq (S ++ T) p q')) = .ok d (Sq S p q') := by
  have hk : Keep (Sq S p q) (Sq (S ++ T) p q') := by
    refine ⟨by simp, fun i hi => ?_⟩
    rw [Sq_len] at hi
    unfold Sq
    by_cases e : p = i
    · subst e
      exact .inr ⟨cellQ q', by rw [List.getElem?_set_self (by simp; omega)], noref_cellQ q'⟩
    · refine .inl ?_
      rw [List.getElem?_set_ne e, List.getElem?_set_ne e, List.getElem?_append_left hi]
  simp only [gc, if_pos (And.intro hk hd)]
  congr 1
  unfold Sq
  rw [List.length_set, List.take_set, List.take_left']
  rfl
theorem len_hi (hp : p < S.length) (c : Cell) : p < (S ++ [c]).length := by simp; omega
@[simp] theorem okD_enL (k : Nat) (x : Len) : okD (k + 2) (enL x) = true := by simp [enL]
@[simp] theorem okD_enK (k : Nat) (x : Leak) : okD (k + 2) (enK x) = true := by simp [enK]
@[simp] theorem okDs_enL (k : Nat) (xs : List Len) : okDs (k + 2) (xs.map enL) = true := okDs_map (fun x => okD_enL k x) xs
@[simp] theorem okDs_enK (k : Nat) (xs : List Leak) : okDs (k + 2) (xs.map enK) = true := okDs_map (fun x => okD_enK k x) xs
theorem norefL (xs : List Len) : norefs (xs.map enL) = true := norefs_ok (okDs_enL 0 xs)
theorem norefK (xs : List Leak) : norefs (xs.map enK) = true := norefs_ok (okDs_enK 0 xs)
theorem norefF (a : Rat) : noref (fr a) = true := by simp [fr, noref, norefs]
theorem small_div {a b : Int} (h0 : 0 ≤ a) (h1 : a ≤ 999) (hb : 0 < b) (h2 : b ≤ 999) : (((a : Rat) / (b : Rat)).num ≤ 999 ∧ (((a : Rat) / (b : Rat)).den : Int) ≤ 999) := by
  obtain ⟨e1, e2⟩ := low_num (a := a) hb
  rw [e1, e2]
  exact ⟨Int.le_trans (Int.ediv_le_self _ h0) h1, Int.le_trans (Int.ediv_le_self _ (by omega)) h2⟩
theorem div_pos' {a b : Int} (ha : 0 < a) (hb : 0 < b) : (0 : Rat) < (a : Rat) / (b : Rat) := by
  have h := Rat.num_nonneg (q := (a : Rat) / (b : Rat))
  obtain ⟨e1, e2⟩ := low_num (a := a) hb
  have hg : (Int.gcd a b : Int) ≤ a := Int.gcd_le_left b ha
  have hg0 : 0 < (Int.gcd a b : Int) := by
    have := Int.gcd_pos_iff.mpr (Or.inr (show b ≠ 0 by omega) : a ≠ 0 ∨ b ≠ 0)
    omega
  have h1 : 0 < ((a : Rat) / (b : Rat)).num := by
    rw [e1]
    exact Int.ediv_pos_of_pos_of_dvd ha (by omega) (Int.gcd_dvd_left ..)
  refine Rat.lt_of_le_of_ne (h.mp (by omega)) fun e => ?_
  rw [← e] at h1
  exact absurd h1 (by decide)
theorem div_nonneg' {a b : Int} (ha : 0 ≤ a) (hb : 0 < b) : (0 : Rat) ≤ (a : Rat) / (b : Rat) := by
  refine Rat.num_nonneg.mp ?_
  rw [(low_num (a := a) hb).1]
  exact Int.ediv_nonneg ha (by omega)
/-- one of a list's -/
theorem at_sel {l : List Int} {r : Int} (h0 : 0 ≤ r) (h1 : r < l.length) : ∃ x ∈ l, L2.atI (l.map D.int) r = some (.int x) := by
  have hl : r.toNat < l.length := by omega
  refine ⟨l[r.toNat], List.getElem_mem hl, ?_⟩
  rw [atI_of h0]
  simp [hl]
theorem sIx_nat {n d : Nat} {v : Int} (h : 0 ≤ v) : HT.sIx n d (some v) = min v.toNat n := by
  show (if v < 0 then _ else _) = _
  rw [if_neg (by omega)]
theorem cut_take {xs : List D} {v : Int} (h : 0 ≤ v) : cutD xs none (some v) = xs.take v.toNat := by
  unfold cutD
  rw [sIx_nat h]
  show (xs.drop 0).take (min v.toNat xs.length - 0) = _
  rw [List.drop_zero, Nat.sub_zero]
  by_cases hl : v.toNat ≤ xs.length
  · rw [Nat.min_eq_left hl]
  · rw [Nat.min_eq_right (by omega), List.take_length, List.take_of_length_le (by omega)]
theorem cut_drop {xs : List D} {v : Int} (h : 0 ≤ v) : cutD xs (some v) none = xs.drop v.toNat := by
  unfold cutD
  rw [sIx_nat h]
  show (xs.drop (min v.toNat xs.length)).take (xs.length - min v.toNat xs.length) = _
  by_cases hl : v.toNat ≤ xs.length
  · rw [Nat.min_eq_left hl, List.take_of_length_le (by simp)]
  · rw [Nat.min_eq_right (by omega), List.drop_length, List.drop_eq_nil_of_le (by omega)]
    simp
@[simp] theorem bin_add_tup {xs ys : List D} (h : xs.length + ys.length ≤ 1000) : binEv .add (.tup xs) (.tup ys) S = some (.tup (xs ++ ys)) := by
  have : xs.length + ys.length ≤ sizeLine := by rw [sizeLine_eq]; omega
  simp only [binEv, addEv, if_pos this]
theorem app_Sq {ds : List D} {y : D} (hp : p < S.length) (hl : ds.length < 1000) : mthEv .append (.ref S.length) [y] (Sq (S ++ [.lst ds]) p q) = some (.non, Sq (S ++ [.lst (ds ++ [y])]) p q) := by
  have : ds.length < sizeLine := by rw [sizeLine_eq]; omega
  simp only [mthEv, Sq_last hp, if_pos this, Sq_setLast hp]
theorem seqL_Sq {ds : List D} (hp : p < S.length) : seqL (Sq (S ++ [.lst ds]) p q) (.ref S.length) = some ds := by
  simp only [seqL, Sq_last hp]
theorem seqOf_Sq {ds : List D} (hp : p < S.length) : seqOf (Sq (S ++ [.lst ds]) p q) (.ref S.length) = some ds := by
  simp only [seqOf, Sq_last hp]
theorem sum_take : ∀ {xs : List Len} (j : Nat), (∀ x ∈ xs, LenOk x) → 0 ≤ ((xs.take j).map (·.1)).sum ∧ ((xs.take j).map (·.1)).sum ≤ (xs.map (·.1)).sum
  | [], j, _ => by simp
  | x :: xs, 0, h => by
    have := (steps_pos h).1
    unfold allSteps at this
    simpa using this
  | x :: xs, j + 1, h => by
    have ih := sum_take j fun y hy => h y (List.mem_cons_of_mem _ hy)
    have hx := (h x List.mem_cons_self).lo
    simp only [List.take_succ_cons, List.map_cons, List.sum_cons]
    omega
theorem rng_len {a b : Int} : (rngD a b).length = (b - a).toNat := by simp [rngD]
theorem pk4 {l : List Int} {q : Q3} {m : Int} (h : (l.length : Int) = m) (hm : 0 < m) : ∃ x ∈ l, L2.atI (l.map D.int) (pkR m q) = some (.int x) := at_sel (pkR_nonneg hm) (by rw [h]; exact pkR_lt hm)
/-- one length of a cable that is drawn -/
theorem cable_body (q : Q3) : ∃ (x : Len) (y : Option D) (q' : Q3), LenOk x ∧ ∀ (n : Nat) (S : Store) (p : Nat) (x1 x3 x4 : Option D) (xs : List Len), p < S.length → xs.length < 900 →
    run (evF P (n + 1)) (cb_law_cable_1 (Lib.ix P)) [some (.ref p), x1, some (.ref S.length), x3, x4] (Sq (S ++ [.lst (xs.map enL)]) p q) = .nx [some (.ref p), x1, some (.ref S.length), x3, y] (Sq (S ++ [.lst ((xs ++ [x]).map enL)]) p q') := by
  obtain ⟨a, ha, s1⟩ := pk4 (l := [9, 40, 999]) (q := q) (m := 3) rfl (by decide)
  have ba : 0 < a ∧ a ≤ 999 := by simp at ha; omega
  have r2 := pkR_nonneg (m := a) (q := pkQ 3 q) ba.1
  have u2 := pkR_lt (m := a) (q := pkQ 3 q) ba.1
  have r3 := pkR_nonneg (m := 9) (q := pkQ a (pkQ 3 q)) (by decide)
  have u3 := pkR_lt (m := 9) (q := pkQ a (pkQ 3 q)) (by decide)
  obtain ⟨b, hb, s2⟩ := pk4 (l := [1, 1, 2, 3]) (q := pkQ 9 (pkQ a (pkQ 3 q))) (m := 4) rfl (by decide)
  have bb : 0 < b ∧ b ≤ 3 := by simp at hb; omega
  have hs := small_div (a := 1 + pkR 9 (pkQ a (pkQ 3 q))) (b := b) (by omega) (by omega) bb.1 (by omega)
  refine ⟨(1 + pkR a (pkQ 3 q), ((1 + pkR 9 (pkQ a (pkQ 3 q)) : Int) : Rat) / (b : Rat)), some (.int (1 + pkR a (pkQ 3 q))), pkQ 4 (pkQ 9 (pkQ a (pkQ 3 q))), ⟨by show 1 ≤ 1 + pkR a (pkQ 3 q); omega, by show 1 + pkR a (pkQ 3 q) ≤ 999; omega, div_pos' (by omega) bb.1, hs.1, hs.2⟩, fun n S p x1 x3 x4 xs hp hl => ?_⟩
  have hp' := len_hi hp (.lst (xs.map enL))
  simp only [List.map_cons, List.map_nil] at s1 s2
  have b0 : b ≠ 0 := by omega
  have e := ev_law_low (P := P) (n := n) (S := Sq (S ++ [.lst (xs.map enL)]) p (pkQ 4 (pkQ 9 (pkQ a (pkQ 3 q))))) (a := 1 + pkR 9 (pkQ a (pkQ 3 q))) (b := b) b0
  simp only [List.length_append, List.length_cons, List.length_nil] at hp'
  simp [cb_law_cable_1, hp', s1, s2, ba.1, e, -ev_law_low, seqL_Sq hp, app_Sq hp, show xs.length < 1000 by omega, enL]
theorem cable_loop : ∀ (items : List D) (q : Q3) (xs : List Len), xs.length + items.length < 900 → (∀ x ∈ xs, LenOk x) → ∃ (ys : List Len) (q' : Q3), (∀ x ∈ ys, LenOk x) ∧ ys.length = xs.length + items.length ∧
    ∀ (n : Nat) (S : Store) (p : Nat) (w : List D) (x1 x3 x4 : Option D), p < S.length → ∃ y3 y4, forEv (run (evF P (n + 1)) (cb_law_cable_1 (Lib.ix P))) (.nm 3) (.fix w) items [some (.ref p), x1, some (.ref S.length), x3, x4] (Sq (S ++ [.lst (xs.map enL)]) p q) = .nx [some (.ref p), x1, some (.ref S.length), y3, y4] (Sq (S ++ [.lst (ys.map enL)]) p q')
  | [], q, xs, hl, hx => ⟨xs, q, hx, by simp, fun n S p w x1 x3 x4 hp => ⟨x3, x4, by simp [forEv, at_fix]⟩⟩
  | d :: items, q, xs, hl, hx => by
    simp only [List.length_cons] at hl
    obtain ⟨x, y, q1, ox, e1⟩ := cable_body (P := P) q
    obtain ⟨ys, q2, oy, ly, e2⟩ := cable_loop items q1 (xs ++ [x]) (by simp; omega) (fun y hy => by
      rcases List.mem_append.mp hy with hy | hy
      · exact hx y hy
      · rw [List.mem_singleton.mp hy]; exact ox)
    refine ⟨ys, q2, oy, by rw [ly]; simp; omega, fun n S p w x1 x3 x4 hp => ?_⟩
    obtain ⟨y3, y4, e3⟩ := e2 n S p w x1 (some d) y hp
    refine ⟨y3, y4, ?_⟩
    simp only [forEv, at_fix, if_true, stepT_nm, List.length_cons, List.length_nil, Nat.reduceAdd, Nat.reduceLT, List.set_cons_succ, List.set_cons_zero, e1 n S p x1 (some d) x4 xs hp (by omega)]
    exact e3
theorem ex_cable (q : Q3) {m : Int} (h1 : 1 ≤ m) (h2 : m ≤ 12) : ∃ (ls : List Len) (b : Rat) (q' : Q3), LsOk ls ∧ BkOk b ∧ (ls.length : Int) ≤ m ∧ ∀ n S p, p < S.length → evF P (n + 2) (f_law_cable P) [.ref p, .int m] (Sq S p q) = .ok (.tup [.tup (ls.map enL), fr b]) (Sq S p q') := by
  have r0 := pkR_nonneg (m := m) (q := q) (by omega)
  have u0 := pkR_lt (m := m) (q := q) (by omega)
  obtain ⟨ys, q1, oy, ly, e1⟩ := cable_loop (P := P) (rngD 0 (1 + pkR m q)) (pkQ m q) [] (by simp [rng_len]; omega) (by simp)
  rw [rng_len] at ly
  simp at ly
  have r1 := pkR_nonneg (m := 30) (q := q1) (by omega)
  have u1 := pkR_lt (m := 30) (q := q1) (by omega)
  have r2 := pkR_nonneg (m := 3) (q := pkQ 30 q1) (by omega)
  have u2 := pkR_lt (m := 3) (q := pkQ 30 q1) (by omega)
  have hs := small_div (a := pkR 30 q1) (b := 1 + pkR 3 (pkQ 30 q1)) (by omega) (by omega) (by omega) (by omega)
  refine ⟨ys, ((pkR 30 q1 : Int) : Rat) / ((1 + pkR 3 (pkQ 30 q1) : Int) : Rat), pkQ 3 (pkQ 30 q1), ⟨by omega, by omega, oy⟩, ⟨div_nonneg' r1 (by omega), hs.1, hs.2⟩, by omega, fun n S p hp => ?_⟩
  rw [evF_at (p_law_cable P) rfl rfl]
  obtain ⟨y3, y4, e2⟩ := e1 n S p (rngD 0 (1 + pkR m q)) (some (.int m)) none none hp
  simp only [List.map_nil] at e2
  have s1 : small62 0 := ⟨by decide, by decide⟩
  have s2 : small62 (1 + pkR m q) := ⟨by omega, by omega⟩
  have hp1 : p < S.length + 1 := by omega
  have m0 : 0 < m := by omega
  have b0 : (1 + pkR 3 (pkQ 30 q1)) ≠ 0 := by omega
  have e := ev_law_low (P := P) (n := n) (S := Sq (S ++ [.lst (ys.map enL)]) p (pkQ 3 (pkQ 30 q1))) (a := pkR 30 q1) (b := 1 + pkR 3 (pkQ 30 q1)) b0
  simp [cf_law_cable, Sq_app hp, hp1, m0, s1, s2, e2, seqOf_Sq hp, e, -ev_law_low]
  exact gc_sq (S := S) (q := q) (T := [.lst (ys.map enL)]) (q' := pkQ 3 (pkQ 30 q1)) hp (by simp [noref, norefs, norefL, norefF])
theorem sum_steps {ls : List Len} : bltEv .sum [.lst (ls.map fun x => D.int x.1)] S = some (.int (allSteps ls)) := by
  show (ints? _).map _ = _
  rw [ints_eq]
  rfl
theorem ex_sixths (q : Q3) (ls : List Len) [h : LsOk ls] : ∃ (r : Int) (q' : Q3), 0 ≤ r ∧ r ≤ 6 * allSteps ls ∧ ∀ n S p b, p < S.length → evF P (n + 2) (f_law_sixths P) [.ref p, .tup [.tup (ls.map enL), fr b]] (Sq S p q) = .ok (.int r) (Sq S p q') := by
  have hst := steps_pos h.len
  have hl := h.hi
  have r1 := pkR_nonneg (m := 5) (q := q) (by omega)
  have u1 := pkR_lt (m := 5) (q := q) (by omega)
  have ec : ∀ n S p b, compEv (ev (evF P n) (.idx (.var 4) (.con (.int 0)))) (ev (evF P n) (.con (.bl true))) (.nm 4) (.fix (ls.map enL)) [some (.ref p), some (.tup [.tup (ls.map enL), fr b]), none, none, none] [4] (ls.map enL) [] S = .ok (ls.map fun x => .int x.1) S := fun n S p b => by
    rw [comp_map enL (fun x => .int x.1) ls [] (by simp; omega) (fun x hx => by simp [wipeD, enL])]
    simp
  have m6 : MulOk 6 (allSteps ls) := mulOk_l (by decide) (by decide)
  by_cases h0 : pkR 5 q = 0
  · have r2 := pkR_nonneg (m := 2) (q := pkQ 5 q) (by omega)
    have u2 := pkR_lt (m := 2) (q := pkQ 5 q) (by omega)
    have m7 : MulOk (6 * allSteps ls) (pkR 2 (pkQ 5 q)) := mulOk_r (by omega) (by omega)
    refine ⟨6 * allSteps ls * pkR 2 (pkQ 5 q), pkQ 2 (pkQ 5 q), Int.mul_nonneg (by omega) r2, ?_, fun n S p b hp => ?_⟩
    · have : pkR 2 (pkQ 5 q) = 0 ∨ pkR 2 (pkQ 5 q) = 1 := by omega
      rcases this with h | h <;> rw [h] <;> omega
    · rw [evF_at (p_law_sixths P) rfl rfl]
      simp [cf_law_sixths, ec, hp, h0, sum_steps, -blt_sum, bin_mul_int m6, bin_mul_int m7]
      rw [gc_same (by simp)]
  · have b0 : (pkR 5 q == 0) = false := by simpa using h0
    by_cases h1 : pkR 5 q = 1
    · have r2 := pkR_nonneg (m := ls.length + 1) (q := pkQ 5 q) (by omega)
      have hp0 : 0 < (ls.length : Int) + 1 := by omega
      have st := sum_take (pkR (ls.length + 1) (pkQ 5 q)).toNat h.len
      have hs2 : ∀ S, bltEv .sum [.lst ((ls.take (pkR (ls.length + 1) (pkQ 5 q)).toNat).map fun x => D.int x.1)] S = some (.int (allSteps (ls.take (pkR (ls.length + 1) (pkQ 5 q)).toNat))) := fun S => sum_steps
      have m7 : MulOk 6 (allSteps (ls.take (pkR (ls.length + 1) (pkQ 5 q)).toNat)) := mulOk_l (by decide) (by decide)
      refine ⟨6 * allSteps (ls.take (pkR (ls.length + 1) (pkQ 5 q)).toNat), pkQ (ls.length + 1) (pkQ 5 q), by unfold allSteps; omega, by unfold allSteps; omega, fun n S p b hp => ?_⟩
      rw [evF_at (p_law_sixths P) rfl rfl]
      simp only [List.map_take] at hs2
      simp [cf_law_sixths, ec, hp, h1, hp0, cut_take r2, hs2, -blt_sum, bin_mul_int m7]
      rw [gc_same (by simp)]
    · have b1 : (pkR 5 q == 1) = false := by simpa using h1
      have hp0 : 0 < 6 * allSteps ls + 1 := by omega
      have r2 := pkR_nonneg (m := 6 * allSteps ls + 1) (q := pkQ 5 q) (by omega)
      have u2 := pkR_lt (m := 6 * allSteps ls + 1) (q := pkQ 5 q) (by omega)
      refine ⟨pkR (6 * allSteps ls + 1) (pkQ 5 q), pkQ (6 * allSteps ls + 1) (pkQ 5 q), r2, by omega, fun n S p b hp => ?_⟩
      rw [evF_at (p_law_sixths P) rfl rfl]
      simp [cf_law_sixths, ec, hp, h0, h1, hp0, sum_steps, -blt_sum, bin_mul_int m6]
      rw [gc_same (by simp)]
end
end Z

/-! X, part I: leaks that a law draws. -/
namespace Z
open PySem
section
variable {P : Nat → Option CF} [Lib P] {n k f m l : Nat} {S : Store} {p : Nat} {q : Q3}
abbrev KV := List (L2.Key × D)
structure DkOk (T : Int) (kvs : KV) : Prop where
  each : ∀ kv ∈ kvs, ∃ (i : Int) (d : Rat), kv = (.inl i, fr d) ∧ 0 ≤ i ∧ i ≤ 6 * T ∧ 0 < d ∧ Bd d 200
  nd : (kvs.map (·.1)).Nodup
theorem any_key {kvs : KV} {k : L2.Key} : (kvs.any fun kv => decide (kv.1 = k)) = true ↔ k ∈ kvs.map (·.1) := by
  simp only [List.any_eq_true, decide_eq_true_eq, List.mem_map]
theorem DkOk.put {T : Int} {kvs : KV} (h : DkOk T kvs) {i : Int} {d : Rat} (h0 : 0 ≤ i) (h1 : i ≤ 6 * T) (hd : 0 < d) (hs : Bd d 200) : DkOk T (putD kvs (.inl i) (fr d)) ∧ (putD kvs (.inl i) (fr d)).length ≤ kvs.length + 1 := by
  unfold putD
  by_cases ha : (kvs.any fun kv => decide (kv.1 = (.inl i : L2.Key))) = true
  · rw [if_pos ha]
    refine ⟨⟨fun kv hkv => ?_, ?_⟩, by simp⟩
    · obtain ⟨x, hx, rfl⟩ := List.mem_map.mp hkv
      split
      · rename_i e
        exact ⟨i, d, by rw [e], h0, h1, hd, hs⟩
      · exact h.each x hx
    · have e : (kvs.map fun kv => if kv.1 = (.inl i : L2.Key) then (kv.1, fr d) else kv).map (·.1) = kvs.map (·.1) := by
        rw [List.map_map]
        refine List.map_congr_left fun x _ => ?_
        simp only [Function.comp]
        split <;> rfl
      rw [e]
      exact h.nd
  · rw [if_neg ha]
    refine ⟨⟨fun kv hkv => ?_, ?_⟩, by simp⟩
    · rcases List.mem_append.mp hkv with hkv | hkv
      · exact h.each kv hkv
      · rw [List.mem_singleton.mp hkv]
        exact ⟨i, d, rfl, h0, h1, hd, hs⟩
    · rw [any_key] at ha
      rw [List.map_append, List.map_cons, List.map_nil, List.nodup_append]
      exact ⟨h.nd, by simp, fun a h1 b h2 => by rw [List.mem_singleton.mp h2]; intro e; subst e; exact ha h1⟩
theorem setD_Sq {kvs : KV} {i : Int} {v : D} (hp : p < S.length) (hl : kvs.length < 1000) : setEv (.ref S.length) (.int i) v (Sq (S ++ [.dk kvs]) p q) = some (Sq (S ++ [.dk (putD kvs (.inl i) v)]) p q) := by
  have : kvs.length < sizeLine := by rw [sizeLine_eq]; omega
  simp only [setEv, Sq_last hp, keyOf, Option.bind_some, if_pos this, Sq_setLast hp]
theorem idxD_Sq {kvs : KV} {i : Int} (hp : p < S.length) : idxEv (.ref S.length) (.int i) (Sq (S ++ [.dk kvs]) p q) = valD kvs (.inl i) := by
  simp only [idxEv, dkOf, Sq_last hp, keyOf, Option.bind_some]
theorem sorted_Sq {kvs : KV} {ks : List Int} (hp : p < S.length) (h : keysI kvs = some ks) (hl : ks.length < 64) : bltEv .sorted [.ref S.length] (Sq (S ++ [.dk kvs]) p q) = some (.lst ((sortI ks).map .int)) := by
  simp only [bltEv, dkOf, Sq_last hp, h, Option.bind_some, if_pos hl]
theorem DkOk.keys {T : Int} : ∀ {kvs : KV}, (∀ kv ∈ kvs, ∃ (i : Int) (d : Rat), kv = (.inl i, fr d) ∧ 0 ≤ i ∧ i ≤ 6 * T ∧ 0 < d ∧ Bd d 200) → ∃ ks, keysI kvs = some ks ∧ ks.length = kvs.length
  | [], _ => ⟨[], rfl, rfl⟩
  | kv :: kvs, h => by
    obtain ⟨i, d, rfl, _⟩ := h kv List.mem_cons_self
    obtain ⟨ks, e, l⟩ := DkOk.keys fun x hx => h x (List.mem_cons_of_mem _ hx)
    exact ⟨i :: ks, by rw [keysI, e]; rfl, by simp [l]⟩
theorem val_mem : ∀ {kvs : KV} {k : L2.Key}, k ∈ kvs.map (·.1) → ∃ kv ∈ kvs, kv.1 = k ∧ valD kvs k = some kv.2
  | [], k, h => by simp at h
  | x :: kvs, k, h => by
    by_cases e : x.1 = k
    · exact ⟨x, List.mem_cons_self, e, by simp [valD, List.find?_cons, e]⟩
    · have h2 : k ∈ kvs.map (·.1) := by
        rw [List.map_cons] at h
        rcases List.mem_cons.mp h with z | z
        · exact absurd z.symm e
        · exact z
      obtain ⟨kv, h3, h4, h5⟩ := val_mem h2
      exact ⟨kv, List.mem_cons_of_mem _ h3, h4, by rw [← h5]; simp [valD, List.find?_cons, e]⟩
theorem sz_200 {a b : Int} (ha : a.natAbs ≤ 2 ^ 200) (hb : 0 < b) (hb2 : b < 2 ^ 64) : Bd ((a : Rat) / (b : Rat)) 200 := bd_div ha (by omega)
/-- behind the drawing: the leaks in their order -/
theorem dk_leaks {T : Int} {kvs : KV} (h : DkOk T kvs) (ls : List Len) (hT : T = allSteps ls) (h0 : 0 ≤ T) (h1 : T ≤ 11988) (hl : kvs.length ≤ 6) :
    ∃ (ks : List Int) (dv : Int → Rat), keysI kvs = some ks ∧ ks.length < 64 ∧ (sortI ks).length ≤ kvs.length ∧ (∀ a ∈ sortI ks, valD kvs (.inl a) = some (fr (dv a))) ∧ KsOk ls ((sortI ks).map fun a : Int => ((a : Rat) / ((6 : Int) : Rat), dv a)) ∧ ∀ x ∈ (sortI ks).map (fun a : Int => ((a : Rat) / ((6 : Int) : Rat), dv a)), Bd x.1 200 ∧ Bd x.2 200 := by
  obtain ⟨ks, e, hlen⟩ := DkOk.keys h.each
  have hk := keysI_at e
  have perm : (sortI ks).Perm ks := List.mergeSort_perm ks _
  have nd : ks.Nodup := by
    have := h.nd
    rw [hk] at this
    exact (List.pairwise_map.mp this).imp fun h e => h (by rw [e])
  have nd2 : (sortI ks).Nodup := perm.nodup_iff.mpr nd
  have srt : (sortI ks).Pairwise (· ≤ ·) := by
    have := List.pairwise_mergeSort (le := fun a b : Int => decide (a ≤ b)) (fun a b c h1 h2 => by simp at *; omega) (fun a b => by simp; omega) ks
    exact this.imp fun h => of_decide_eq_true h
  have val : ∀ a, ∃ d : Rat, a ∈ sortI ks → valD kvs (.inl a) = some (fr d) ∧ 0 ≤ a ∧ a ≤ 6 * T ∧ 0 < d ∧ Bd d 200 := fun a => by
    by_cases ha : a ∈ sortI ks
    · have hm : (.inl a : L2.Key) ∈ kvs.map (·.1) := by
        rw [hk]
        exact List.mem_map.mpr ⟨a, perm.mem_iff.mp ha, rfl⟩
      obtain ⟨kv, m1, m2, m3⟩ := val_mem hm
      obtain ⟨i, d, rfl, g0, g1, g2, g3⟩ := h.each kv m1
      cases m2
      exact ⟨d, fun _ => ⟨m3, g0, g1, g2, g3⟩⟩
    · exact ⟨0, fun z => absurd z ha⟩
  obtain ⟨dv, hdv⟩ := Classical.axiomOfChoice val
  have each : ∀ x ∈ (sortI ks).map (fun a : Int => ((a : Rat) / ((6 : Int) : Rat), dv a)), 0 ≤ x.1 ∧ x.1 ≤ ((allSteps ls : Int) : Rat) ∧ 0 < x.2 ∧ Bd x.1 1000 ∧ Bd x.2 1000 := fun x hx => by
    obtain ⟨a, ha, rfl⟩ := List.mem_map.mp hx
    obtain ⟨_, g0, g1, g2, g3⟩ := hdv a ha
    refine ⟨div_nonneg' g0 (by decide), ?_, g2, (sz_200 (by omega) (by decide) (by decide)).mono (by omega), g3.mono (by omega)⟩
    show (a : Rat) / ((6 : Int) : Rat) ≤ ((allSteps ls : Int) : Rat)
    rw [← hT]
    have h6 : ((6 : Int) : Rat) = 6 := rfl
    have : ((a : Int) : Rat) ≤ ((T * 6 : Int) : Rat) := Rat.intCast_le_intCast.mpr (by omega)
    rw [Rat.intCast_mul] at this
    rw [h6] at this ⊢
    grind
  refine ⟨ks, dv, e, by omega, by rw [perm.length_eq]; omega, fun a ha => (hdv a ha).1, ⟨by rw [List.length_map, perm.length_eq]; omega, .inr (by decide), by decide, fun x hx => (each x hx).1, fun x hx => (each x hx).2.1, fun x hx => (each x hx).2.2.1, fun x hx => (each x hx).2.2.2.1, fun x hx => (each x hx).2.2.2.2, ?_⟩, fun x hx => ?_⟩
  · rw [List.pairwise_map]
    refine (srt.and nd2).imp fun {a b} ⟨h1, h2⟩ => ?_
    show (a : Rat) / ((6 : Int) : Rat) < (b : Rat) / ((6 : Int) : Rat)
    have h3 : (a : Rat) < (b : Rat) := Rat.intCast_lt_intCast.mpr (by omega)
    have h6 : ((6 : Int) : Rat) = 6 := rfl
    rw [h6]
    grind
  · obtain ⟨a, ha, rfl⟩ := List.mem_map.mp hx
    obtain ⟨_, g0, g1, g2, g3⟩ := hdv a ha
    exact ⟨sz_200 (by omega) (by decide) (by decide), g3⟩
theorem leaks_body (q : Q3) (ls : List Len) [h : LsOk ls] : ∃ (i : Int) (d : Rat) (q' : Q3), 0 ≤ i ∧ i ≤ 6 * allSteps ls ∧ 0 < d ∧ Bd d 200 ∧ ∀ (n : Nat) (S : Store) (p : Nat) (b : Rat) (x2 x4 x5 : Option D) (kvs : KV), p < S.length → kvs.length < 900 →
    run (evF P (n + 2)) (cb_law_leaks_2_1 (Lib.ix P)) [some (.ref p), some (.tup [.tup (ls.map enL), fr b]), x2, some (.ref S.length), x4, x5] (Sq (S ++ [.dk kvs]) p q) = .nx [some (.ref p), some (.tup [.tup (ls.map enL), fr b]), x2, some (.ref S.length), x4, x5] (Sq (S ++ [.dk (putD kvs (.inl i) (fr d))]) p q') := by
  have r1 := pkR_nonneg (m := 60) (q := q) (by decide)
  have u1 := pkR_lt (m := 60) (q := q) (by decide)
  obtain ⟨b, hb, s2⟩ := pk4 (l := [1, 1, 2, 7]) (q := pkQ 60 q) (m := 4) rfl (by decide)
  have bb : 0 < b ∧ b ≤ 7 := by simp at hb; omega
  obtain ⟨r3, q3, l3, u3, e3⟩ := ex_sixths (P := P) (pkQ 4 (pkQ 60 q)) ls
  refine ⟨r3, ((1 + pkR 60 q : Int) : Rat) / (b : Rat), q3, l3, u3, div_pos' (a := 1 + pkR 60 q) (by omega) bb.1, sz_200 (a := 1 + pkR 60 q) (by omega) bb.1 (by omega), fun n S p bk x2 x4 x5 kvs hp hl => ?_⟩
  have hp1 : p < S.length + 1 := by omega
  have b0 : b ≠ 0 := by omega
  have hp' := len_hi hp (.dk kvs)
  have e := ev_law_low (P := P) (n := n + 1) (S := Sq (S ++ [.dk kvs]) p (pkQ 4 (pkQ 60 q))) (a := 1 + pkR 60 q) (b := b) b0
  have e5 := setD_Sq (q := q3) (i := r3) (v := fr (((1 + pkR 60 q : Int) : Rat) / (b : Rat))) (kvs := kvs) hp (by omega)
  have e6 := e3 n (S ++ [.dk kvs]) p bk hp'
  simp only [List.map_cons, List.map_nil] at s2
  simp [cb_law_leaks_2_1, hp1, s2, e, -ev_law_low, e6]
  simp at e5
  simp [e5]
theorem leaks_loop (ls : List Len) [h : LsOk ls] : ∀ (items : List D) (q : Q3) (kvs : KV), kvs.length + items.length < 900 → DkOk (allSteps ls) kvs → ∃ (ys : KV) (q' : Q3), DkOk (allSteps ls) ys ∧ ys.length ≤ kvs.length + items.length ∧
    ∀ (n : Nat) (S : Store) (p : Nat) (b : Rat) (w : List D) (x2 x4 x5 : Option D), p < S.length → ∃ y4, forEv (run (evF P (n + 2)) (cb_law_leaks_2_1 (Lib.ix P))) (.nm 4) (.fix w) items [some (.ref p), some (.tup [.tup (ls.map enL), fr b]), x2, some (.ref S.length), x4, x5] (Sq (S ++ [.dk kvs]) p q) = .nx [some (.ref p), some (.tup [.tup (ls.map enL), fr b]), x2, some (.ref S.length), y4, x5] (Sq (S ++ [.dk ys]) p q')
  | [], q, kvs, hl, ok => ⟨kvs, q, ok, by simp, fun n S p b w x2 x4 x5 hp => ⟨x4, by simp [forEv, at_fix]⟩⟩
  | d :: items, q, kvs, hl, ok => by
    simp only [List.length_cons] at hl
    obtain ⟨i, v, q1, i0, i1, v0, vs, e1⟩ := leaks_body (P := P) q ls
    obtain ⟨ok2, l2⟩ := ok.put i0 i1 v0 vs
    obtain ⟨ys, q2, ok3, l3, e2⟩ := leaks_loop ls items q1 _ (by omega) ok2
    refine ⟨ys, q2, ok3, by simp; omega, fun n S p b w x2 x4 x5 hp => ?_⟩
    obtain ⟨y4, e3⟩ := e2 n S p b w x2 (some d) x5 hp
    refine ⟨y4, ?_⟩
    simp only [forEv, at_fix, if_true, stepT_nm, List.length_cons, List.length_nil, Nat.reduceAdd, Nat.reduceLT, List.set_cons_succ, List.set_cons_zero, e1 n S p b x2 (some d) x5 kvs hp (by omega)]
    exact e3
theorem ex_leaks (q : Q3) (ls : List Len) [h : LsOk ls] {c : Int} (h0 : 0 ≤ c) (h1 : c ≤ 6) : ∃ (xs : List Leak) (q' : Q3), KsOk ls xs ∧ (xs.length : Int) ≤ c ∧ (∀ x ∈ xs, Bd x.1 200 ∧ Bd x.2 200) ∧ ∀ n S p b, p < S.length → evF P (n + 3) (f_law_leaks_2 P) [.ref p, .tup [.tup (ls.map enL), fr b], .int c] (Sq S p q) = .ok (.tup (xs.map enK)) (Sq S p q') := by
  have hst := steps_pos h.len
  have hhi := h.hi
  have r0 := pkR_nonneg (m := c + 1) (q := q) (by omega)
  have u0 := pkR_lt (m := c + 1) (q := q) (by omega)
  obtain ⟨kvs, q2, ok, hl, e1⟩ := leaks_loop (P := P) ls (rngD 0 (pkR (c + 1) q)) (pkQ (c + 1) q) [] (by simp [rng_len]; omega) ⟨by simp, by simp⟩
  simp only [rng_len, List.length_nil] at hl
  obtain ⟨ks, dv, k1, k2, k3, k4, k5, k6⟩ := dk_leaks ok ls rfl hst.1 (by omega) (by omega)
  have hlen : ((sortI ks).map fun a : Int => ((a : Rat) / ((6 : Int) : Rat), dv a)).length = (sortI ks).length := List.length_map _
  have e0 : ((sortI ks).map fun a : Int => enK ((a : Rat) / ((6 : Int) : Rat), dv a)) = ((sortI ks).map fun a : Int => ((a : Rat) / ((6 : Int) : Rat), dv a)).map enK := by rw [List.map_map]; rfl
  have ev : ∀ n S p b y4, p < S.length → compEv (ev (evF P (n + 2)) (.tup (.cons (.call (Lib.ix P 21) (.cons (.var 5) (.cons (.con (.int 6)) .nil))) (.cons (.idx (.var 3) (.var 5)) .nil)))) (ev (evF P (n + 2)) (.con (.bl true))) (.nm 5) (.fix ((sortI ks).map D.int)) [some (.ref p), some (.tup [.tup (ls.map enL), fr b]), some (.int c), some (.ref S.length), y4, none] [5] ((sortI ks).map D.int) [] (Sq (S ++ [.dk kvs]) p q2) = .ok (((sortI ks).map fun a : Int => ((a : Rat) / ((6 : Int) : Rat), dv a)).map enK) (Sq (S ++ [.dk kvs]) p q2) := fun n S p b y4 hp => by
    rw [comp_map D.int (fun a : Int => enK ((a : Rat) / ((6 : Int) : Rat), dv a)) (sortI ks) [] (by simp; omega) (fun a ha => by
      have e' := idxD_Sq (q := q2) (kvs := kvs) (i := a) hp
      rw [k4 a ha] at e'
      simp [wipeD, e', enK])]
    rw [List.nil_append, e0]
  generalize ((sortI ks).map fun a : Int => ((a : Rat) / ((6 : Int) : Rat), dv a)) = ys at *
  refine ⟨ys, q2, k5, by omega, k6, fun n S p b hp => ?_⟩
  rw [evF_at (p_law_leaks_2 P) rfl rfl]
  obtain ⟨y4, e2⟩ := e1 n S p b (rngD 0 (pkR (c + 1) q)) (some (.int c)) none none hp
  have hp1 : p < S.length + 1 := by omega
  have c0 : 0 < c + 1 := by omega
  have s1 : small62 0 := ⟨by decide, by decide⟩
  have s2 : small62 (pkR (c + 1) q) := ⟨by omega, by omega⟩
  have hso := sorted_Sq (q := q2) hp k1 k2
  have ec := ev n S p b y4 hp
  simp [cf_law_leaks_2, Sq_app hp, hp1, c0, s1, s2, e2, hso, ec]
  exact gc_sq (S := S) (q := q) (T := [.dk kvs]) (q' := q2) hp (by simp [noref, norefK])
end
end Z

/-! X, part J: a law's program made wider; a law's loop. -/
namespace Z
open PySem
def callsE (M : Nat) : CE → Bool
  | .cons a b => callsE M a && callsE M b
  | .one a => callsE M a
  | .tup a => callsE M a
  | .lst a => callsE M a
  | .mlst a => callsE M a
  | .bin _ a b => callsE M a && callsE M b
  | .neg a => callsE M a
  | .cmp _ a b => callsE M a && callsE M b
  | .chain _ _ a b c => callsE M a && (callsE M b && callsE M c)
  | .not a => callsE M a
  | .and a b => callsE M a && callsE M b
  | .or a b => callsE M a && callsE M b
  | .ife a b c => callsE M a && (callsE M b && callsE M c)
  | .idx a b => callsE M a && callsE M b
  | .sl a b c => callsE M a && (callsE M b && callsE M c)
  | .rev a => callsE M a
  | .call f a => decide (f < M) && callsE M a
  | .blt _ a => callsE M a
  | .isi a _ => callsE M a
  | .mth _ a b => callsE M a && callsE M b
  | .rng a b => callsE M a && callsE M b
  | .rgl a b => callsE M a && callsE M b
  | .setd a b c => callsE M a && callsE M b && callsE M c
  | .comp a _ b c _ _ => callsE M a && (callsE M b && callsE M c)
  | _ => true
def callsS (M : Nat) : CS → Bool
  | .seq a b => callsS M a && callsS M b
  | .expr e => callsE M e
  | .ret e => callsE M e
  | .asg _ e => callsE M e
  | .set a b c => callsE M a && (callsE M b && callsE M c)
  | .ife c a b => callsE M c && (callsS M a && callsS M b)
  | .whl c b => callsE M c && callsS M b
  | .fr _ i b => callsE M i && callsS M b
  | .rais _ a => callsE M a
  | .tr b _ _ h => callsS M b && callsS M h
  | _ => true
structure Same (F F' : Fn) (e : CE) : Prop where
  v : ev F e = ev F' e
  vs : evs F e = evs F' e
  i : evI F e = evI F' e
  o : evo F e = evo F' e
section
variable {F F' : Fn} {M : Nat}
theorem same_of (hF : ∀ f, f < M → F f = F' f) : ∀ e : CE, callsE M e = true → Same F F' e := fun e => by
  induction e with
  | call f a ih =>
    intro h
    simp only [callsE, Bool.and_eq_true, decide_eq_true_eq] at h
    have i := ih h.2
    constructor <;> funext δ S <;> simp [ev, evs, evI, evo, i.vs, hF f h.1]
  | comp a t b c o m ih1 ih2 ih3 =>
    intro h
    simp only [callsE, Bool.and_eq_true] at h
    have i1 := ih1 h.1
    have i2 := ih2 h.2.1
    have i3 := ih3 h.2.2
    constructor <;> funext δ S <;> simp [ev, evs, evI, evo, i1.v, i2.i, i3.v]
  | cons a b ih1 ih2 =>
    intro h
    simp only [callsE, Bool.and_eq_true] at h
    have i1 := ih1 h.1
    have i2 := ih2 h.2
    constructor <;> funext δ S <;> simp [ev, evs, evI, evo, i1.v, i2.vs]
  | one a ih => intro h; have i := ih (by simpa [callsE] using h); constructor <;> funext δ S <;> simp [ev, evs, evI, evo, i.v]
  | tup a ih => intro h; have i := ih (by simpa [callsE] using h); constructor <;> funext δ S <;> simp [ev, evs, evI, evo, i.vs]
  | lst a ih => intro h; have i := ih (by simpa [callsE] using h); constructor <;> funext δ S <;> simp [ev, evs, evI, evo, i.vs]
  | mlst a ih => intro h; have i := ih (by simpa [callsE] using h); constructor <;> funext δ S <;> simp [ev, evs, evI, evo, i.vs]
  | neg a ih => intro h; have i := ih (by simpa [callsE] using h); constructor <;> funext δ S <;> simp [ev, evs, evI, evo, i.v]
  | not a ih => intro h; have i := ih (by simpa [callsE] using h); constructor <;> funext δ S <;> simp [ev, evs, evI, evo, i.v]
  | rev a ih => intro h; have i := ih (by simpa [callsE] using h); constructor <;> funext δ S <;> simp [ev, evs, evI, evo, i.v]
  | isi a t ih => intro h; have i := ih (by simpa [callsE] using h); constructor <;> funext δ S <;> simp [ev, evs, evI, evo, i.v]
  | blt b a ih => intro h; have i := ih (by simpa [callsE] using h); constructor <;> funext δ S <;> simp [ev, evs, evI, evo, i.vs]
  | setd a b c ih1 ih2 ih3 => intro h; simp only [callsE, Bool.and_eq_true] at h; have i1 := ih1 h.1.1; have i2 := ih2 h.1.2; have i3 := ih3 h.2; constructor <;> funext δ S <;> simp [ev, evs, evI, evo, i1.v, i2.v, i3.v]
  | rgl a b ih1 ih2 => intro h; simp only [callsE, Bool.and_eq_true] at h; have i1 := ih1 h.1; have i2 := ih2 h.2; constructor <;> funext δ S <;> simp [ev, evs, evI, evo, i1.v, i2.v]
  | bin op a b ih1 ih2 => intro h; simp only [callsE, Bool.and_eq_true] at h; have i1 := ih1 h.1; have i2 := ih2 h.2; constructor <;> funext δ S <;> simp [ev, evs, evI, evo, i1.v, i2.v]
  | cmp op a b ih1 ih2 => intro h; simp only [callsE, Bool.and_eq_true] at h; have i1 := ih1 h.1; have i2 := ih2 h.2; constructor <;> funext δ S <;> simp [ev, evs, evI, evo, i1.v, i2.v]
  | and a b ih1 ih2 => intro h; simp only [callsE, Bool.and_eq_true] at h; have i1 := ih1 h.1; have i2 := ih2 h.2; constructor <;> funext δ S <;> simp [ev, evs, evI, evo, i1.v, i2.v]
  | or a b ih1 ih2 => intro h; simp only [callsE, Bool.and_eq_true] at h; have i1 := ih1 h.1; have i2 := ih2 h.2; constructor <;> funext δ S <;> simp [ev, evs, evI, evo, i1.v, i2.v]
  | idx a b ih1 ih2 => intro h; simp only [callsE, Bool.and_eq_true] at h; have i1 := ih1 h.1; have i2 := ih2 h.2; constructor <;> funext δ S <;> simp [ev, evs, evI, evo, i1.v, i2.v]
  | mth m a b ih1 ih2 => intro h; simp only [callsE, Bool.and_eq_true] at h; have i1 := ih1 h.1; have i2 := ih2 h.2; constructor <;> funext δ S <;> simp [ev, evs, evI, evo, i1.v, i2.vs]
  | rng a b ih1 ih2 => intro h; simp only [callsE, Bool.and_eq_true] at h; have i1 := ih1 h.1; have i2 := ih2 h.2; constructor <;> funext δ S <;> simp [ev, evs, evI, evo, i1.v, i2.v]
  | chain o1 o2 a b c ih1 ih2 ih3 => intro h; simp only [callsE, Bool.and_eq_true] at h; have i1 := ih1 h.1; have i2 := ih2 h.2.1; have i3 := ih3 h.2.2; constructor <;> funext δ S <;> simp [ev, evs, evI, evo, i1.v, i2.v, i3.v]
  | ife a b c ih1 ih2 ih3 => intro h; simp only [callsE, Bool.and_eq_true] at h; have i1 := ih1 h.1; have i2 := ih2 h.2.1; have i3 := ih3 h.2.2; constructor <;> funext δ S <;> simp [ev, evs, evI, evo, i1.v, i2.v, i3.v]
  | sl a b c ih1 ih2 ih3 => intro h; simp only [callsE, Bool.and_eq_true] at h; have i1 := ih1 h.1; have i2 := ih2 h.2.1; have i3 := ih3 h.2.2; constructor <;> funext δ S <;> simp [ev, evs, evI, evo, i1.v, i2.o, i3.o]
  | _ => intro h; constructor <;> funext δ S <;> simp [ev, evs, evI, evo]
theorem same_run (hF : ∀ f, f < M → F f = F' f) : ∀ s : CS, callsS M s = true → run F s = run F' s := fun s => by
  induction s with
  | seq a b ih1 ih2 => intro h; simp only [callsS, Bool.and_eq_true] at h; funext δ S; simp only [run, ih1 h.1, ih2 h.2]
  | expr e => intro h; have i := same_of hF e (by simpa [callsS] using h); funext δ S; simp only [run, i.v]
  | ret e => intro h; have i := same_of hF e (by simpa [callsS] using h); funext δ S; simp only [run, i.v]
  | asg t e => intro h; have i := same_of hF e (by simpa [callsS] using h); funext δ S; simp only [run, i.v]
  | set a b c => intro h; simp only [callsS, Bool.and_eq_true] at h; have i1 := same_of hF a h.1; have i2 := same_of hF b h.2.1; have i3 := same_of hF c h.2.2; funext δ S; simp only [run, i1.v, i2.v, i3.v]
  | ife c a b ih1 ih2 => intro h; simp only [callsS, Bool.and_eq_true] at h; have i1 := same_of hF c h.1; funext δ S; simp only [run, i1.v, ih1 h.2.1, ih2 h.2.2]
  | whl c b ih => intro h; simp only [callsS, Bool.and_eq_true] at h; have i1 := same_of hF c h.1; funext δ S; simp only [run, i1.v, ih h.2]
  | fr t i b ih => intro h; simp only [callsS, Bool.and_eq_true] at h; have i1 := same_of hF i h.1; funext δ S; simp only [run, i1.i, ih h.2]
  | rais c a => intro h; have i := same_of hF a (by simpa [callsS] using h); funext δ S; simp only [run, i.v]
  | tr b c i h ih1 ih2 => intro hh; simp only [callsS, Bool.and_eq_true] at hh; funext δ S; simp only [run, ih1 hh.1, ih2 hh.2]
  | _ => intro h; funext δ S; simp only [run]
end
/-- a wider program answers as the narrower one -/
theorem evF_wide {P P' : Nat → Option CF} {M : Nat} (h : ∀ i, i < M → P i = P' i) (hc : ∀ i cf, i < M → P i = some cf → callsS M cf.body = true) : ∀ (n f : Nat), f < M → evF P n f = evF P' n f
  | 0, f, hf => by funext ds S; simp only [evF]
  | n + 1, f, hf => by
    have ih := evF_wide h hc n
    funext ds S
    simp only [evF, ← h f hf]
    cases e : P f with
    | none => rfl
    | some cf => simp only [same_run ih cf.body (hc f cf hf e)]
def progW (L : Lw) (ext : List CF) (i : Nat) : Option CF := if i < L.defs.length then L.prog i else ext[i - L.defs.length]?
def closedB (L : Lw) : Bool := (List.range L.defs.length).all fun i => match L.prog i with
  | some cf => callsS L.defs.length cf.body
  | none => true
theorem evF_progW {L : Lw} {ext : List CF} (hc : closedB L = true) {n f : Nat} (hf : f < L.defs.length) : evF L.prog n f = evF (progW L ext) n f :=
  evF_wide (fun i hi => by unfold progW; rw [if_pos hi]) (fun i cf hi e => by
    have := List.all_eq_true.mp hc i (List.mem_range.mpr hi)
    rw [e] at this
    exact this) n f hf
theorem tab_of {P : Nat → Option CF} {ix : Nat → Nat} {l : List (Nat × CF)} (h : (l.map fun x => P (ix x.1)) = l.map fun x => some x.2) : ∀ x ∈ l, P (ix x.1) = some x.2 := fun x hx => (List.map_inj_left.mp h) x hx
/-- a law's loop over its cells: it goes on to the end -/
theorem law_loop {F : Fn} {body : CS} {scr : D} {N : Nat} {w : List D} (h : ∀ (i : Int) (t : List (Option D)) (S : Store), 0 ≤ i → i < 64 → t.length = N → ∃ t' S', run F body (some scr :: some (.int i) :: t) S = .nx (some scr :: t') S' ∧ t'.length = N + 1) :
    ∀ (items : List Int) (x : Option D) (t : List (Option D)) (S : Store), (∀ i ∈ items, 0 ≤ i ∧ i < 64) → t.length = N → ∃ t' S', forEv (run F body) (.nm 1) (.fix w) (items.map D.int) (some scr :: x :: t) S = .nx (some scr :: t') S' ∧ t'.length = N + 1
  | [], x, t, S, _, ht => ⟨x :: t, S, by simp [forEv, at_fix], by simp [ht]⟩
  | i :: items, x, t, S, hi, ht => by
    obtain ⟨t1, S1, e1, l1⟩ := h i t S (hi i List.mem_cons_self).1 (hi i List.mem_cons_self).2 ht
    cases t1 with
    | nil => simp at l1
    | cons y t1 =>
      simp at l1
      obtain ⟨t2, S2, e2, l2⟩ := law_loop h items y t1 S1 (fun j hj => hi j (List.mem_cons_of_mem _ hj)) l1
      refine ⟨t2, S2, ?_, l2⟩
      rw [List.map_cons]
      unfold forEv
      rw [if_pos at_fix']
      simp only [stepT_nm, List.length_cons, List.set_cons_succ, List.set_cons_zero]
      rw [if_pos (by omega)]
      simp only [e1]
      exact e2
theorem gc_ex (S0 S' : Store) (d : D) : ∃ S, gc S0 (.ok d S') = .ok d S := by
  by_cases h : Keep S0 S' ∧ noref d = true
  · exact ⟨S'.take S0.length, by simp only [gc, if_pos h]⟩
  · exact ⟨S', by simp only [gc, if_neg h]⟩
theorem rngD_ints (c : Int) : rngD 0 c = ((List.range c.toNat).map fun k : Nat => (k : Int)).map D.int := by
  unfold rngD
  rw [List.map_map]
  simp
/-- a law that goes over cells and then says yes -/
theorem law_good {P : Nat → Option CF} {n f N : Nat} {E : CE} {body : CS} {scr : D} (h : P f = some ⟨1, N + 2, .seq (.fr (.nm 1) (.rng (.con (.int 0)) E) body) (.ret (.con (.bl true)))⟩) (c : Int) (h0 : 0 ≤ c) (h1 : c < 64)
    (hE : ev (evF P n) E (some scr :: List.replicate (N + 1) none) [] = .ok (.int c) [])
    (step : ∀ (i : Int) (t : List (Option D)) (S : Store), 0 ≤ i → i < 64 → t.length = N → ∃ t' S', run (evF P n) body (some scr :: some (.int i) :: t) S = .nx (some scr :: t') S' ∧ t'.length = N + 1) :
    ∃ S, evF P (n + 1) f [scr] [] = .ok (.bl true) S := by
  rw [evF_at h rfl (by simp)]
  obtain ⟨t', S', e, lt⟩ := law_loop (w := rngD 0 c) step ((List.range c.toNat).map fun k : Nat => (k : Int)) none (List.replicate N none) [] (fun i hi => by
    obtain ⟨k, hk, rfl⟩ := List.mem_map.mp hi
    have := List.mem_range.mp hk
    omega) (by simp)
  rw [← rngD_ints] at e
  have s1 : small62 0 := ⟨by decide, by decide⟩
  have s2 : small62 c := ⟨by omega, by omega⟩
  obtain ⟨S, hS⟩ := gc_ex [] S' (.bl true)
  refine ⟨S, ?_⟩
  rw [← hS]
  congr 1
  have e0 : N + 2 - 1 = N + 1 := by omega
  have e1 : (some scr :: List.replicate (N + 1) none : Env) = some scr :: none :: List.replicate N none := rfl
  rw [e1] at hE
  simp only [e0, List.map_cons, List.map_nil, List.cons_append, List.nil_append, run_seq, run_fr, evI_rng, ev_con', R.bk_ok, List.replicate_succ, hE]
  rw [if_pos ⟨s1, s2⟩]
  simp only [R.sk_ok, items_fix, e, SR.bs_nx, run_ret, ev_con', out_rt]
end Z

/-! X, part K: stretches in order: a leak more, a lesser drag. -/
namespace Z
def Pos (q : Sn) : Prop := 0 ≤ q.1 ∧ 0 ≤ q.2.1 ∧ 0 < q.2.2
def OPos (o : Option Sn) : Prop := ∀ q, o = some q → Pos q
/-- what flows: drag by squares -/
def quad (q : Sn) (x y : Rat) : Rat := q.1 * (x * x) + q.2.1 * (y * y) + q.2.2 * ((x + y) * (x + y))
/-- the one stretch presses no more than the other, both of this drag -/
def Le (d : Rat) : Option Sn → Option Sn → Prop
  | none, none => True
  | some a, none => a.1 + a.2.1 ≤ d
  | none, some _ => False
  | some a, some b => ∀ x y, quad a x y ≤ quad b x y
def leakO (d g : Rat) (o : Option Sn) : Option Sn := joinO d 0 o (some (0, 0, g))
def wireO (l : Rat) (o : Option Sn) : Option Sn := joinO 0 l o none
theorem wireO_some (l : Rat) (q : Sn) : wireO l (some q) = some (q.1, q.2.1 + l, q.2.2) := rfl
theorem wireO_none (l : Rat) : wireO l none = none := rfl
theorem join_wire (d l : Rat) (o : Option Sn) : join (d, o) (l, none) = (d + l, wireO l o) := by cases o <;> rfl
theorem join_leak (d g : Rat) (o : Option Sn) : join (d, o) (0, some (0, 0, g)) = (d, leakO d g o) := by
  unfold join leakO
  rw [Rat.add_zero]
theorem wire_wire (l k : Rat) (o : Option Sn) : wireO k (wireO l o) = wireO (l + k) o := by
  cases o with
  | none => rfl
  | some q => rw [wireO_some, wireO_some, wireO_some]; congr 3; grind
theorem sq_nonneg (x : Rat) : 0 ≤ x * x := by
  by_cases h : 0 ≤ x
  · exact Rat.mul_nonneg h h
  · have := Rat.mul_nonneg (show 0 ≤ -x by grind) (show 0 ≤ -x by grind)
    grind
theorem Le.wire {d l : Rat} {s t : Option Sn} (h : Le d s t) : Le (d + l) (wireO l s) (wireO l t) := by
  cases s with
  | none => cases t with
    | none => trivial
    | some b => exact h.elim
  | some a => cases t with
    | none =>
      have h : a.1 + a.2.1 ≤ d := h
      show a.1 + (a.2.1 + l) ≤ d + l
      grind
    | some b =>
      intro x y
      have := (show ∀ x y, quad a x y ≤ quad b x y from h) x y
      unfold quad at *
      show a.1 * (x * x) + (a.2.1 + l) * (y * y) + a.2.2 * ((x + y) * (x + y)) ≤ b.1 * (x * x) + (b.2.1 + l) * (y * y) + b.2.2 * ((x + y) * (x + y))
      grind
theorem bs_leak (q : Sn) (g : Rat) : bothSeen q (0, 0, g) = (q.1 + q.2.2 * q.2.1 / (q.2.2 + g + q.2.1), g * q.2.1 / (q.2.2 + g + q.2.1), q.2.2 * g / (q.2.2 + g + q.2.1)) := by
  unfold bothSeen
  simp only [Rat.add_zero, Rat.zero_add]
/-- the flow shared between what lies west and the leak: no way is cheaper -/
theorem leak_share {q : Sn} {g : Rat} (hq : Pos q) (hg : 0 < g) (x y u : Rat) : quad (bothSeen q (0, 0, g)) x y ≤ quad q x (y - u) + g * (u * u) := by
  obtain ⟨h1, h2, h3⟩ := hq
  rw [bs_leak]
  have r0 : 0 < q.2.2 + g + q.2.1 := by grind
  have rz : q.2.2 + g + q.2.1 ≠ 0 := ne_of_pos r0
  have key : quad q x (y - u) + g * (u * u) - quad (q.1 + q.2.2 * q.2.1 / (q.2.2 + g + q.2.1), g * q.2.1 / (q.2.2 + g + q.2.1), q.2.2 * g / (q.2.2 + g + q.2.1)) x y = (q.2.2 + g + q.2.1) * ((u - (q.2.2 * (x + y) + q.2.1 * y) / (q.2.2 + g + q.2.1)) * (u - (q.2.2 * (x + y) + q.2.1 * y) / (q.2.2 + g + q.2.1))) := by
    unfold quad
    simp only []
    generalize q.1 = w at *
    generalize q.2.1 = e at *
    generalize q.2.2 = f at *
    grind
  have := Rat.mul_nonneg (Rat.le_of_lt r0) (sq_nonneg (u - (q.2.2 * (x + y) + q.2.1 * y) / (q.2.2 + g + q.2.1)))
  grind
theorem leak_best {q : Sn} {g : Rat} (hq : Pos q) (hg : 0 < g) (x y : Rat) : ∃ u, quad (bothSeen q (0, 0, g)) x y = quad q x (y - u) + g * (u * u) := by
  obtain ⟨h1, h2, h3⟩ := hq
  rw [bs_leak]
  have r0 : 0 < q.2.2 + g + q.2.1 := by grind
  have rz : q.2.2 + g + q.2.1 ≠ 0 := ne_of_pos r0
  refine ⟨(q.2.2 * (x + y) + q.2.1 * y) / (q.2.2 + g + q.2.1), ?_⟩
  unfold quad
  simp only []
  generalize q.1 = w at *
  generalize q.2.1 = e at *
  generalize q.2.2 = f at *
  grind
theorem leakO_none (d g : Rat) : leakO d g none = some (0 + d, 0, g) := rfl
theorem leakO_some (d g : Rat) (q : Sn) : leakO d g (some q) = some (bothSeen q (0, 0, g)) := rfl
theorem Le.leak {d g g' : Rat} {s t : Option Sn} (hs : OPos s) (ht : OPos t) (hg : 0 < g') (hgg : g' ≤ g) (h : Le d s t) : Le d (leakO d g' s) (leakO d g t) := by
  have gu : ∀ u : Rat, g' * (u * u) ≤ g * (u * u) := fun u => Rat.mul_le_mul_of_nonneg_right hgg (sq_nonneg u)
  cases s with
  | none =>
    cases t with
    | none =>
      intro x y
      have := gu (x + y)
      unfold quad
      show (0 + d) * (x * x) + 0 * (y * y) + g' * ((x + y) * (x + y)) ≤ (0 + d) * (x * x) + 0 * (y * y) + g * ((x + y) * (x + y))
      grind
    | some b => exact h.elim
  | some a =>
    have pa := hs a rfl
    cases t with
    | none =>
      have h : a.1 + a.2.1 ≤ d := h
      intro x y
      have k := leak_share pa hg x y (x + y)
      have := gu (x + y)
      have h2 := Rat.mul_le_mul_of_nonneg_right h (sq_nonneg x)
      have e : quad a x (y - (x + y)) = (a.1 + a.2.1) * (x * x) := by unfold quad; grind
      have e2 : quad (0 + d, 0, g) x y = d * (x * x) + g * ((x + y) * (x + y)) := by unfold quad; grind
      show quad (bothSeen a (0, 0, g')) x y ≤ quad (0 + d, 0, g) x y
      rw [e2]
      grind
    | some b =>
      have pb := ht b rfl
      have h : ∀ x y, quad a x y ≤ quad b x y := h
      intro x y
      obtain ⟨u, eu⟩ := leak_best pb (show 0 < g by grind) x y
      have k := leak_share pa hg x y u
      have := gu u
      have := h x (y - u)
      show quad (bothSeen a (0, 0, g')) x y ≤ quad (bothSeen b (0, 0, g)) x y
      rw [eu]
      grind
/-- a leak more, just here -/
theorem Le.more {d g : Rat} {s : Option Sn} (hs : OPos s) (hd : 0 ≤ d) (hg : 0 < g) : Le d (leakO d g s) s := by
  cases s with
  | none =>
    show (0 + d) + 0 ≤ d
    grind
  | some a =>
    intro x y
    have k := leak_share (hs a rfl) hg x y 0
    have e : quad a x (y - 0) + g * (0 * 0) = quad a x y := by
      have : y - 0 = y := by grind
      rw [this]
      grind
    rw [e] at k
    exact k
theorem Le.refl (d : Rat) (s : Option Sn) : Le d s s := by
  cases s with
  | none => trivial
  | some a => exact fun x y => Rat.le_refl
theorem OPos.wire {l : Rat} {o : Option Sn} (h : OPos o) (hl : 0 ≤ l) : OPos (wireO l o) := by
  cases o with
  | none => exact fun q hq => by cases hq
  | some a =>
    intro q hq
    cases hq
    obtain ⟨h1, h2, h3⟩ := h a rfl
    exact ⟨h1, by show 0 ≤ a.2.1 + l; grind, h3⟩
theorem OPos.leak {d g : Rat} {o : Option Sn} (h : OPos o) (hd : 0 ≤ d) (hg : 0 < g) : OPos (leakO d g o) := by
  cases o with
  | none =>
    intro q hq
    cases hq
    exact ⟨by show 0 ≤ 0 + d; grind, Rat.le_refl, hg⟩
  | some a =>
    intro q hq
    cases hq
    obtain ⟨h1, h2, h3⟩ := h a rfl
    have r0 : 0 < a.2.2 + g + a.2.1 := by grind
    rw [bs_leak]
    refine ⟨?_, div_nonneg (Rat.mul_nonneg (Rat.le_of_lt hg) h2) r0, div_pos (Rat.mul_pos h3 hg) r0⟩
    have := div_nonneg (Rat.mul_nonneg (Rat.le_of_lt h3) h2) r0
    show 0 ≤ a.1 + a.2.2 * a.2.1 / (a.2.2 + g + a.2.1)
    grind
/-! readings -/
def LeQ : Option Rat → Option Rat → Prop
  | _, none => True
  | none, some _ => False
  | some a, some b => a ≤ b
theorem besides {f e : Rat} (hf : 0 < f) (he : 0 ≤ e) (w : Rat) (y : Rat) : w + besideOf f e ≤ w * (1 * 1) + e * (y * y) + f * ((1 + y) * (1 + y)) := by
  have r0 : 0 < f + e := by grind
  have rz := ne_of_pos r0
  have key : w * (1 * 1) + e * (y * y) + f * ((1 + y) * (1 + y)) - (w + besideOf f e) = (f + e) * ((y + f / (f + e)) * (y + f / (f + e))) := by
    unfold besideOf
    grind
  have := Rat.mul_nonneg (Rat.le_of_lt r0) (sq_nonneg (y + f / (f + e)))
  grind
theorem beside_at {f e : Rat} (hf : 0 < f) (he : 0 ≤ e) (w : Rat) : ∃ y : Rat, w + besideOf f e = w * (1 * 1) + e * (y * y) + f * ((1 + y) * (1 + y)) := by
  have r0 : 0 < f + e := by grind
  have rz := ne_of_pos r0
  refine ⟨-(f / (f + e)), ?_⟩
  unfold besideOf
  grind
theorem Le.reads {d back : Rat} {s t : Option Sn} (hs : OPos s) (ht : OPos t) (h : Le d s t) (k : Nat) : LeQ (readingOf k (d, s) back) (readingOf k (d, t) back) := by
  cases s with
  | none => cases t with
    | none => rcases k with _ | _ | _ | _ | k <;> first | trivial | exact Rat.le_refl
    | some b => exact h.elim
  | some a =>
    obtain ⟨a1, a2, a3⟩ := hs a rfl
    cases t with
    | none =>
      have h : a.1 + a.2.1 ≤ d := h
      rcases k with _ | _ | _ | _ | k
      · trivial
      · trivial
      · have := besides a3 a2 a.1 (-1)
        show a.1 + besideOf a.2.2 a.2.1 ≤ d
        grind
      · have := besides a3 a1 a.2.1 (-1)
        show a.2.1 + besideOf a.2.2 a.1 ≤ d
        grind
      · show back + (a.1 + a.2.1) ≤ back + d
        grind
    | some b =>
      obtain ⟨b1, b2, b3⟩ := ht b rfl
      have h : ∀ x y, quad a x y ≤ quad b x y := h
      rcases k with _ | _ | _ | _ | k
      · have := h 1 0
        unfold quad at this
        show a.1 + a.2.2 ≤ b.1 + b.2.2
        grind
      · have := h 0 1
        unfold quad at this
        show a.2.1 + a.2.2 ≤ b.2.1 + b.2.2
        grind
      · obtain ⟨y, hy⟩ := beside_at b3 b2 b.1
        have k1 := besides a3 a2 a.1 y
        have k2 := h 1 y
        unfold quad at k2
        show a.1 + besideOf a.2.2 a.2.1 ≤ b.1 + besideOf b.2.2 b.2.1
        rw [hy]
        grind
      · obtain ⟨y, hy⟩ := beside_at b3 b1 b.2.1
        have k1 := besides a3 a1 a.2.1 y
        have k2 := h y 1
        unfold quad at k2
        show a.2.1 + besideOf a.2.2 a.1 ≤ b.2.1 + besideOf b.2.2 b.1
        rw [hy]
        grind
      · have := h 1 (-1)
        unfold quad at this
        show back + (a.1 + a.2.1) ≤ back + (b.1 + b.2.1)
        grind
/-! the walk along a cable -/
/-- the two walks: the one just here, the other perhaps some way behind -/
structure Beh (s t : Stretch × Rat) : Prop where
  ds : s.1.1 = s.2
  dt : t.1.1 = t.2
  hs : OPos s.1.2
  ht : OPos t.1.2
  le : t.2 ≤ s.2
  n0 : 0 ≤ t.2
  le2 : Le s.2 s.1.2 (wireO (s.2 - t.2) t.1.2)
theorem stStep_eq (ls : List Len) (s : Stretch × Rat) (x : Leak) (h : s.1.1 = s.2) : stStep ls s x = ((dragAt ls x.1, leakO (dragAt ls x.1) x.2 (wireO (dragAt ls x.1 - s.2) s.1.2)), dragAt ls x.1) := by
  obtain ⟨⟨d, o⟩, h'⟩ := s
  have h : d = h' := h
  subst h
  unfold stStep
  simp only []
  rw [join_wire, join_leak]
  have : d + (dragAt ls x.1 - d) = dragAt ls x.1 := by grind
  rw [this]
theorem Beh.step {ls : List Len} {s t : Stretch × Rat} (B : Beh s t) {x y : Leak} (hxy : x.1 = y.1) (hg : 0 < x.2) (hgg : x.2 ≤ y.2) (hx : s.2 ≤ dragAt ls x.1) : Beh (stStep ls s x) (stStep ls t y) := by
  rw [stStep_eq ls s x B.ds, stStep_eq ls t y B.dt, ← hxy]
  have n0 := B.n0
  have le := B.le
  have e1 := B.hs.wire (l := dragAt ls x.1 - s.2) (by grind)
  have e2 := B.ht.wire (l := dragAt ls x.1 - t.2) (by grind)
  refine ⟨rfl, rfl, e1.leak (by grind) hg, e2.leak (by grind) (by grind), Rat.le_refl, by show 0 ≤ dragAt ls x.1; grind, ?_⟩
  have l1 := B.le2.wire (l := dragAt ls x.1 - s.2)
  rw [wire_wire] at l1
  have a1 : s.2 + (dragAt ls x.1 - s.2) = dragAt ls x.1 := by grind
  have a2 : s.2 - t.2 + (dragAt ls x.1 - s.2) = dragAt ls x.1 - t.2 := by grind
  rw [a1, a2] at l1
  have l2 := l1.leak e1 e2 hg hgg
  show Le (dragAt ls x.1) (leakO _ x.2 _) (wireO (dragAt ls x.1 - dragAt ls x.1) (leakO _ y.2 _))
  have a3 : dragAt ls x.1 - dragAt ls x.1 = 0 := by grind
  rw [a3]
  have w0 : ∀ o : Option Sn, wireO 0 o = o := fun o => by
    cases o with
    | none => rfl
    | some q => rw [wireO_some, Rat.add_zero]
  rw [w0]
  exact l2
/-- a leak that only the one has -/
theorem Beh.more {ls : List Len} {s t : Stretch × Rat} (B : Beh s t) {x : Leak} (hg : 0 < x.2) (hx : s.2 ≤ dragAt ls x.1) : Beh (stStep ls s x) t := by
  rw [stStep_eq ls s x B.ds]
  have n0 := B.n0
  have le := B.le
  have e1 := B.hs.wire (l := dragAt ls x.1 - s.2) (by grind)
  have e2 := B.ht.wire (l := dragAt ls x.1 - t.2) (by grind)
  refine ⟨rfl, B.dt, e1.leak (by grind) hg, B.ht, by show t.2 ≤ dragAt ls x.1; grind, B.n0, ?_⟩
  have l1 := B.le2.wire (l := dragAt ls x.1 - s.2)
  rw [wire_wire] at l1
  have a1 : s.2 + (dragAt ls x.1 - s.2) = dragAt ls x.1 := by grind
  have a2 : s.2 - t.2 + (dragAt ls x.1 - s.2) = dragAt ls x.1 - t.2 := by grind
  rw [a1, a2] at l1
  have l3 := Le.more e1 (d := dragAt ls x.1) (by grind) hg
  show Le (dragAt ls x.1) (leakO _ x.2 _) (wireO (dragAt ls x.1 - t.2) t.1.2)
  -- the two steps behind one another
  generalize wireO (dragAt ls x.1 - t.2) t.1.2 = T at *
  generalize wireO (dragAt ls x.1 - s.2) s.1.2 = A at *
  generalize leakO (dragAt ls x.1) x.2 A = B' at *
  cases B' with
  | none => cases A with
    | none => exact l1
    | some a => exact l3.elim
  | some b => cases A with
    | none => cases T with
      | none => exact l3
      | some t => exact l1.elim
    | some a => cases T with
      | none =>
        have l1 : a.1 + a.2.1 ≤ dragAt ls x.1 := l1
        have := (show ∀ x y, quad b x y ≤ quad a x y from l3) 1 (-1)
        unfold quad at this
        show b.1 + b.2.1 ≤ dragAt ls x.1
        grind
      | some t =>
        intro u v
        have h1 := (show ∀ x y, quad b x y ≤ quad a x y from l3) u v
        have h2 := (show ∀ x y, quad a x y ≤ quad t x y from l1) u v
        exact Rat.le_trans h1 h2
theorem Beh.init : Beh ((0, none), 0) ((0, none), 0) := ⟨rfl, rfl, fun q h => (by cases h), fun q h => (by cases h), Rat.le_refl, Rat.le_refl, trivial⟩
/-- places that grow, from here on -/
def Up (ls : List Len) (h : Rat) : List Leak → Prop
  | [] => h ≤ allDrag ls
  | x :: xs => h ≤ dragAt ls x.1 ∧ 0 < x.2 ∧ Up ls (dragAt ls x.1) xs
theorem Beh.last {ls : List Len} {s t : Stretch × Rat} (B : Beh s t) (h : s.2 ≤ allDrag ls) (k : Nat) (back : Rat) :
    LeQ (readingOf k (join s.1 (allDrag ls - s.2, none)) back) (readingOf k (join t.1 (allDrag ls - t.2, none)) back) := by
  obtain ⟨⟨d, o⟩, h1⟩ := s
  obtain ⟨⟨d', o'⟩, h2⟩ := t
  have e1 : d = h1 := B.ds
  have e2 : d' = h2 := B.dt
  subst e1 e2
  have h : d ≤ allDrag ls := h
  have le : d' ≤ d := B.le
  have n0 : 0 ≤ d' := B.n0
  rw [join_wire, join_wire]
  have a1 : d + (allDrag ls - d) = allDrag ls := by grind
  have a1' : d' + (allDrag ls - d') = allDrag ls := by grind
  have l1 := B.le2.wire (l := allDrag ls - d)
  rw [wire_wire] at l1
  simp only [] at l1
  have a2 : d - d' + (allDrag ls - d) = allDrag ls - d' := by grind
  rw [a1, a2] at l1
  rw [a1, a1']
  exact l1.reads (B.hs.wire (by grind)) (B.ht.wire (by grind)) k
/-- leaks in order: the one has more of them, or lesser drags -/
inductive Pr : List Leak → List Leak → Prop
  | nil : Pr [] []
  | cons {x y : Leak} {xs ys : List Leak} : x.1 = y.1 → x.2 ≤ y.2 → Pr xs ys → Pr (x :: xs) (y :: ys)
  | more {x : Leak} {xs ys : List Leak} : Pr xs ys → Pr (x :: xs) ys
theorem Pr.refl : ∀ xs : List Leak, Pr xs xs
  | [] => .nil
  | x :: xs => .cons rfl Rat.le_refl (Pr.refl xs)
theorem Pr.app {xs ys us vs : List Leak} (h : Pr xs ys) (h2 : Pr us vs) : Pr (xs ++ us) (ys ++ vs) := by
  induction h with
  | nil => exact h2
  | cons h1 h3 _ ih => exact .cons h1 h3 ih
  | more _ ih => exact .more ih
theorem Beh.fold {ls : List Len} {xs ys : List Leak} (h : Pr xs ys) : ∀ {s t : Stretch × Rat}, Beh s t → Up ls s.2 xs → Beh (xs.foldl (stStep ls) s) (ys.foldl (stStep ls) t) ∧ (xs.foldl (stStep ls) s).2 ≤ allDrag ls := by
  induction h with
  | nil => exact fun B u => ⟨B, u⟩
  | cons h1 h3 _ ih => exact fun B u => ih (B.step h1 u.2.1 h3 u.1) u.2.2
  | more _ ih => exact fun B u => ih (B.more u.2.1 u.1) u.2.2
theorem up_of {ls : List Len} (h : ∀ x ∈ ls, LenOk x) : ∀ {xs : List Leak} {p : Rat}, 0 ≤ p → p ≤ (allSteps ls : Int) → (∀ x ∈ xs, p ≤ x.1) → (∀ x ∈ xs, x.1 ≤ (allSteps ls : Int)) → (∀ x ∈ xs, 0 < x.2) → (xs.Pairwise fun x y => x.1 < y.1) → Up ls (dragAt ls p) xs
  | [], p, h0, h1, _, _, _, _ => dragAt_hi h h0 h1
  | x :: xs, p, h0, h1, hp, hi, hg, up => by
    have hp1 := hp x List.mem_cons_self
    have hi1 := hi x List.mem_cons_self
    obtain ⟨u1, u2⟩ := List.pairwise_cons.mp up
    exact ⟨dragAt_le h h0 hp1 hi1, hg x List.mem_cons_self, up_of h (by grind) hi1 (fun y hy => Rat.le_of_lt (u1 y hy)) (fun y hy => hi y (List.mem_cons_of_mem _ hy)) (fun y hy => hg y (List.mem_cons_of_mem _ hy)) u2⟩
theorem up_Ks {ls : List Len} {xs : List Leak} [h : LsOk ls] {B : Nat} [hK : KsB ls xs B] : Up ls 0 xs := by
  have sp := steps_pos h.len
  have s0 : (0 : Rat) ≤ ((allSteps ls : Int) : Rat) := by
    have := Rat.intCast_le_intCast.mpr sp.1
    simpa using this
  have := up_of h.len (p := 0) Rat.le_refl s0 hK.lo hK.hi hK.pos hK.up
  rwa [dragAt_zero h.len] at this
theorem press {ls : List Len} {xs ys : List Leak} {B : Nat} [h : LsOk ls] [hK : KsB ls xs B] (hp : Pr xs ys) (k : Nat) (back : Rat) : LeQ (readingOf k (stretchBy ls xs) back) (readingOf k (stretchBy ls ys) back) := by
  obtain ⟨B, l⟩ := Beh.fold hp Beh.init up_Ks (ls := ls)
  exact B.last l k back
theorem rd_bd {s : Stretch} {back a : Rat} {k : Nat} {N : Nat} (h : SB s 300 N N) (hN : N ≤ 12100000) [Bd back 10] (e : readingOf k s back = some a) : Bd a 61000000 := by
  obtain ⟨d, o⟩ := s
  have i1 : Bd d 300 := h.d
  cases o with
  | none =>
    rcases k with _ | _ | _ | _ | k
    · cases e
    · cases e
    · cases e; exact i1.mono (by omega)
    · cases e; exact i1.mono (by omega)
    · cases e
      show Bd (back + d) _
      exact Bd.mono (m := 10 + 300 + 1) inferInstance (by omega)
  | some q =>
    obtain ⟨i2, i3, i4, _⟩ := h.seen q rfl
    rcases k with _ | _ | _ | _ | k <;> cases e
    · show Bd (q.1 + q.2.2) _
      exact Bd.mono (m := N + N + 1) inferInstance (by omega)
    · show Bd (q.2.1 + q.2.2) _
      exact Bd.mono (m := N + N + 1) inferInstance (by omega)
    · show Bd (q.1 + q.2.2 * q.2.1 / (q.2.2 + q.2.1)) _
      exact Bd.mono (m := N + (N + N + (N + N + 1)) + 1) inferInstance (by omega)
    · show Bd (q.2.1 + q.2.2 * q.1 / (q.2.2 + q.1)) _
      exact Bd.mono (m := N + (N + N + (N + N + 1)) + 1) inferInstance (by omega)
    · show Bd (back + (q.1 + q.2.1)) _
      exact Bd.mono (m := 10 + (N + N + 1) + 1) inferInstance (by omega)
end Z

/-! X, part L: what the ends of a cable with leaks see. -/
namespace Z
/-- so many leaks, so far from the west end -/
def Net (h : Rat) (k : Nat) (o : Option Sn) : Prop := (k = 0 ∧ o = none) ∨ ∃ q, o = some q ∧ Pos q ∧ q.2.2 * (h - q.1 - q.2.1) ≤ q.1 * q.2.1 ∧ ((k = 1 ∧ q.1 + q.2.1 = h) ∨ (2 ≤ k ∧ q.1 + q.2.1 < h))
theorem Net.wire {h l : Rat} {k : Nat} {o : Option Sn} (N : Net h k o) (hl : 0 ≤ l) : Net (h + l) k (wireO l o) := by
  rcases N with ⟨h1, rfl⟩ | ⟨q, rfl, ⟨p1, p2, p3⟩, h2, h3⟩
  · exact .inl ⟨h1, rfl⟩
  · refine .inr ⟨_, wireO_some l q, ⟨p1, by show 0 ≤ q.2.1 + l; grind, p3⟩, ?_, ?_⟩
    · show q.2.2 * (h + l - q.1 - (q.2.1 + l)) ≤ q.1 * (q.2.1 + l)
      have := Rat.mul_nonneg p1 hl
      have e : h + l - q.1 - (q.2.1 + l) = h - q.1 - q.2.1 := by grind
      rw [e]
      grind
    · rcases h3 with ⟨a, b⟩ | ⟨a, b⟩
      · exact .inl ⟨a, by show q.1 + (q.2.1 + l) = h + l; grind⟩
      · exact .inr ⟨a, by show q.1 + (q.2.1 + l) < h + l; grind⟩
theorem Net.leak {h g : Rat} {k : Nat} {o : Option Sn} (N : Net h k o) (hh : 0 ≤ h) (hg : 0 < g) (he : ∀ q, o = some q → 0 < q.2.1) : Net h (k + 1) (leakO h g o) := by
  rcases N with ⟨h1, rfl⟩ | ⟨q, rfl, ⟨p1, p2, p3⟩, h2, h3⟩
  · refine .inr ⟨_, leakO_none h g, ⟨by show 0 ≤ 0 + h; grind, Rat.le_refl, hg⟩, ?_, .inl ⟨by omega, by show (0 + h) + 0 = h; grind⟩⟩
    show g * (h - (0 + h) - 0) ≤ (0 + h) * 0
    have e : h - (0 + h) - 0 = 0 := by grind
    rw [e]
    grind
  · have e0 := he q rfl
    have r0 : 0 < q.2.2 + g + q.2.1 := by grind
    have rz := ne_of_pos r0
    have op : OPos (some (bothSeen q (0, 0, g))) := OPos.leak (d := h) (o := some q) (fun q' hq => by cases hq; exact ⟨p1, p2, p3⟩) hh hg
    refine .inr ⟨_, leakO_some h g q, op _ rfl, ?_, .inr ⟨by omega, ?_⟩⟩
    · rw [bs_leak]
      show q.2.2 * g / (q.2.2 + g + q.2.1) * (h - (q.1 + q.2.2 * q.2.1 / (q.2.2 + g + q.2.1)) - g * q.2.1 / (q.2.2 + g + q.2.1)) ≤ (q.1 + q.2.2 * q.2.1 / (q.2.2 + g + q.2.1)) * (g * q.2.1 / (q.2.2 + g + q.2.1))
      have key : (q.1 + q.2.2 * q.2.1 / (q.2.2 + g + q.2.1)) * (g * q.2.1 / (q.2.2 + g + q.2.1)) - q.2.2 * g / (q.2.2 + g + q.2.1) * (h - (q.1 + q.2.2 * q.2.1 / (q.2.2 + g + q.2.1)) - g * q.2.1 / (q.2.2 + g + q.2.1)) = g * (q.1 * q.2.1 - q.2.2 * (h - q.1 - q.2.1)) / (q.2.2 + g + q.2.1) := by
        generalize q.1 = w at *
        generalize q.2.1 = e at *
        generalize q.2.2 = f at *
        grind
      have := div_nonneg (Rat.mul_nonneg (Rat.le_of_lt hg) (show 0 ≤ q.1 * q.2.1 - q.2.2 * (h - q.1 - q.2.1) by grind)) r0
      grind
    · rw [bs_leak]
      show q.1 + q.2.2 * q.2.1 / (q.2.2 + g + q.2.1) + g * q.2.1 / (q.2.2 + g + q.2.1) < h
      have key : q.1 + q.2.2 * q.2.1 / (q.2.2 + g + q.2.1) + g * q.2.1 / (q.2.2 + g + q.2.1) = q.1 + q.2.1 - q.2.1 * q.2.1 / (q.2.2 + g + q.2.1) := by
        generalize q.1 = w at *
        generalize q.2.1 = e at *
        generalize q.2.2 = f at *
        grind
      have := div_pos (Rat.mul_pos e0 e0) r0
      rw [key]
      rcases h3 with ⟨a, b⟩ | ⟨a, b⟩ <;> grind
theorem net_fold {ls : List Len} (h : ∀ x ∈ ls, LenOk x) : ∀ {xs : List Leak} {t : Stretch × Rat} {k : Nat}, t.1.1 = t.2 → 0 ≤ t.2 → Net t.2 k t.1.2 → OPos t.1.2 → (∀ x ∈ xs, 0 ≤ x.1) → (∀ x ∈ xs, x.1 ≤ (allSteps ls : Int)) → (∀ x ∈ xs, 0 < x.2) → (xs.Pairwise fun x y => x.1 < y.1) → (∀ x ∈ xs, t.2 ≤ dragAt ls x.1 ∧ (1 ≤ k → t.2 < dragAt ls x.1)) → t.2 ≤ allDrag ls →
    Net (allDrag ls) (k + xs.length) (join (xs.foldl (stStep ls) t).1 (allDrag ls - (xs.foldl (stStep ls) t).2, none)).2 ∧ (join (xs.foldl (stStep ls) t).1 (allDrag ls - (xs.foldl (stStep ls) t).2, none)).1 = allDrag ls
  | [], t, k, e, h0, N, _, _, _, _, _, _, hl => by
    obtain ⟨⟨d, o⟩, h'⟩ := t
    have e : d = h' := e
    subst e
    have hl : d ≤ allDrag ls := hl
    have e1 : (([] : List Leak).foldl (stStep ls) ((d, o), d)) = ((d, o), d) := rfl
    rw [e1]
    have e2 : d + (allDrag ls - d) = allDrag ls := by grind
    simp only [join_wire, e2]
    have := N.wire (l := allDrag ls - d) (by show 0 ≤ allDrag ls - d; grind)
    rw [show ((d, o), d).2 + (allDrag ls - d) = allDrag ls from e2] at this
    exact ⟨this, trivial⟩
  | x :: xs, t, k, e, h0, N, op, hlo, hhi, hpos, up, hm, hl => by
    obtain ⟨u1, u2⟩ := List.pairwise_cons.mp up
    have hx := hm x List.mem_cons_self
    have x0 := hlo x List.mem_cons_self
    have x1 := hhi x List.mem_cons_self
    have x2 := hpos x List.mem_cons_self
    have d0 := dragAt_nonneg h x0
    have op1 := op.wire (l := dragAt ls x.1 - t.2) (by grind)
    have N1 := N.wire (l := dragAt ls x.1 - t.2) (by grind)
    have e1 : t.2 + (dragAt ls x.1 - t.2) = dragAt ls x.1 := by grind
    rw [e1] at N1
    have N2 := N1.leak (g := x.2) d0 x2 (fun q hq => by
      obtain ⟨⟨d, o⟩, h'⟩ := t
      cases o with
      | none => cases hq
      | some a =>
        cases hq
        have k1 : 1 ≤ k := by
          rcases N with ⟨_, n⟩ | ⟨_, _, _, _, n⟩
          · cases n
          · rcases n with ⟨n, _⟩ | ⟨n, _⟩ <;> omega
        have := hx.2 k1
        have a2 := (op a rfl).2.1
        show 0 < a.2.1 + (dragAt ls x.1 - h')
        have this : h' < dragAt ls x.1 := this
        grind)
    have st := stStep_eq ls t x e
    rw [List.foldl_cons, st]
    have := net_fold h (xs := xs) (t := ((dragAt ls x.1, leakO (dragAt ls x.1) x.2 (wireO (dragAt ls x.1 - t.2) t.1.2)), dragAt ls x.1)) (k := k + 1) rfl d0 N2 (op1.leak d0 x2) (fun y hy => hlo y (List.mem_cons_of_mem _ hy)) (fun y hy => hhi y (List.mem_cons_of_mem _ hy)) (fun y hy => hpos y (List.mem_cons_of_mem _ hy)) u2 (fun y hy => by
      have lt := dragAt_mono h x0 (u1 y hy) (hhi y (List.mem_cons_of_mem _ hy))
      exact ⟨Rat.le_of_lt lt, fun _ => lt⟩) (dragAt_hi h x0 x1)
    have e2 : k + 1 + xs.length = k + (x :: xs).length := by rw [List.length_cons]; omega
    rw [e2] at this
    exact this
theorem net {ls : List Len} {xs : List Leak} {B : Nat} [h : LsOk ls] [hK : KsB ls xs B] : Net (allDrag ls) xs.length (stretchBy ls xs).2 ∧ (stretchBy ls xs).1 = allDrag ls := by
  have sp := steps_pos h.len
  have s0 : (0 : Rat) ≤ ((allSteps ls : Int) : Rat) := by
    have := Rat.intCast_le_intCast.mpr sp.1
    simpa using this
  have d0 : 0 ≤ allDrag ls := by
    rw [← dragAt_end h.len]
    exact dragAt_nonneg h.len s0
  have := net_fold h.len (xs := xs) (t := ((0, none), 0)) (k := 0) rfl Rat.le_refl (.inl ⟨rfl, rfl⟩) (fun q hq => by cases hq) hK.lo hK.hi hK.pos hK.up (fun x hx => ⟨dragAt_nonneg h.len (hK.lo x hx), fun z => by omega⟩) d0
  rw [Nat.zero_add] at this
  exact this
theorem drag_pos {ls : List Len} [h : LsOk ls] : 0 < allDrag ls := by
  have hl := h.lo
  have key : ∀ ls : List Len, (∀ x ∈ ls, LenOk x) → 0 ≤ allDrag ls := fun ls => by
    induction ls with
    | nil => intro _; exact Rat.le_refl
    | cons x ls ih =>
      intro h
      have := ih fun y hy => h y (List.mem_cons_of_mem _ hy)
      have h1 := lenPos (h x List.mem_cons_self)
      have h2 := (h x List.mem_cons_self).pos
      rw [allDrag_cons]
      have := Rat.mul_pos h1 h2
      grind
  cases ls with
  | nil => simp at hl
  | cons x ls =>
    have h1 := lenPos (h.len x List.mem_cons_self)
    have h2 := (h.len x List.mem_cons_self).pos
    have := key ls fun y hy => h.len y (List.mem_cons_of_mem _ hy)
    have := Rat.mul_pos h1 h2
    rw [allDrag_cons]
    grind
end Z

/-! X, part M: the laws' own numbers and cables. -/
namespace Z
open PySem
section
variable {P : Nat → Option CF} [Lib P] {n : Nat} {S : Store} {m l : Nat} {a b p : Rat} {ls : List Len}
@[simp] theorem comp_nil {F G : Env → Store → R D} {tg : CT} {ws : List D} {δ : Env} {own : List Nat} {acc : List D} : compEv F G tg (.fix ws) δ own [] acc S = .ok acc S := by simp [compEv, at_fix]
@[simp] theorem comp_cons {F G : Env → Store → R D} {tg : CT} {ws : List D} {δ : Env} {own : List Nat} {acc : List D} {d : D} {ds : List D} (h : acc.length ≤ 900) : compEv F G tg (.fix ws) δ own (d :: ds) acc S = match stepT tg d (wipeD δ own) with
    | some δ1 => (match G δ1 S with
      | .ok (.bl true) S1 => (match F δ1 S1 with
        | .ok y S2 => compEv F G tg (.fix ws) δ own ds (acc ++ [y]) S2
        | _ => .stuck)
      | .ok (.bl false) S1 => compEv F G tg (.fix ws) δ own ds acc S1
      | _ => .stuck)
    | none => .stuck := by
  have hz : acc.length < sizeLine := by rw [sizeLine_eq]; omega
  rw [compEv, if_pos at_fix']
  cases stepT tg d (wipeD δ own) with
  | none => rfl
  | some δ1 =>
    simp only [if_pos hz] <;> rfl
@[simp] theorem stepT_lst {ts : CT} {ds : List D} {δ : Env} : stepT (.tp ts) (.lst ds) δ = stepT.go ts ds δ := rfl
@[simp] theorem bls_nil : bls? [] = some [] := rfl
@[simp] theorem bls_cons {b : Bool} {ds : List D} : bls? (.bl b :: ds) = (bls? ds).map (b :: ·) := rfl
@[simp] theorem ints_nil : ints? [] = some [] := rfl
@[simp] theorem ints_cons {i : Int} {ds : List D} : ints? (.int i :: ds) = (ints? ds).map (i :: ·) := rfl
@[simp] theorem wipeD_nil {δ : Env} : wipeD δ [] = δ := rfl
@[simp] theorem wipeD_cons {δ : Env} {v : Nat} {vs : List Nat} : wipeD δ (v :: vs) = (wipeD δ vs).set v none := rfl
@[simp] theorem ev_law_is_fraction : evF P (n + 2) (f_law_is_fraction P) [fr a] S = .ok (.bl true) S := by
  rw [evF_at (p_law_is_fraction P) rfl rfl]
  have hd := a.den_pos
  have e := lawlow_at (P := P) (n := n) (S := S) (x := a.num) (y := a.den) (q := a) (by omega) (rat_eq a).symm
  simp [cf_law_is_fraction, hd, e, -ev_law_low]
@[simp] theorem ev_law_all [h : LsOk ls] : evF P (n + 3) (f_law_all P) [.tup [.tup (ls.map enL), fr b]] S = .ok (fr (allDrag ls)) S := by
  rw [evF_at (p_law_all P) rfl rfl]
  have e : ∀ (ws : List D) (s : Rat × Option D × Option D), (s.1 = 0) → forEv (run (evF P (n + 2)) (cb_law_all_1 (Lib.ix P))) (.tp (.cons (.nm 2) (.cons (.nm 3) .nil))) (.fix ws) (ls.map enL) [some (.tup [.tup (ls.map enL), fr b]), some (fr s.1), s.2.1, s.2.2] S
      = .nx (let t := ls.foldl (fun (s : Rat × Option D × Option D) x => (s.1 + (x.1 : Rat) * x.2, some (.int x.1), some (fr x.2))) s; [some (.tup [.tup (ls.map enL), fr b]), some (fr t.1), t.2.1, t.2.2]) S := fun ws s hs =>
    for_fold (ws := ws) enL (fun s : Rat × Option D × Option D => [some (.tup [.tup (ls.map enL), fr b]), some (fr s.1), s.2.1, s.2.2]) (fun s x => (s.1 + (x.1 : Rat) * x.2, some (.int x.1), some (fr x.2)))
      (fun xs s => (∀ x ∈ xs, LenOk x) ∧ xs.length ≤ 12 ∧ Bd s.1 (21 * (12 - xs.length))) (fun x xs s ⟨h1, h2, h3⟩ => by
        have i1 := (h1 x List.mem_cons_self).ib
        have i2 := (h1 x List.mem_cons_self).bd
        simp at h2
        have b3 : Bd s.1 252 := h3.mono (by omega)
        refine ⟨by simp [enL, cb_law_all_1], fun y hy => h1 y (List.mem_cons_of_mem _ hy), by omega, ?_⟩
        show Bd (s.1 + (x.1 : Rat) * x.2) _
        clear b3
        exact Bd.mono (m := 21 * (12 - (x :: xs).length) + (10 + 10) + 1) inferInstance (by simp; omega)) ls s
      ⟨h.len, h.hi, by rw [hs]; exact Bd.mono (m := 0) (inferInstanceAs (Bd 0 0)) (by omega)⟩
  have e2 : ∀ (xs : List Len) (s : Rat × Option D × Option D), (xs.foldl (fun (s : Rat × Option D × Option D) x => (s.1 + (x.1 : Rat) * x.2, some (.int x.1), some (fr x.2))) s).1 = s.1 + allDrag xs := fun xs => by
    induction xs with
    | nil => intro s; simp [allDrag, Rat.add_zero]
    | cons x xs ih =>
      intro s
      rw [List.foldl_cons, ih]
      simp only [allDrag, List.map_cons, List.sum_cons]
      grind
  have e := e (ls.map enL) (0, none, none) rfl
  simp only [] at e
  simp [cf_law_all, e, e2, Rat.zero_add]
instance [LsOk ls] : KsB ls [] 1000 := ⟨by simp, .inr (by decide), by decide, fun x hx => (by cases hx), fun x hx => (by cases hx), fun x hx => (by cases hx), fun x hx => (by cases hx), fun x hx => (by cases hx), .nil⟩
@[simp] theorem ev_measure_west_free_nil [h : LsOk ls] [hb : BkOk b] : evF P (n + 8) (f_measure P) [.tup [.tup (ls.map enL), fr b], .tup [], .str "west free"] S = .ok (enQ (readingOf 0 (stretchBy ls []) b)) S := ev_measure_west_free (xs := [])
@[simp] theorem ev_measure_east_free_nil [h : LsOk ls] [hb : BkOk b] : evF P (n + 8) (f_measure P) [.tup [.tup (ls.map enL), fr b], .tup [], .str "east free"] S = .ok (enQ (readingOf 1 (stretchBy ls []) b)) S := ev_measure_east_free (xs := [])
@[simp] theorem ev_measure_west_earth_nil [h : LsOk ls] [hb : BkOk b] : evF P (n + 8) (f_measure P) [.tup [.tup (ls.map enL), fr b], .tup [], .str "west earth"] S = .ok (enQ (readingOf 2 (stretchBy ls []) b)) S := ev_measure_west_earth (xs := [])
@[simp] theorem ev_measure_east_earth_nil [h : LsOk ls] [hb : BkOk b] : evF P (n + 8) (f_measure P) [.tup [.tup (ls.map enL), fr b], .tup [], .str "east earth"] S = .ok (enQ (readingOf 3 (stretchBy ls []) b)) S := ev_measure_east_earth (xs := [])
@[simp] theorem ev_measure_loop_nil [h : LsOk ls] [hb : BkOk b] : evF P (n + 8) (f_measure P) [.tup [.tup (ls.map enL), fr b], .tup [], .str "loop"] S = .ok (enQ (readingOf 4 (stretchBy ls []) b)) S := ev_measure_loop (xs := [])
end
end Z

/-! Y, part J: things of any kind; what is refused. -/
namespace Z
open PySem
mutual
/-- a thing: no cell within, no exception -/
def thD : D → Bool
  | .tup ds => thDs ds
  | .lst ds => thDs ds
  | .scr _ => false
  | .ref _ => false
  | .exc _ _ => false
  | _ => true
def thDs : List D → Bool
  | [] => true
  | d :: ds => thD d && thDs ds
end
@[simp] theorem thD_tup (ds : List D) : thD (.tup ds) = thDs ds := by rw [thD]
@[simp] theorem thD_lst (ds : List D) : thD (.lst ds) = thDs ds := by rw [thD]
@[simp] theorem thD_non : thD .non = true := rfl
@[simp] theorem thD_bl (b : Bool) : thD (.bl b) = true := rfl
@[simp] theorem thD_int (i : Int) : thD (.int i) = true := rfl
@[simp] theorem thD_str (x : Str) : thD (.str x) = true := rfl
@[simp] theorem thD_edic : thD .edic = true := rfl
@[simp] theorem thDs_nil : thDs [] = true := by rw [thDs]
@[simp] theorem thDs_cons (d : D) (ds : List D) : thDs (d :: ds) = (thD d && thDs ds) := by rw [thDs]
theorem thDs_mem : ∀ {ds : List D}, thDs ds = true → ∀ d ∈ ds, thD d = true
  | _ :: ds, h, d, hd => by
    rw [thDs_cons, Bool.and_eq_true] at h
    rcases List.mem_cons.mp hd with rfl | hd
    · exact h.1
    · exact thDs_mem h.2 d hd
theorem thDs_all : ∀ {ds : List D}, (∀ d ∈ ds, thD d = true) → thDs ds = true
  | [], _ => thDs_nil
  | d :: ds, h => by rw [thDs_cons, h d List.mem_cons_self, thDs_all fun x hx => h x (List.mem_cons_of_mem _ hx)]; rfl
@[simp] theorem thD_fr (q : Rat) : thD (fr q) = true := by simp [fr]
def isI : D → Bool
  | .int _ => true
  | _ => false
section
variable {P : Nat → Option CF} [Lib P] {n : Nat} {S : Store} {a b : Rat} {d e : D} {m l : Nat}
@[simp] theorem ev_whole_th (h : thD d = true) : evF P (n + 1) (f_is_whole P) [d] S = .ok (.bl (isI d)) S := by
  rw [evF_at (p_is_whole P) rfl rfl]
  cases d <;> first | (simp [cf_is_whole, isI, isiEv]; done) | (unfold thD at h; cases h)
@[simp] theorem ev_law_whole_th (h : thD d = true) : evF P (n + 1) (f_law_whole P) [d] S = .ok (.bl (isI d)) S := by
  rw [evF_at (p_law_whole P) rfl rfl]
  cases d <;> first | (simp [cf_law_whole, isI, isiEv]; done) | (unfold thD at h; cases h)
/-- whether a thing is a fraction -/
def isFr : D → Bool
  | .tup [.int i, .int j] => decide (0 < j) && decide (Int.gcd i j = 1)
  | _ => false
@[simp] theorem isFr_fr (q : Rat) : isFr (fr q) = true := by
  have hd := q.den_pos
  have hg : Int.gcd q.num (q.den : Int) = 1 := by
    have := q.reduced
    simpa [Int.gcd] using this
  simp [fr, isFr, hg, hd]
theorem isFr_of : ∀ {d : D}, isFr d = true → ∃ q : Rat, d = fr q := fun {d} h => by
  unfold isFr at h
  split at h
  · rename_i i j
    simp only [Bool.and_eq_true, decide_eq_true_eq] at h
    obtain ⟨h1, h2⟩ := h
    refine ⟨(i : Rat) / (j : Rat), ?_⟩
    obtain ⟨e1, e2⟩ := low_num (a := i) h1
    rw [h2] at e1 e2
    simp [fr, e1, e2]
  · cases h
theorem isFr_iff : isFr d = true ↔ ∃ q : Rat, d = fr q := ⟨isFr_of, fun ⟨q, e⟩ => by rw [e]; exact isFr_fr q⟩
theorem fr_shape : ∀ {d : D}, (∀ i j, d ≠ .tup [.int i, .int j]) → isFr d = false := fun {d} h => by
  unfold isFr
  split
  · exact absurd rfl (h _ _)
  · rfl
@[simp] theorem isi_tup_th (h : thD d = true) : isiEv d .tup S = some (isTup d) := by
  cases d <;> first | rfl | (unfold thD at h; cases h)
theorem isTup_of (h : isTup d = true) : ∃ ds, d = .tup ds := by
  cases d <;> first | exact ⟨_, rfl⟩ | cases h
@[simp] theorem isTup_tup (ds : List D) : isTup (.tup ds) = true := rfl
theorem isI_of (h : isI d = true) : ∃ i, d = .int i := by
  cases d <;> first | exact ⟨_, rfl⟩ | cases h
/-- a tuple of two, perhaps of ints -/
theorem two_cases (d : D) : isTup d = false ∨ (∃ ds, d = .tup ds ∧ ds.length ≠ 2) ∨ (∃ x y, d = .tup [x, y] ∧ isI x = false) ∨ (∃ i y, d = .tup [.int i, y] ∧ isI y = false) ∨ ∃ i j, d = .tup [.int i, .int j] := by
  by_cases h : isTup d = true
  · obtain ⟨ds, rfl⟩ := isTup_of h
    match ds with
    | [x, y] =>
      by_cases h1 : isI x = true
      · obtain ⟨i, rfl⟩ := isI_of h1
        by_cases h2 : isI y = true
        · obtain ⟨j, rfl⟩ := isI_of h2
          exact .inr (.inr (.inr (.inr ⟨i, j, rfl⟩)))
        · exact .inr (.inr (.inr (.inl ⟨i, y, rfl, by simpa using h2⟩)))
      · exact .inr (.inr (.inl ⟨x, y, rfl, by simpa using h1⟩))
    | [] => exact .inr (.inl ⟨_, rfl, by simp⟩)
    | [_] => exact .inr (.inl ⟨_, rfl, by simp⟩)
    | _ :: _ :: _ :: _ => exact .inr (.inl ⟨_, rfl, by simp⟩)
  · exact .inl (by simpa using h)
theorem isI_int (i : Int) : isI (.int i) = true := rfl
@[simp] theorem ev_is_fraction_th (h : thD d = true) : evF P (n + 2) (f_is_fraction P) [d] S = .ok (.bl (isFr d)) S := by
  rw [evF_at (p_is_fraction P) rfl rfl]
  rcases two_cases d with hd | ⟨ds, rfl, hd⟩ | ⟨x, y, rfl, hx⟩ | ⟨i, y, rfl, hy⟩ | ⟨i, j, rfl⟩
  · have e : isFr d = false := fr_shape fun i j z => by rw [z] at hd; cases hd
    simp [cf_is_fraction, h, hd, e]
  · have e : isFr (.tup ds) = false := fr_shape fun i j z => by cases z; exact hd rfl
    have hl : ¬ ((ds.length : Int) = 2) := by omega
    simp [cf_is_fraction, e, hl]
  · have e : isFr (.tup [x, y]) = false := fr_shape fun i j z => by cases z; cases hx
    simp at h
    simp [cf_is_fraction, e, ev_whole_th h.1, hx]
  · have e : isFr (.tup [.int i, y]) = false := fr_shape fun i j z => by cases z; cases hy
    simp at h
    simp [cf_is_fraction, e, ev_whole_th h, hy]
  · by_cases hj : 0 < j
    · have hg := ev_share (P := P) (n := n) (S := S) (a := (i.natAbs : Int)) (b := j) (by omega) (by omega)
      rw [gcd_abs] at hg
      have e : isFr (.tup [.int i, .int j]) = decide (Int.gcd i j = 1) := by simp [isFr, hj]
      rw [e]
      by_cases hq : Int.gcd i j = 1
      · simp [cf_is_fraction, hj, hg, hq]
      · have : ¬ ((Int.gcd i j : Int) = 1) := by omega
        simp [cf_is_fraction, hj, hg, hq, this]
    · have e : isFr (.tup [.int i, .int j]) = false := by simp [isFr, hj]
      simp [cf_is_fraction, hj, e]
theorem low_same {i j : Int} (hj : 0 < j) : eqD (fr ((i : Rat) / (j : Rat))) (.tup [.int i, .int j]) = decide (Int.gcd i j = 1) := by
  by_cases hq : Int.gcd i j = 1
  · have : isFr (.tup [.int i, .int j]) = true := by simp [isFr, hj, hq]
    obtain ⟨e1, e2⟩ := low_num (a := i) hj
    rw [hq] at e1 e2
    have e : fr ((i : Rat) / (j : Rat)) = .tup [.int i, .int j] := by simp [fr, e1, e2]
    rw [e, eqD_refl 1 (by simp), decide_eq_true hq]
  · rw [decide_eq_false hq]
    obtain ⟨e1, e2⟩ := low_num (a := i) hj
    have hg := gcd_pos (a := i) hj
    have h2 : ¬ (j / (Int.gcd i j : Int) = j) := fun z => by
      have h1 : (1 : Int) < (Int.gcd i j : Int) := by omega
      have hm : (Int.gcd i j : Int) * (j / (Int.gcd i j : Int)) = j := Int.mul_ediv_cancel' (Int.gcd_dvd_right ..)
      rw [z] at hm
      have : j * 1 < j * (Int.gcd i j : Int) := Int.mul_lt_mul_of_pos_left h1 hj
      rw [Int.mul_comm] at hm
      omega
    simp [fr, e2, h2]
@[simp] theorem ev_law_is_fraction_th (h : thD d = true) : evF P (n + 2) (f_law_is_fraction P) [d] S = .ok (.bl (isFr d)) S := by
  rw [evF_at (p_law_is_fraction P) rfl rfl]
  rcases two_cases d with hd | ⟨ds, rfl, hd⟩ | ⟨x, y, rfl, hx⟩ | ⟨i, y, rfl, hy⟩ | ⟨i, j, rfl⟩
  · have e : isFr d = false := fr_shape fun i j z => by rw [z] at hd; cases hd
    simp [cf_law_is_fraction, h, hd, e]
  · have e : isFr (.tup ds) = false := fr_shape fun i j z => by cases z; exact hd rfl
    have hl : ¬ ((ds.length : Int) = 2) := by omega
    simp [cf_law_is_fraction, e, hl]
  · have e : isFr (.tup [x, y]) = false := fr_shape fun i j z => by cases z; cases hx
    simp at h
    simp [cf_law_is_fraction, e, ev_law_whole_th h.1, hx]
  · have e : isFr (.tup [.int i, y]) = false := fr_shape fun i j z => by cases z; cases hy
    simp at h
    simp [cf_law_is_fraction, e, ev_law_whole_th h, hy]
  · by_cases hj : 0 < j
    · have hg := ev_law_low (P := P) (n := n) (S := S) (a := i) (b := j) (by omega)
      have e : isFr (.tup [.int i, .int j]) = decide (Int.gcd i j = 1) := by simp [isFr, hj]
      have o1 : okD 20 (fr ((i : Rat) / (j : Rat))) = true := okD_fr _ _
      have ec := eq_ev (S := S) o1 (show okD 20 (.tup [.int i, .int j]) = true by simp)
      rw [low_same hj] at ec
      rw [e]
      simp [cf_law_is_fraction, hj, hg, ec, -ev_law_low, -eq_ev]
    · have e : isFr (.tup [.int i, .int j]) = false := by simp [isFr, hj]
      simp [cf_law_is_fraction, hj, e]
/-! what is refused -/
theorem gc_exc {c : Nat} {a : D} {S' : Store} (h : S'.length = S.length) : gc S (.exc c a S') = .exc c a S' := by
  by_cases k : Keep S S' ∧ noref a = true
  · simp only [gc, if_pos k]; rw [← h, List.take_length]
  · simp only [gc, if_neg k]
@[simp] theorem gc_exc_id {c : Nat} {a : D} : gc S (.exc c a S) = .exc c a S := gc_exc rfl
@[simp] theorem ev_check_fraction : evF P (n + 3) (f_check_fraction P) [fr a] S = .ok .non S := by
  rw [evF_at (p_check_fraction P) rfl rfl]
  simp [cf_check_fraction]
theorem ev_check_fraction_no (h : thD d = true) (hf : isFr d = false) : evF P (n + 3) (f_check_fraction P) [d] S = .exc 1 .non S := by
  rw [evF_at (p_check_fraction P) rfl rfl]
  simp [cf_check_fraction, h, hf]
@[simp] theorem ev_check_both : evF P (n + 4) (f_check_both P) [fr a, fr b] S = .ok .non S := by
  rw [evF_at (p_check_both P) rfl rfl]
  simp [cf_check_both]
theorem ev_check_both_1 (h : thD d = true) (hf : isFr d = false) : evF P (n + 4) (f_check_both P) [d, e] S = .exc 1 .non S := by
  rw [evF_at (p_check_both P) rfl rfl]
  simp [cf_check_both, ev_check_fraction_no h hf]
theorem ev_check_both_2 (h : thD d = true) (hf : isFr d = false) : evF P (n + 4) (f_check_both P) [fr a, d] S = .exc 1 .non S := by
  rw [evF_at (p_check_both P) rfl rfl]
  simp [cf_check_both, ev_check_fraction_no h hf]
@[simp] theorem isi_exc {c k : Nat} {x : D} : isiEv (.exc c x) (.own k) S = some (decide (k = 0 ∨ k = 99 ∨ k = c)) := rfl
@[simp] theorem isi_non_own {k : Nat} : isiEv .non (.own k) S = some false := rfl
/-- the words of the classes -/
def wordOf (c : Nat) : Str := (["", "number", "cable", "drag", "leaks", "stretch", "word", "reading", "place", "day", "pair", "splice", "days", "places", "length", "deed", "back", "row", "text"] : List Str).getD c ""
@[simp] theorem mth_count_b {ds : List D} {b : Bool} : mthEv .count (.lst ds) [.bl b] S = match bls? ds with
    | some bs => some (.int ((bs.filter (· == b)).length : Nat), S)
    | none => none := rfl
@[simp] theorem mth_index_b {ds : List D} {b : Bool} : mthEv .index (.lst ds) [.bl b] S = match bls? ds with
    | some bs => (bs.findIdx? (· == b)).map fun j => (.int (j : Nat), S)
    | none => none := rfl
theorem bin_add_lsts {xs ys : List D} (h : xs.length + ys.length ≤ 1000) : binEv .add (.lst xs) (.lst ys) S = some (.lst (xs ++ ys)) := by
  have hz : xs.length + ys.length ≤ sizeLine := by rw [sizeLine_eq]; omega
  simp only [binEv, addEv, catEv, seqL, if_pos hz]
theorem atI_get {ds : List D} (k : Nat) : L2.atI ds (k : Int) = ds[k]? := by rw [atI_of (by omega)]; rfl
end
end Z

/-! Y, part X: a walk in two. -/
namespace Z
open PySem
/-! a walk in two -/
def takeS : Nat → CS → CS
  | 0, _ => .skip
  | n + 1, .seq a r => .seq a (takeS n r)
  | _ + 1, _ => .skip
def dropS : Nat → CS → CS
  | 0, s => s
  | n + 1, .seq _ r => dropS n r
  | _ + 1, s => s
theorem run_skip' {F : Fn} (s : CS) (δ : Env) (S : Store) : run F s δ S = (run F .skip δ S).bind fun δ1 S1 => run F s δ1 S1 := by
  have e : run F .skip δ S = .nx δ S := by rw [Z.run]
  rw [e]
  rfl
theorem run_split {F : Fn} : ∀ (n : Nat) (s : CS) (δ : Env) (S : Store), run F s δ S = (run F (takeS n s) δ S).bind fun δ1 S1 => run F (dropS n s) δ1 S1
  | 0, s, δ, S => run_skip' s δ S
  | n + 1, .seq a r, δ, S => by
    show run F (.seq a r) δ S = (run F (.seq a (takeS n r)) δ S).bind fun δ1 S1 => run F (dropS n r) δ1 S1
    rw [Z.run, Z.run]
    cases h : run F a δ S with
    | nx δ1 S1 =>
      rw [SR.bind_nx, SR.bind_nx]
      exact run_split n r δ1 S1
    | rt d S1 => rfl
    | bk δ1 S1 => rfl
    | xc c a δ1 S1 => rfl
    | stuck => rfl
  | n + 1, .skip, δ, S => run_skip' _ δ S
  | n + 1, .never, δ, S => run_skip' _ δ S
  | n + 1, .expr _, δ, S => run_skip' _ δ S
  | n + 1, .ret _, δ, S => run_skip' _ δ S
  | n + 1, .retF _, δ, S => run_skip' _ δ S
  | n + 1, .asg _ _, δ, S => run_skip' _ δ S
  | n + 1, .set _ _ _, δ, S => run_skip' _ δ S
  | n + 1, .ife _ _ _, δ, S => run_skip' _ δ S
  | n + 1, .whl _ _, δ, S => run_skip' _ δ S
  | n + 1, .fr _ _ _, δ, S => run_skip' _ δ S
  | n + 1, .brk, δ, S => run_skip' _ δ S
  | n + 1, .rais _ _, δ, S => run_skip' _ δ S
  | n + 1, .tr _ _ _ _, δ, S => run_skip' _ δ S
theorem idx_cell {r : Nat} {ds : List D} {i : Int} {S : Store} (h : S[r]? = some (.lst ds)) : idxEv (.ref r) (.int i) S = L2.atI ds i := by
  simp only [idxEv, dkOf, seqOf, h]
theorem sl_cell {r : Nat} {ds : List D} {lo hi : Option Int} {S : Store} (h : S[r]? = some (.lst ds)) : slEv (.ref r) lo hi S = some (.lst (cutD ds lo hi)) := by
  simp only [slEv, seqL, h, Option.map_some]
end Z

/-! Y, part K: what is refused, told by a word. -/
namespace Z
open PySem
section
variable {P : Nat → Option CF} [Lib P] {n : Nat} {S : Store} {a b : Rat} {d e : D} {m l : Nat}
@[simp] theorem isTup_fr (q : Rat) : isTup (fr q) = true := rfl
theorem eighteen {c : Nat} (h0 : 1 ≤ c) (h1 : c ≤ 18) : c = 1 ∨ c = 2 ∨ c = 3 ∨ c = 4 ∨ c = 5 ∨ c = 6 ∨ c = 7 ∨ c = 8 ∨ c = 9 ∨ c = 10 ∨ c = 11 ∨ c = 12 ∨ c = 13 ∨ c = 14 ∨ c = 15 ∨ c = 16 ∨ c = 17 ∨ c = 18 := by omega
@[simp] theorem add_lsts {xs ys : List D} (h : xs.length + ys.length ≤ 1000) : binEv .add (.lst xs) (.lst ys) S = some (.lst (xs ++ ys)) := bin_add_lsts h
@[simp] theorem atI_lit3 (ds : List D) : L2.atI ds 3 = ds[3]? := atI_get 3
@[simp] theorem atI_lit4 (ds : List D) : L2.atI ds 4 = ds[4]? := atI_get 4
@[simp] theorem atI_lit5 (ds : List D) : L2.atI ds 5 = ds[5]? := atI_get 5
@[simp] theorem atI_lit6 (ds : List D) : L2.atI ds 6 = ds[6]? := atI_get 6
@[simp] theorem atI_lit7 (ds : List D) : L2.atI ds 7 = ds[7]? := atI_get 7
@[simp] theorem atI_lit8 (ds : List D) : L2.atI ds 8 = ds[8]? := atI_get 8
@[simp] theorem atI_lit9 (ds : List D) : L2.atI ds 9 = ds[9]? := atI_get 9
@[simp] theorem atI_lit10 (ds : List D) : L2.atI ds 10 = ds[10]? := atI_get 10
@[simp] theorem atI_lit11 (ds : List D) : L2.atI ds 11 = ds[11]? := atI_get 11
@[simp] theorem atI_lit12 (ds : List D) : L2.atI ds 12 = ds[12]? := atI_get 12
@[simp] theorem atI_lit13 (ds : List D) : L2.atI ds 13 = ds[13]? := atI_get 13
@[simp] theorem atI_lit14 (ds : List D) : L2.atI ds 14 = ds[14]? := atI_get 14
@[simp] theorem atI_lit15 (ds : List D) : L2.atI ds 15 = ds[15]? := atI_get 15
@[simp] theorem atI_lit16 (ds : List D) : L2.atI ds 16 = ds[16]? := atI_get 16
@[simp] theorem atI_lit17 (ds : List D) : L2.atI ds 17 = ds[17]? := atI_get 17
theorem ev_law_sort_1 : evF P (n + 1) (f_law_sort P) [.exc 1 .non] S = .ok (.str "number") S := by
  rw [evF_at (p_law_sort P) rfl rfl]
  simp [cf_law_sort, bls?, List.findIdx?, List.findIdx?.go]
/-! the house's reckoning, refused -/
theorem ev_plus [Bd a m] [Bd b l] (h : m + l ≤ 130000000) : evF P (n + 5) (f_plus P) [fr a, fr b] S = .ok (fr (a + b)) S := by
  rw [evF_at (p_plus P) rfl rfl]
  simp [cf_plus, h]
theorem ev_minus [Bd a m] [Bd b l] (h : m + l ≤ 130000000) : evF P (n + 5) (f_minus P) [fr a, fr b] S = .ok (fr (a - b)) S := by
  rw [evF_at (p_minus P) rfl rfl]
  simp [cf_minus, h]
theorem ev_times [Bd a m] [Bd b l] (h : m + l ≤ 130000000) : evF P (n + 5) (f_times P) [fr a, fr b] S = .ok (fr (a * b)) S := by
  rw [evF_at (p_times P) rfl rfl]
  simp [cf_times, h]
theorem ev_over [Bd a m] [Bd b l] (hz : b ≠ 0) (h : m + l ≤ 130000000) : evF P (n + 5) (f_over P) [fr a, fr b] S = .ok (fr (a / b)) S := by
  rw [evF_at (p_over P) rfl rfl]
  simp [cf_over, h, hz]
theorem ev_over_0 : evF P (n + 5) (f_over P) [fr a, fr 0] S = .exc 1 .non S := by
  rw [evF_at (p_over P) rfl rfl]
  simp [cf_over]
theorem ev_below [Bd a m] [Bd b l] (h : m + l ≤ 130000000) : evF P (n + 5) (f_below P) [fr a, fr b] S = .ok (.bl (decide (a < b))) S := by
  rw [evF_at (p_below P) rfl rfl]
  simp [cf_below, h]
theorem ev_fraction {i j : Int} (h : j ≠ 0) : evF P (n + 3) (f_fraction P) [.int i, .int j] S = .ok (fr ((i : Rat) / (j : Rat))) S := by
  rw [evF_at (p_fraction P) rfl rfl]
  simp [cf_fraction, h]
theorem ev_fraction_0 {i : Int} : evF P (n + 3) (f_fraction P) [.int i, .int 0] S = .exc 1 .non S := by
  rw [evF_at (p_fraction P) rfl rfl]
  simp [cf_fraction]
theorem ev_fraction_1 (h : thD d = true) (hi : isI d = false) : evF P (n + 3) (f_fraction P) [d, e] S = .exc 1 .non S := by
  rw [evF_at (p_fraction P) rfl rfl]
  simp [cf_fraction, ev_whole_th h, hi]
theorem ev_fraction_2 {i : Int} (h : thD d = true) (hi : isI d = false) : evF P (n + 3) (f_fraction P) [.int i, d] S = .exc 1 .non S := by
  rw [evF_at (p_fraction P) rfl rfl]
  simp [cf_fraction, ev_whole_th h, hi]
theorem ev_plus_1 (h : thD d = true) (hf : isFr d = false) : evF P (n + 5) (f_plus P) [d, e] S = .exc 1 .non S := by
  rw [evF_at (p_plus P) rfl rfl]
  simp [cf_plus, ev_check_both_1 h hf]
theorem ev_plus_2 (h : thD d = true) (hf : isFr d = false) : evF P (n + 5) (f_plus P) [fr a, d] S = .exc 1 .non S := by
  rw [evF_at (p_plus P) rfl rfl]
  simp [cf_plus, ev_check_both_2 h hf]
theorem ev_minus_1 (h : thD d = true) (hf : isFr d = false) : evF P (n + 5) (f_minus P) [d, e] S = .exc 1 .non S := by
  rw [evF_at (p_minus P) rfl rfl]
  simp [cf_minus, ev_check_both_1 h hf]
theorem ev_minus_2 (h : thD d = true) (hf : isFr d = false) : evF P (n + 5) (f_minus P) [fr a, d] S = .exc 1 .non S := by
  rw [evF_at (p_minus P) rfl rfl]
  simp [cf_minus, ev_check_both_2 h hf]
theorem ev_times_1 (h : thD d = true) (hf : isFr d = false) : evF P (n + 5) (f_times P) [d, e] S = .exc 1 .non S := by
  rw [evF_at (p_times P) rfl rfl]
  simp [cf_times, ev_check_both_1 h hf]
theorem ev_times_2 (h : thD d = true) (hf : isFr d = false) : evF P (n + 5) (f_times P) [fr a, d] S = .exc 1 .non S := by
  rw [evF_at (p_times P) rfl rfl]
  simp [cf_times, ev_check_both_2 h hf]
theorem ev_over_1 (h : thD d = true) (hf : isFr d = false) : evF P (n + 5) (f_over P) [d, e] S = .exc 1 .non S := by
  rw [evF_at (p_over P) rfl rfl]
  simp [cf_over, ev_check_both_1 h hf]
theorem ev_over_2 (h : thD d = true) (hf : isFr d = false) : evF P (n + 5) (f_over P) [fr a, d] S = .exc 1 .non S := by
  rw [evF_at (p_over P) rfl rfl]
  simp [cf_over, ev_check_both_2 h hf]
theorem ev_below_1 (h : thD d = true) (hf : isFr d = false) : evF P (n + 5) (f_below P) [d, e] S = .exc 1 .non S := by
  rw [evF_at (p_below P) rfl rfl]
  simp [cf_below, ev_check_both_1 h hf]
theorem ev_below_2 (h : thD d = true) (hf : isFr d = false) : evF P (n + 5) (f_below P) [fr a, d] S = .exc 1 .non S := by
  rw [evF_at (p_below P) rfl rfl]
  simp [cf_below, ev_check_both_2 h hf]
end
/-- a law that looks at something first, then goes over cells, then says yes -/
theorem law_good2 {P : Nat → Option CF} {n f N : Nat} {A : CS} {E : CE} {body : CS} {scr : D} (h : P f = some ⟨1, N + 2, .seq A (.seq (.fr (.nm 1) (.rng (.con (.int 0)) E) body) (.ret (.con (.bl true))))⟩) (c : Int) (h0 : 0 ≤ c) (h1 : c < 64) (S0 : Store)
    (hA : run (evF P n) A (some scr :: List.replicate (N + 1) none) [] = .nx (some scr :: List.replicate (N + 1) none) S0)
    (hE : ev (evF P n) E (some scr :: List.replicate (N + 1) none) S0 = .ok (.int c) S0)
    (step : ∀ (i : Int) (t : List (Option D)) (S : Store), 0 ≤ i → i < 64 → t.length = N → ∃ t' S', run (evF P n) body (some scr :: some (.int i) :: t) S = .nx (some scr :: t') S' ∧ t'.length = N + 1) :
    ∃ S, evF P (n + 1) f [scr] [] = .ok (.bl true) S := by
  rw [evF_at h rfl (by simp)]
  obtain ⟨t', S', e, lt⟩ := law_loop (w := rngD 0 c) step ((List.range c.toNat).map fun k : Nat => (k : Int)) none (List.replicate N none) S0 (fun i hi => by
    obtain ⟨k, hk, rfl⟩ := List.mem_map.mp hi
    have := List.mem_range.mp hk
    omega) (by simp)
  rw [← rngD_ints] at e
  have s1 : small62 0 := ⟨by decide, by decide⟩
  have s2 : small62 c := ⟨by omega, by omega⟩
  obtain ⟨S, hS⟩ := gc_ex [] S' (.bl true)
  refine ⟨S, ?_⟩
  rw [← hS]
  congr 1
  have e0 : N + 2 - 1 = N + 1 := by omega
  have e1 : (some scr :: List.replicate (N + 1) none : Env) = some scr :: none :: List.replicate N none := rfl
  rw [e1] at hE hA
  simp only [e0, List.map_cons, List.map_nil, List.cons_append, List.nil_append, run_seq, run_fr, evI_rng, ev_con', R.bk_ok, List.replicate_succ, hA, SR.bs_nx, hE]
  rw [if_pos ⟨s1, s2⟩]
  simp only [R.sk_ok, items_fix, e, SR.bs_nx, run_ret, ev_con', out_rt]
end Z

namespace ZL
open PySem PySem.Spec PyProof.Rows L2 Z

def ixL : List Nat := [0, 1, 2, 3, 4, 5, 6, 7, 8, 9, 10, 11, 12, 13, 14, 15, 16, 17, 18, 19, 20, 21, 22, 23, 27, 33, 34, 35, 36, 37, 38, 39, 40, 41, 42, 43, 44, 45, 46, 47, 48, 49, 50, 51, 52, 53, 54, 55, 56, 57, 58, 59, 60, 61, 62, 63, 64, 65, 66, 67, 68, 69, 70, 71, 72, 73, 74, 75, 76, 77, 78, 79, 80, 81, 82, 83, 84, 85, 86, 87, 88, 89, 90, 91, 92, 93, 94, 95, 96, 97, 98, 99, 100, 101, 102, 103, 104, 105, 106, 107, 108, 109, 110, 111, 112, 113, 114, 115, 116, 117, 118, 119, 120, 121, 122, 123, 124, 125, 126, 127, 128, 129, 130, 131, 132, 133, 134, 135, 136, 137, 138, 139, 140, 141, 142, 143, 144, 145, 146, 147, 148, 149, 150, 151, 152, 153, 154, 155, 156, 157, 158, 159, 160, 161, 162, 163, 164, 165, 166, 167, 168, 169, 170, 171, 172, 173, 174, 175, 176, 177, 178, 179, 180, 181, 182, 183, 184, 185, 186, 187, 188, 189, 190, 191, 192, 193, 194, 195, 196, 197, 198, 199, 200, 201, 202, 203, 204, 205, 206, 207, 208, 209, 210, 211, 212, 213, 214, 215, 216, 217, 218, 219, 220, 221, 222, 223, 224, 225, 226, 227, 228, 229, 230, 231, 232, 233, 234, 235, 236, 237, 238, 239, 240, 241, 242, 243, 244, 245, 246, 247, 248, 249, 250, 251, 252, 253, 254, 255, 256, 257, 258, 259, 260, 261, 262, 263, 264, 265, 266, 267, 268, 269, 270, 271, 272, 273, 274, 275, 276, 277, 278, 279, 280, 281, 282, 283, 284, 285, 286, 287, 288, 289, 290, 291, 292, 293, 294, 295, 296, 297, 298, 299, 300, 301, 302, 303, 304, 305, 306, 307, 308, 309, 310, 311, 312, 313, 314, 315, 316, 317, 318, 319, 320, 321, 322, 323, 324, 325]
def ixF (c : Nat) : Nat := ixL.getD c 0
def ext_0 : List CF := [Z.cf_whole_root ixF, Z.cf_root ixF, Z.cf_is_from_zero ixF, Z.cf_is_above_zero ixF, Z.cf_is_small ixF, Z.cf_is_length ixF, Z.cf_is_cable ixF, Z.cf_check_cable ixF, Z.cf_all_steps ixF, Z.cf_all_drag ixF, Z.cf_splice_steps ixF, Z.cf_steps_of ixF, Z.cf_drag_of ixF, Z.cf_splices_of ixF, Z.cf_law_plus ixF, Z.cf_law_times ixF, Z.cf_is_place ixF, Z.cf_check_place ixF, Z.cf_drag_at ixF, Z.cf_place_with ixF]
def ext_1 : List CF := [Z.cf_drag_to ixF, Z.cf_place_at ixF, Z.cf_law_minus ixF, Z.cf_law_over ixF, Z.cf_law_below ixF, Z.cf_law_all ixF, Z.cf_law_cable ixF, Z.cf_show_fraction ixF, Z.cf_show_cable ixF, Z.cf_number_in ixF, Z.cf_fraction_in ixF, Z.cf_back_in ixF, Z.cf_length_in ixF, Z.cf_read_cable ixF, Z.cf_law_fraction_text ixF, Z.cf_law_text ixF, Z.cf_is_leak ixF, Z.cf_are_leaks ixF, Z.cf_is_leaks ixF, Z.cf_law_sixths ixF]
def ext_2 : List CF := [Z.cf_check_leaks ixF, Z.cf_both_seen ixF, Z.cf_join ixF, Z.cf_stretch_by ixF, Z.cf_beside ixF, Z.cf_reading ixF, Z.cf_measure ixF, Z.cf_law_drag_to ixF, Z.cf_law_points ixF, Z.cf_law_steps_seen ixF, Z.cf_law_seen ixF, Z.cf_law_day ixF, Z.cf_law_leaks_2 ixF, Z.cf_law_sort_2 ixF, Z.cf_lack_of ixF, Z.cf_is_seen ixF, Z.cf_is_stretch ixF, Z.cf_joined ixF, Z.cf_law_stretch ixF, Z.cf_stretch_of ixF]
def ext_3 : List CF := [Z.cf_check_word ixF, Z.cf_check_reading ixF, Z.cf_drag_with ixF, Z.cf_drag_by ixF, Z.cf_law_place_at ixF, Z.cf_law_read ixF, Z.cf_law_leak ixF, Z.cf_half ixF, Z.cf_by_free_and_earth ixF, Z.cf_by_free_and_far_earth ixF, Z.cf_by_earths ixF, Z.cf_possible_drags ixF, Z.cf_leak_with ixF, Z.cf_one_leak ixF, Z.cf_is_day ixF, Z.cf_check_day ixF, Z.cf_day_by ixF, Z.cf_day_of ixF, Z.cf_four_of ixF, Z.cf_fault_in ixF]
def ext_4 : List CF := [Z.cf_kind_by ixF, Z.cf_seen_of ixF, Z.cf_seen_by ixF, Z.cf_law_star ixF, Z.cf_kind_of ixF, Z.cf_check_two ixF, Z.cf_spans_by ixF, Z.cf_partner_by ixF, Z.cf_partner_west ixF, Z.cf_drag_within ixF, Z.cf_places_with ixF, Z.cf_west_span ixF, Z.cf_east_span ixF, Z.cf_pair_at ixF, Z.cf_east_of ixF, Z.cf_west_of ixF, Z.cf_law_partner ixF, Z.cf_law_pair ixF, Z.cf_law_listed ixF, Z.cf_law_two_more ixF]
def ext_5 : List CF := [Z.cf_law_spans ixF, Z.cf_law_spots ixF, Z.cf_check_splice ixF, Z.cf_part_cables ixF, Z.cf_parts ixF, Z.cf_leaks_parted ixF, Z.cf_east_drag ixF, Z.cf_west_drag ixF, Z.cf_next_cut ixF, Z.cf_cover_by ixF, Z.cf_cover_of ixF, Z.cf_law_east ixF, Z.cf_law_west ixF, Z.cf_law_splices ixF, Z.cf_law_most_west ixF, Z.cf_law_two ixF, Z.cf_needed_for ixF, Z.cf_cuts_needed ixF, Z.cf_stretch_told ixF, Z.cf_edge_drags ixF]
def ext_6 : List CF := [Z.cf_leak_moved ixF, Z.cf_law_small_3 ixF, Z.cf_law_pair_2 ixF, Z.cf_law_drags ixF, Z.cf_law_least ixF, Z.cf_law_part ixF, Z.cf_law_days_cut ixF, Z.cf_check_days ixF, Z.cf_two_drags ixF, Z.cf_fits_by ixF, Z.cf_east_drag_2 ixF, Z.cf_west_drag_2 ixF, Z.cf_roots_of ixF, Z.cf_pairs_of_two ixF, Z.cf_pairs_with ixF, Z.cf_pairs_of ixF, Z.cf_fit_all ixF, Z.cf_is_before ixF, Z.cf_pairs_told ixF, Z.cf_are_apart ixF]
def ext_7 : List CF := [Z.cf_telling_by ixF, Z.cf_telling ixF, Z.cf_law_kind_2 ixF, Z.cf_law_fits ixF, Z.cf_law_some_drag ixF, Z.cf_law_hidden_2 ixF, Z.cf_law_hidden_day ixF, Z.cf_law_days ixF, Z.cf_check_places ixF, Z.cf_drags_by ixF, Z.cf_clash_by ixF, Z.cf_clash_of ixF, Z.cf_check_length ixF, Z.cf_check_number ixF, Z.cf_exchange ixF, Z.cf_exchanged ixF, Z.cf_check_room ixF, Z.cf_add_cables ixF, Z.cf_added ixF, Z.cf_turned ixF]
def ext_8 : List CF := [Z.cf_leaks_turned ixF, Z.cf_leaks_added ixF, Z.cf_wall ixF, Z.cf_check_date ixF, Z.cf_law_length ixF, Z.cf_law_any_readings ixF, Z.cf_is_day_of ixF, Z.cf_read_by ixF, Z.cf_four_of_2 ixF, Z.cf_is_quiet ixF, Z.cf_wrong_word ixF, Z.cf_kind_seen ixF, Z.cf_one_taken ixF, Z.cf_pair_taken ixF, Z.cf_wrong_taken ixF, Z.cf_least_parted ixF, Z.cf_does_part ixF, Z.cf_most_west ixF, Z.cf_is_covered ixF, Z.cf_are_cuts ixF]
def ext_9 : List CF := [Z.cf_are_spots ixF, Z.cf_are_apart_2 ixF, Z.cf_are_days ixF, Z.cf_are_places ixF, Z.cf_made_so ixF, Z.cf_do_fit ixF, Z.cf_arms_fit ixF, Z.cf_does_fit ixF, Z.cf_fit_all_2 ixF, Z.cf_are_unlike ixF, Z.cf_beside_2 ixF, Z.cf_arms_of_both ixF, Z.cf_possible_pairs ixF, Z.cf_is_number ixF, Z.cf_are_numbers ixF, Z.cf_east_with ixF, Z.cf_ways_seen ixF, Z.cf_left_by ixF, Z.cf_are_stretches ixF, Z.cf_holds_one ixF]
def ext_10 : List CF := [Z.cf_does_need ixF, Z.cf_is_plan ixF, Z.cf_lamp_taken ixF, Z.cf_short_taken ixF, Z.cf_kind_by_2 ixF, Z.cf_check_two_2 ixF, Z.cf_pair_at_2 ixF, Z.cf_law_day_2 ixF, Z.cf_law_is_day ixF, Z.cf_law_kind_3 ixF, Z.cf_law_any_day ixF, Z.cf_law_some_days_2 ixF, Z.cf_cuts_taken_3 ixF, Z.cf_pairs_that_fit_3 ixF, Z.cf_are_all_3 ixF, Z.cf_clash_together_3 ixF, Z.cf_do_clash_3 ixF, Z.cf_day_taken_3 ixF, Z.cf_days_taken_3 ixF, Z.cf_holds_3 ixF]
def ext_11 : List CF := [Z.cf_west_span_2 ixF, Z.cf_two_drags_2 ixF, Z.cf_fits_by_2 ixF, Z.cf_fit_all_4 ixF, Z.cf_are_apart_3 ixF, Z.cf_drags_by_2 ixF, Z.cf_pair_of ixF, Z.cf_unlike_days ixF, Z.cf_kind_of_2 ixF, Z.cf_next_cut_2 ixF, Z.cf_cover_by_2 ixF, Z.cf_cover_of_3 ixF, Z.cf_marks_of ixF, Z.cf_ways_by ixF, Z.cf_answer_of ixF, Z.cf_stretches_left ixF, Z.cf_needed_by ixF, Z.cf_table_by ixF, Z.cf_all_ways ixF, Z.cf_ways_of ixF]
def ext_12 : List CF := [Z.cf_lamp_needed ixF, Z.cf_plan_by ixF, Z.cf_lamp_plan ixF, Z.cf_pairs_of_two_2 ixF, Z.cf_pairs_with_2 ixF, Z.cf_pairs_of_3 ixF, Z.cf_pairs_told_3 ixF, Z.cf_telling_by_3 ixF, Z.cf_telling_3 ixF, Z.cf_clash_by_3 ixF, Z.cf_paper_day ixF, Z.cf_paper_cuts ixF, Z.cf_paper_lamp ixF, Z.cf_places_that_fit_2 ixF, Z.cf_clash_paper_2 ixF, Z.cf_paper_days_2 ixF, Z.cf_cover_of_4 ixF, Z.cf_pairs_of_4 ixF, Z.cf_pairs_told_4 ixF, Z.cf_telling_by_4 ixF]
def ext_13 : List CF := [Z.cf_telling_4 ixF, Z.cf_clash_by_4 ixF, Z.cf_pair_of_2 ixF, Z.cf_paper_day_2 ixF, Z.cf_paper_cuts_2 ixF, Z.cf_places_that_fit_3 ixF, Z.cf_unlike_days_2 ixF, Z.cf_clash_paper_3 ixF, Z.cf_paper_days_3 ixF, Z.cf_cuts_needed_2 ixF, Z.cf_thing_in ixF, Z.cf_row_in ixF, Z.cf_cable_text ixF, Z.cf_leak_text ixF, Z.cf_kind_text ixF, Z.cf_span_text ixF, Z.cf_numbers_text ixF, Z.cf_telling_text ixF, Z.cf_east_span_2 ixF, Z.cf_day_text ixF]
def ext_14 : List CF := [Z.cf_law_said ixF, Z.cf_clash_of_2 ixF, Z.cf_cuts_needed_3 ixF, Z.cf_clash_of_3 ixF, Z.cf_marks_of_2 ixF, Z.cf_ways_by_2 ixF, Z.cf_all_ways_3 ixF, Z.cf_ways_of_3 ixF, Z.cf_lamp_needed_3 ixF, Z.cf_lamp_plan_3 ixF, Z.cf_law_way ixF, Z.cf_law_ways ixF, Z.cf_law_sort_3 ixF]
def ext : List CF := ext_0 ++ ext_1 ++ ext_2 ++ ext_3 ++ ext_4 ++ ext_5 ++ ext_6 ++ ext_7 ++ ext_8 ++ ext_9 ++ ext_10 ++ ext_11 ++ ext_12 ++ ext_13 ++ ext_14
def PX : Nat → Option CF := progW L ext
instance libPX : Lib PX where
  ix := ixF
  q0 := tab_of (by kernel_rfl)
  q1 := tab_of (by kernel_rfl)
  q2 := tab_of (by kernel_rfl)
  q3 := tab_of (by kernel_rfl)
  q4 := tab_of (by kernel_rfl)
  q5 := tab_of (by kernel_rfl)
  q6 := tab_of (by kernel_rfl)
  q7 := tab_of (by kernel_rfl)
  q8 := tab_of (by kernel_rfl)
  q9 := tab_of (by kernel_rfl)
  q10 := tab_of (by kernel_rfl)
  q11 := tab_of (by kernel_rfl)
  q12 := tab_of (by kernel_rfl)
  q13 := tab_of (by kernel_rfl)
  q14 := tab_of (by kernel_rfl)
  q15 := tab_of (by kernel_rfl)
theorem closed : closedB L = true := by kernel_rfl
theorem chk : L.chk = true := by kernel_rfl
def cf_law_number : CF := ⟨1, 3, (.seq (.asg (.nm 1) (.idx (.lst (.cons (.con (.int 1)) (.cons (.con (.int 1)) (.cons (.bin .pow (.con (.int 10)) (.con (.int 9))) (.cons (.bin .pow (.con (.int 10)) (.con (.int 50))) .nil))))) (.call (Lib.ix PX 19) (.cons (.var 0) (.cons (.con (.int 4)) .nil))))) (.seq (.asg (.nm 2) (.bin .add (.bin .mul (.call (Lib.ix PX 19) (.cons (.var 0) (.cons (.idx (.lst (.cons (.con (.int 10)) (.cons (.bin .pow (.con (.int 10)) (.con (.int 9))) .nil))) (.call (Lib.ix PX 19) (.cons (.var 0) (.cons (.con (.int 2)) .nil)))) .nil))) (.var 1)) (.call (Lib.ix PX 19) (.cons (.var 0) (.cons (.con (.int 3)) .nil))))) (.ret (.idx (.lst (.cons (.var 2) (.cons (.bin .sub (.con (.int 0)) (.var 2)) .nil))) (.call (Lib.ix PX 19) (.cons (.var 0) (.cons (.con (.int 2)) .nil)))))))⟩
theorem p_law_number : PX 24 = some cf_law_number := by kernel_rfl
def cf_law_fraction : CF := ⟨1, 3, (.seq (.asg (.tp (.cons (.nm 1) (.cons (.nm 2) .nil))) (.tup (.cons (.call 24 (.cons (.var 0) .nil)) (.cons (.bin .add (.blt .abs (.cons (.call 24 (.cons (.var 0) .nil)) .nil)) (.con (.int 1))) .nil)))) (.seq (.ife (.cmp .eq (.call (Lib.ix PX 19) (.cons (.var 0) (.cons (.con (.int 5)) .nil))) (.con (.int 1))) (.asg (.nm 1) (.bin .sub (.bin .add (.var 2) (.call (Lib.ix PX 19) (.cons (.var 0) (.cons (.con (.int 3)) .nil)))) (.con (.int 1)))) .skip) (.ret (.call (Lib.ix PX 21) (.cons (.var 1) (.cons (.var 2) .nil))))))⟩
theorem p_law_fraction : PX 25 = some cf_law_fraction := by kernel_rfl
def cf_law_due : CF := ⟨3, 3, (.seq (.ife (.cmp .eq (.var 0) (.con (.int 0))) (.ret (.call (Lib.ix PX 21) (.cons (.bin .add (.bin .mul (.idx (.var 1) (.con (.int 0))) (.idx (.var 2) (.con (.int 1)))) (.bin .mul (.idx (.var 1) (.con (.int 1))) (.idx (.var 2) (.con (.int 0))))) (.cons (.bin .mul (.idx (.var 1) (.con (.int 1))) (.idx (.var 2) (.con (.int 1)))) .nil)))) .skip) (.seq (.ife (.cmp .eq (.var 0) (.con (.int 1))) (.ret (.call (Lib.ix PX 21) (.cons (.bin .sub (.bin .mul (.idx (.var 1) (.con (.int 0))) (.idx (.var 2) (.con (.int 1)))) (.bin .mul (.idx (.var 1) (.con (.int 1))) (.idx (.var 2) (.con (.int 0))))) (.cons (.bin .mul (.idx (.var 1) (.con (.int 1))) (.idx (.var 2) (.con (.int 1)))) .nil)))) .skip) (.seq (.ife (.cmp .eq (.var 0) (.con (.int 2))) (.ret (.call (Lib.ix PX 21) (.cons (.bin .mul (.idx (.var 1) (.con (.int 0))) (.idx (.var 2) (.con (.int 0)))) (.cons (.bin .mul (.idx (.var 1) (.con (.int 1))) (.idx (.var 2) (.con (.int 1)))) .nil)))) .skip) (.seq (.ife (.and (.cmp .eq (.var 0) (.con (.int 3))) (.cmp .ne (.idx (.var 2) (.con (.int 0))) (.con (.int 0)))) (.ret (.call (Lib.ix PX 21) (.cons (.bin .mul (.idx (.var 1) (.con (.int 0))) (.idx (.var 2) (.con (.int 1)))) (.cons (.bin .mul (.idx (.var 1) (.con (.int 1))) (.idx (.var 2) (.con (.int 0)))) .nil)))) .skip) (.ret (.idx (.lst (.cons (.con (.str "number")) (.cons (.cmp .lt (.bin .mul (.idx (.var 1) (.con (.int 0))) (.idx (.var 2) (.con (.int 1)))) (.bin .mul (.idx (.var 1) (.con (.int 1))) (.idx (.var 2) (.con (.int 0))))) .nil))) (.blt .int (.cons (.cmp .eq (.var 0) (.con (.int 4))) .nil))))))))⟩
theorem p_law_due : PX 26 = some cf_law_due := by kernel_rfl
def cf_law_same : CF := ⟨2, 2, (.seq (.ife (.isi (.var 1) .tup) (.ret (.and (.call (Lib.ix PX 22) (.cons (.var 0) .nil)) (.cmp .eq (.var 0) (.var 1)))) .skip) (.ret (.and (.cmp .eq (.isi (.var 0) .bool) (.isi (.var 1) .bool)) (.cmp .eq (.var 0) (.var 1)))))⟩
theorem p_law_same : PX 28 = some cf_law_same := by kernel_rfl
def cb_law_right_1 : CS := (.ife (.not (.call 28 (.cons (.call (Lib.ix PX 24) (.cons (.var 2) (.cons (.var 3) (.cons (.var 4) .nil)))) (.cons (.call 26 (.cons (.var 2) (.cons (.var 3) (.cons (.var 4) .nil)))) .nil)))) (.ret (.con (.bl false))) .skip)
def cb_law_right_2 : CS := (.fr (.tp (.cons (.nm 3) (.cons (.nm 4) .nil))) (.one (.lst (.cons (.tup (.cons (.var 0) (.cons (.var 1) .nil))) (.cons (.tup (.cons (.var 1) (.cons (.var 0) .nil))) (.cons (.tup (.cons (.var 0) (.cons (.var 0) .nil))) .nil))))) (cb_law_right_1))
def cf_law_right : CF := ⟨2, 5, (.seq (.fr (.nm 2) (.one (.lst (.cons (.con (.int 0)) (.cons (.con (.int 1)) (.cons (.con (.int 2)) (.cons (.con (.int 3)) (.cons (.con (.int 4)) (.cons (.con (.int 0)) .nil)))))))) (cb_law_right_2)) (.ret (.con (.bl true))))⟩
theorem p_law_right : PX 29 = some cf_law_right := by kernel_rfl
def cf_law_made_right : CF := ⟨2, 3, (.seq (.asg (.nm 2) (.con (.str "number"))) (.seq (.ife (.cmp .ne (.var 1) (.con (.int 0))) (.asg (.nm 2) (.call (Lib.ix PX 21) (.cons (.var 0) (.cons (.var 1) .nil)))) .skip) (.ret (.and (.call 28 (.cons (.call (Lib.ix PX 24) (.cons (.con (.int 5)) (.cons (.var 0) (.cons (.var 1) .nil)))) (.cons (.var 2) .nil))) (.call 28 (.cons (.call (Lib.ix PX 24) (.cons (.con (.int 5)) (.cons (.var 1) (.cons (.con (.int 1)) .nil)))) (.cons (.tup (.cons (.var 1) (.cons (.con (.int 1)) .nil))) .nil)))))))⟩
theorem p_law_made_right : PX 30 = some cf_law_made_right := by kernel_rfl
def cb_law_refused_1 : CS := (.ife (.cmp .ne (.lst (.cons (.call (Lib.ix PX 24) (.cons (.var 3) (.cons (.var 0) (.cons (.var 1) .nil)))) (.cons (.call (Lib.ix PX 24) (.cons (.var 3) (.cons (.var 1) (.cons (.var 0) .nil)))) (.cons (.call (Lib.ix PX 24) (.cons (.var 3) (.cons (.var 0) (.cons (.var 0) .nil)))) .nil)))) (.bin .mul (.lst (.cons (.con (.str "number")) .nil)) (.con (.int 3)))) (.ret (.con (.bl false))) .skip)
def cf_law_refused : CF := ⟨3, 4, (.seq (.ife (.not (.call 28 (.cons (.call (Lib.ix PX 3) (.cons (.var 0) .nil)) (.cons (.call (Lib.ix PX 22) (.cons (.var 0) .nil)) .nil)))) (.ret (.con (.bl false))) .skip) (.seq (.fr (.nm 3) (.rng (.con (.int 0)) (.bin .mul (.con (.int 5)) (.blt .int (.cons (.not (.call (Lib.ix PX 22) (.cons (.var 0) .nil))) .nil)))) (cb_law_refused_1)) (.seq (.ife (.call (Lib.ix PX 20) (.cons (.var 0) .nil)) (.ret (.con (.bl true))) .skip) (.ret (.cmp .eq (.lst (.cons (.call (Lib.ix PX 24) (.cons (.con (.int 5)) (.cons (.var 0) (.cons (.con (.int 1)) .nil)))) (.cons (.call (Lib.ix PX 24) (.cons (.con (.int 5)) (.cons (.var 2) (.cons (.var 0) .nil)))) (.cons (.call (Lib.ix PX 24) (.cons (.con (.int 5)) (.cons (.var 0) (.cons (.con (.int 0)) .nil)))) .nil)))) (.bin .mul (.lst (.cons (.con (.str "number")) .nil)) (.con (.int 3))))))))⟩
theorem p_law_refused : PX 31 = some cf_law_refused := by kernel_rfl
def cb_law_1 : CS := (.ife (.not (.call 31 (.cons (.idx (.var 7) (.call (Lib.ix PX 19) (.cons (.var 2) (.cons (.blt .len (.cons (.var 7) .nil)) .nil)))) (.cons (.var 3) (.cons (.var 5) .nil))))) (.ret (.con (.bl false))) .skip)
def cb_law_2 : CS := (.seq (.asg (.nm 2) (.call (Lib.ix PX 18) (.cons (.call (Lib.ix PX 17) (.cons (.var 0) (.cons (.var 1) .nil))) .nil))) (.seq (.asg (.tp (.cons (.nm 3) (.cons (.nm 4) .nil))) (.tup (.cons (.call 25 (.cons (.var 2) .nil)) (.cons (.call 25 (.cons (.var 2) .nil)) .nil)))) (.seq (.asg (.tp (.cons (.nm 5) (.cons (.nm 6) .nil))) (.tup (.cons (.call 24 (.cons (.var 2) .nil)) (.cons (.call 24 (.cons (.var 2) .nil)) .nil)))) (.seq (.ife (.or (.not (.call 29 (.cons (.var 3) (.cons (.var 4) .nil)))) (.or (.not (.call 30 (.cons (.var 5) (.cons (.var 6) .nil)))) (.not (.call 30 (.cons (.var 5) (.cons (.con (.int 0)) .nil)))))) (.ret (.con (.bl false))) .skip) (.seq (.asg (.nm 7) (.lst (.cons (.con .non) (.cons (.con (.bl true)) (.cons (.con (.bl false)) (.cons (.con (.int 7)) (.cons (.con (.int 0)) (.cons (.con (.str "1/2")) (.cons (.con (.str "")) (.cons (.tup .nil) (.cons (.lst .nil) (.cons .edic (.cons (.lst (.cons (.con (.int 1)) (.cons (.con (.int 2)) .nil))) (.cons (.tup (.cons (.con (.int 1)) .nil)) (.cons (.tup (.cons (.con (.int 1)) (.cons (.con (.int 2)) (.cons (.con (.int 3)) .nil)))) (.cons (.tup (.cons (.con (.int 2)) (.cons (.con (.int 4)) .nil))) .nil)))))))))))))))) (.seq (.asg (.nm 7) (.bin .add (.var 7) (.lst (.cons (.tup (.cons (.con (.int 0)) (.cons (.con (.int 2)) .nil))) (.cons (.tup (.cons (.con (.int 1)) (.cons (.con (.int 0)) .nil))) (.cons (.tup (.cons (.con (.int 1)) (.cons (.neg (.con (.int 2))) .nil))) .nil)))))) (.seq (.asg (.nm 7) (.bin .add (.var 7) (.lst (.cons (.tup (.cons (.con (.bl true)) (.cons (.con (.int 1)) .nil))) (.cons (.tup (.cons (.con (.int 1)) (.cons (.con (.bl true)) .nil))) (.cons (.tup (.cons (.con (.str "1")) (.cons (.con (.int 2)) .nil))) (.cons (.tup (.cons (.con .non) (.cons (.con (.int 1)) .nil))) (.cons (.tup (.cons (.lst (.cons (.con (.int 1)) .nil)) (.cons (.con (.int 2)) .nil))) (.cons (.tup (.cons (.con (.int 1)) (.cons (.lst (.cons (.con (.int 2)) .nil)) .nil))) (.cons (.tup (.cons .edic (.cons (.con (.int 1)) .nil))) (.cons (.tup (.cons (.tup (.cons (.con (.int 1)) (.cons (.con (.int 2)) .nil))) (.cons (.con (.int 3)) .nil))) .nil))))))))))) (.seq (.asg (.nm 7) (.bin .add (.var 7) (.lst (.cons (.lst (.cons (.var 3) .nil)) (.cons (.tup (.cons (.var 3) (.cons (.var 4) .nil))) .nil))))) (.seq (.asg (.nm 7) (.bin .add (.var 7) (.lst (.cons (.tup (.cons (.bin .mul (.con (.int 2)) (.idx (.var 3) (.con (.int 0)))) (.cons (.bin .mul (.con (.int 2)) (.idx (.var 3) (.con (.int 1)))) .nil))) (.cons (.tup (.cons (.idx (.var 3) (.con (.int 0))) (.cons (.bin .sub (.con (.int 0)) (.idx (.var 3) (.con (.int 1)))) .nil))) (.cons (.blt .list (.cons (.var 3) .nil)) (.cons (.bin .add (.var 3) (.tup (.cons (.con (.int 1)) .nil))) (.cons (.tup (.cons (.idx (.var 3) (.con (.int 0))) (.cons (.blt .str (.cons (.idx (.var 3) (.con (.int 1))) .nil)) .nil))) .nil)))))))) (.seq (.asg (.nm 7) (.bin .add (.var 7) (.lst (.cons (.tup (.cons (.blt .str (.cons (.idx (.var 3) (.con (.int 0))) .nil)) (.cons (.idx (.var 3) (.con (.int 1))) .nil))) .nil)))) (.seq (.fr (.nm 8) (.rng (.con (.int 0)) (.con (.int 2))) (cb_law_1)) (.ife (.or (.cmp .isnot (.call (Lib.ix PX 3) (.cons (.var 3) .nil)) (.con (.bl true))) (.cmp .isnot (.call (Lib.ix PX 3) (.cons (.tup (.cons (.idx (.var 3) (.con (.int 1))) (.cons (.con (.int 1)) .nil))) .nil)) (.con (.bl true)))) (.ret (.con (.bl false))) .skip))))))))))))
def cf_law : CF := ⟨1, 10, (.seq (.ife (.not (.blt .all (.cons (.comp (.call 31 (.cons (.var 9) (.cons (.tup (.cons (.con (.int 1)) (.cons (.con (.int 2)) .nil))) (.cons (.con (.int 3)) .nil)))) (.nm 9) (.one (.lst (.cons (.tup (.cons (.con (.int 2)) (.cons (.con (.int 4)) .nil))) (.cons (.tup (.cons (.con (.int 0)) (.cons (.con (.int 2)) .nil))) (.cons (.tup (.cons (.con (.int 1)) (.cons (.neg (.con (.int 2))) .nil))) (.cons (.tup (.cons (.con (.int 1)) (.cons (.con (.int 0)) .nil))) (.cons (.lst (.cons (.con (.int 1)) (.cons (.con (.int 2)) .nil))) (.cons (.tup (.cons (.con (.bl true)) (.cons (.con (.int 1)) .nil))) .nil)))))))) (.con (.bl true)) [9] false) .nil))) (.ret (.con (.bl false))) .skip) (.seq (.fr (.nm 1) (.rng (.con (.int 0)) (.blt .max (.cons (.con (.int 2)) (.cons (.blt .min (.cons (.con (.int 6)) (.cons (.blt .len (.cons (.var 0) .nil)) .nil))) .nil)))) (cb_law_2)) (.ret (.con (.bl true)))))⟩
theorem p_law : PX 32 = some cf_law := by kernel_rfl
theorem law_ev {k : Nat} {ds : List D} {S : Store} : evF L.prog k 32 ds S = evF PX k 32 ds S := by
  have h : evF L.prog k 32 = evF PX k 32 := evF_progW closed (by decide +kernel)
  rw [h]
end ZL

namespace ZL
open PySem Z
section
variable {n m l k p : Nat} {S : Store} {a b : Rat} {d e : D} {q : Q3}
/-- a loop that goes on -/
theorem for_pass {body : Z.Env → Store → SR} {tg : CT} {ws : List D} (G : Z.Env → Store → Prop) : ∀ (items : List D) (δ : Z.Env) (S : Store), (∀ d ∈ items, ∀ δ S, G δ S → ∃ δ' δ'' S', stepT tg d δ = some δ' ∧ body δ' S = .nx δ'' S' ∧ G δ'' S') → G δ S → ∃ δ' S', forEv body tg (.fix ws) items δ S = .nx δ' S' ∧ G δ' S'
  | [], δ, S, _, g => ⟨δ, S, by simp [forEv, at_fix], g⟩
  | d :: ds, δ, S, h, g => by
    obtain ⟨δ1, δ2, S1, e1, e2, g2⟩ := h d List.mem_cons_self δ S g
    obtain ⟨δ3, S3, e3, g3⟩ := for_pass (ws := ws) G ds δ2 S1 (fun x hx => h x (List.mem_cons_of_mem _ hx)) g2
    refine ⟨δ3, S3, ?_, g3⟩
    unfold forEv
    rw [if_pos at_fix']
    simp only [e1, e2, e3]
@[simp] theorem bin_pow_50 : binEv .pow (.int 10) (.int 50) S = some (.int (10 ^ 50)) := by
  simp only [binEv]
  rw [if_pos (by decide)]
  rfl
@[simp] theorem bin_pow_9 : binEv .pow (.int 10) (.int 9) S = some (.int 1000000000) := by
  simp only [binEv]
  rw [if_pos (by decide)]
  rfl
theorem at_D {l : List D} {r : Int} (h0 : 0 ≤ r) (h1 : r < l.length) : ∃ x ∈ l, L2.atI l r = some x := by
  have hl : r.toNat < l.length := by omega
  exact ⟨l[r.toNat], List.getElem_mem hl, by rw [atI_of h0]; simp [hl]⟩
def BN (v : Int) : Prop := v.natAbs ≤ 2 ^ 200
theorem ex_number (q : Q3) : ∃ (v : Int) (q' : Q3), BN v ∧ ∀ n S p, p < S.length → evF PX (n + 2) 24 [.ref p] (Sq S p q) = .ok (.int v) (Sq S p q') := by
  obtain ⟨f, hf, ef⟩ := pk4 (l := [1, 1, 1000000000, 100000000000000000000000000000000000000000000000000]) (q := q) (m := 4) rfl (by decide)
  obtain ⟨g, hg, eg⟩ := pk4 (l := [10, 1000000000]) (q := pkQ 4 q) (m := 2) rfl (by decide)
  have g0 : 0 < g ∧ g ≤ 1000000000 := by
    simp only [List.mem_cons, List.not_mem_nil, or_false] at hg
    rcases hg with rfl | rfl <;> omega
  have f0 : 0 < f ∧ f ≤ 100000000000000000000000000000000000000000000000000 := by
    simp only [List.mem_cons, List.not_mem_nil, or_false] at hf
    rcases hf with rfl | rfl | rfl | rfl <;> omega
  let q2 := pkQ 2 (pkQ 4 q)
  let q3 := pkQ g q2
  let q4 := pkQ 3 q3
  have a0 := pkR_nonneg (m := g) (q := q2) (by omega)
  have a1 := pkR_lt (m := g) (q := q2) (by omega)
  have b0 := pkR_nonneg (m := 3) (q := q3) (by omega)
  have b1 := pkR_lt (m := 3) (q := q3) (by omega)
  have hv : pkR g q2 * f ≤ 1000000000 * 100000000000000000000000000000000000000000000000000 := Int.mul_le_mul (by omega) f0.2 (by omega) (by decide)
  have hv0 : 0 ≤ pkR g q2 * f := Int.mul_nonneg a0 (by omega)
  obtain ⟨w, hw, ew⟩ := pk4 (l := [pkR g q2 * f + pkR 3 q3, 0 - (pkR g q2 * f + pkR 3 q3)]) (q := q4) (m := 2) rfl (by decide)
  refine ⟨w, pkQ 2 q4, ?_, fun n S p hp => ?_⟩
  · have z : (1000000000 * 100000000000000000000000000000000000000000000000000 + 3 : Int) ≤ 2 ^ 200 := by decide
    unfold BN
    simp only [List.mem_cons, List.not_mem_nil, or_false] at hw
    have hz : (w.natAbs : Int) ≤ 2 ^ 200 := by rcases hw with rfl | rfl <;> omega
    exact_mod_cast hz
  · rw [evF_at p_law_number rfl rfl]
    have m1 : MulOk (pkR g q2) f := mulOk_l (by omega) (by omega)
    simp only [List.map_cons, List.map_nil] at ef eg ew
    simp [cf_law_number, hp, ef, eg, g0.1, bin_mul_int m1, q2, q3, q4] at ew ⊢
    simp [ew]
    exact gc_same (by simp)
theorem bd_bn {i j : Int} (h1 : i.natAbs ≤ 2 ^ 202) (h2 : j.natAbs ≤ 2 ^ 202) : Bd ((i : Rat) / (j : Rat)) 202 := bd_div h1 h2
theorem ex_fraction (q : Q3) : ∃ (a : Rat) (q' : Q3), Bd a 202 ∧ ∀ n S p, p < S.length → evF PX (n + 3) 25 [.ref p] (Sq S p q) = .ok (fr a) (Sq S p q') := by
  obtain ⟨v, q1, hv, e1⟩ := ex_number q
  obtain ⟨w, q2, hw, e2⟩ := ex_number q1
  unfold BN at hv hw
  have hb : ((w.natAbs : Int) + 1) ≠ 0 := by omega
  have r0 := pkR_nonneg (m := 3) (q := pkQ 5 q2) (by omega)
  have r1 := pkR_lt (m := 3) (q := pkQ 5 q2) (by omega)
  by_cases h5 : pkR 5 q2 = 1
  · refine ⟨(((w.natAbs : Int) + 1 + pkR 3 (pkQ 5 q2) - 1 : Int) : Rat) / (((w.natAbs : Int) + 1 : Int) : Rat), pkQ 3 (pkQ 5 q2), bd_bn (by omega) (by omega), fun n S p hp => ?_⟩
    rw [evF_at p_law_fraction rfl rfl]
    have e3 := ev_law_low (P := PX) (n := n + 1) (S := Sq S p (pkQ 3 (pkQ 5 q2))) (a := (w.natAbs : Int) + 1 + pkR 3 (pkQ 5 q2) - 1) hb
    simp [cf_law_fraction, hp, e1, e2, h5, e3, -ev_law_low]
    exact gc_same (by simp)
  · refine ⟨(v : Rat) / (((w.natAbs : Int) + 1 : Int) : Rat), pkQ 5 q2, bd_bn (by omega) (by omega), fun n S p hp => ?_⟩
    rw [evF_at p_law_fraction rfl rfl]
    have e3 := ev_law_low (P := PX) (n := n + 1) (S := Sq S p (pkQ 5 q2)) (a := v) hb
    simp [cf_law_fraction, hp, e1, e2, h5, e3, -ev_law_low]
    exact gc_same (by simp)
/-! told and due -/
theorem ev_same_fr : evF PX (n + 3) 28 [fr a, fr a] S = .ok (.bl true) S := by
  rw [evF_at p_law_same rfl rfl]
  simp [cf_law_same]
theorem ev_same_bl {x : Bool} : evF PX (n + 3) 28 [.bl x, .bl x] S = .ok (.bl true) S := by
  rw [evF_at p_law_same rfl rfl]
  have e1 : isiEv (.bl x) .tup S = some false := rfl
  have e2 : eqD (.bl x) (.bl x) = true := eqD_refl 1 (by simp)
  have e3 : eqD (.bl true) (.bl true) = true := rfl
  simp [cf_law_same, e1, e2, e3]
theorem ev_same_no : evF PX (n + 3) 28 [.str "number", .str "number"] S = .ok (.bl true) S := by
  rw [evF_at p_law_same rfl rfl]
  have e1 : isiEv (.str "number") .tup S = some false := rfl
  have e4 : isiEv (.str "number") .bool S = some false := rfl
  have e5 : cmpEv .eq (.str "number") (.str "number") S = some (.bl true) := by rw [eq_ev (by decide +kernel) (by decide +kernel)]; rfl
  have e3 : eqD (.bl false) (.bl false) = true := rfl
  simp [cf_law_same, e1, e3, e4, e5]
def ways : List (Nat × Nat) := [(0, 0)]
/-- what is told: a word for what is refused -/
theorem told_no {w : Int} {x y : D} (h : ∀ S, evF PX (n + 1) (if w = 0 then f_plus PX else if w = 1 then f_minus PX else if w = 2 then f_times PX else if w = 3 then f_over PX else if w = 4 then f_below PX else f_fraction PX) [x, y] S = .exc 1 .non S) : evF PX (n + 2) (f_law_told PX) [.int w, x, y] S = .ok (.str "number") S := by
  rw [evF_at (p_law_told PX) rfl rfl]
  have s1 := fun S => ev_law_sort_1 (P := PX) (n := n) (S := S)
  split at h <;> rename_i h0
  · simp [cf_law_told, h0, h, s1, SR.ts_xc]
  · split at h <;> rename_i h1
    · simp [cf_law_told, h0, h1, h, s1, SR.ts_xc]
    · split at h <;> rename_i h2
      · simp [cf_law_told, h0, h1, h2, h, s1, SR.ts_xc]
      · split at h <;> rename_i h3
        · simp [cf_law_told, h0, h1, h2, h3, h, s1, SR.ts_xc]
        · split at h <;> rename_i h4
          · simp [cf_law_told, h0, h1, h2, h3, h4, h, s1, SR.ts_xc]
          · simp [cf_law_told, h0, h1, h2, h3, h4, h, s1, SR.ts_xc]
theorem told_yes {w : Int} {x y z : D} (h : ∀ S, evF PX (n + 1) (if w = 0 then f_plus PX else if w = 1 then f_minus PX else if w = 2 then f_times PX else if w = 3 then f_over PX else if w = 4 then f_below PX else f_fraction PX) [x, y] S = .ok z S) : evF PX (n + 2) (f_law_told PX) [.int w, x, y] S = .ok z S := by
  rw [evF_at (p_law_told PX) rfl rfl]
  split at h <;> rename_i h0
  · simp [cf_law_told, h0, h]
  · split at h <;> rename_i h1
    · simp [cf_law_told, h0, h1, h]
    · split at h <;> rename_i h2
      · simp [cf_law_told, h0, h1, h2, h]
      · split at h <;> rename_i h3
        · simp [cf_law_told, h0, h1, h2, h3, h]
        · split at h <;> rename_i h4
          · simp [cf_law_told, h0, h1, h2, h3, h4, h]
          · simp [cf_law_told, h0, h1, h2, h3, h4, h]
/-- each way: what is told is what is due -/
theorem way_ok {w : Int} (h0 : 0 ≤ w) (h4 : w ≤ 4) [Bd a 202] [Bd b 202] : ∃ z, (∀ S, evF PX (n + 6) (f_law_told PX) [.int w, fr a, fr b] S = .ok z S) ∧ (∀ S, evF PX (n + 6) 26 [.int w, fr a, fr b] S = .ok z S) ∧ ∀ S, evF PX (n + 6) 28 [z, z] S = .ok (.bl true) S := by
  have hc : w = 0 ∨ w = 1 ∨ w = 2 ∨ w = 3 ∨ w = 4 := by omega
  rcases hc with rfl | rfl | rfl | rfl | rfl
  · refine ⟨fr (a + b), fun S => told_yes fun S => ?_, fun S => ?_, fun S => ev_same_fr⟩
    · exact ev_plus (m := 202) (l := 202) (by decide)
    · rw [evF_at p_law_due rfl rfl]
      have e := fun S => lawlow_at (P := PX) (n := n + 4) (S := S) (dd_ne a b) (add_eq a b)
      rw [Int.mul_comm b.num] at e
      simp [cf_law_due, e, -ev_law_low]
  · refine ⟨fr (a - b), fun S => told_yes fun S => ?_, fun S => ?_, fun S => ev_same_fr⟩
    · exact ev_minus (m := 202) (l := 202) (by decide)
    · rw [evF_at p_law_due rfl rfl]
      have e := fun S => lawlow_at (P := PX) (n := n + 4) (S := S) (dd_ne a b) (sub_eq a b)
      rw [Int.mul_comm b.num] at e
      simp [cf_law_due, e, -ev_law_low]
  · refine ⟨fr (a * b), fun S => told_yes fun S => ?_, fun S => ?_, fun S => ev_same_fr⟩
    · exact ev_times (m := 202) (l := 202) (by decide)
    · rw [evF_at p_law_due rfl rfl]
      have e := fun S => lawlow_at (P := PX) (n := n + 4) (S := S) (dd_ne a b) (mul_eq a b)
      simp [cf_law_due, e, -ev_law_low]
  · by_cases hz : b = 0
    · subst hz
      refine ⟨.str "number", fun S => told_no fun S => ?_, fun S => ?_, fun S => ev_same_no⟩
      · exact ev_over_0
      · rw [evF_at p_law_due rfl rfl]
        simp [cf_law_due]
    · refine ⟨fr (a / b), fun S => told_yes fun S => ?_, fun S => ?_, fun S => ev_same_fr⟩
      · exact ev_over (m := 202) (l := 202) hz (by decide)
      · rw [evF_at p_law_due rfl rfl]
        have e := fun S => lawlow_at (P := PX) (n := n + 4) (S := S) (dn_ne a hz) (div_eq a b hz)
        have hn := num_ne hz
        simp [cf_law_due, e, hn, -ev_law_low]
  · refine ⟨.bl (decide (a < b)), fun S => told_yes fun S => ?_, fun S => ?_, fun S => ev_same_bl⟩
    · exact ev_below (m := 202) (l := 202) (by decide)
    · rw [evF_at p_law_due rfl rfl]
      have e : (a < b) ↔ a.num * (b.den : Int) < (a.den : Int) * b.num := by rw [Rat.lt_iff, Int.mul_comm b.num]
      simp [cf_law_due, e]

theorem ev_right [Bd a 202] [Bd b 202] : evF PX (n + 7) 29 [fr a, fr b] S = .ok (.bl true) S := by
  rw [evF_at p_law_right rfl rfl]
  have w1 : ∀ (w : Int) (x3 x4 : Option D), 0 ≤ w → w ≤ 4 → ∃ y3 y4, Z.run (evF PX (n + 6)) cb_law_right_2 [some (fr a), some (fr b), some (.int w), x3, x4] S = .nx [some (fr a), some (fr b), some (.int w), y3, y4] S := fun w x3 x4 h0 h4 => by
    obtain ⟨z1, t1, d1, s1⟩ := way_ok (n := n) (a := a) (b := b) h0 h4
    obtain ⟨z2, t2, d2, s2⟩ := way_ok (n := n) (a := b) (b := a) h0 h4
    obtain ⟨z3, t3, d3, s3⟩ := way_ok (n := n) (a := a) (b := a) h0 h4
    exact ⟨some (fr a), some (fr a), by simp [cb_law_right_2, cb_law_right_1, t1, d1, s1, t2, d2, s2, t3, d3, s3]⟩
  obtain ⟨δ', S', e, g, rfl⟩ := for_pass (body := Z.run (evF PX (n + 6)) cb_law_right_2) (tg := .nm 2) (ws := ([0, 1, 2, 3, 4, 0] : List Int).map D.int) (fun δ S' => (∃ x2 x3 x4, δ = [some (fr a), some (fr b), x2, x3, x4]) ∧ S' = S) (([0, 1, 2, 3, 4, 0] : List Int).map D.int) [some (fr a), some (fr b), none, none, none] S (fun d hd δ S' h => by
    obtain ⟨⟨x2, x3, x4, rfl⟩, rfl⟩ := h
    obtain ⟨w, hw, rfl⟩ := List.mem_map.mp hd
    simp only [List.mem_cons, List.not_mem_nil, or_false] at hw
    obtain ⟨y3, y4, e⟩ := w1 w x3 x4 (by omega) (by omega)
    exact ⟨_, _, _, by simp, e, ⟨_, _, _, rfl⟩, rfl⟩) ⟨⟨_, _, _, rfl⟩, rfl⟩
  obtain ⟨x2, x3, x4, rfl⟩ := g
  simp only [List.map_cons, List.map_nil] at e
  simp [cf_law_right, e]
theorem ev_made_right {i j : Int} : evF PX (n + 7) 30 [.int i, .int j] S = .ok (.bl true) S := by
  rw [evF_at p_law_made_right rfl rfl]
  have f1 : evF PX (n + 6) (f_law_told PX) [.int 5, .int j, .int 1] S = .ok (fr ((j : Rat) / ((1 : Int) : Rat))) S := told_yes fun S => ev_fraction (by decide)
  have e1 : (j : Rat) / ((1 : Int) : Rat) = j := by
    rw [show ((1 : Int) : Rat) = 1 from rfl]
    grind
  rw [e1] at f1
  have s1 := fun a => ev_same_fr (n := n + 3) (S := S) (a := a)
  by_cases hj : j = 0
  · subst hj
    have f2 : evF PX (n + 6) (f_law_told PX) [.int 5, .int i, .int 0] S = .ok (.str "number") S := told_no fun S => ev_fraction_0
    have s2 := ev_same_no (n := n + 3) (S := S)
    simp [cf_law_made_right, f1, f2, s1, s2]
  · have f2 : evF PX (n + 6) (f_law_told PX) [.int 5, .int i, .int j] S = .ok (fr ((i : Rat) / (j : Rat))) S := told_yes fun S => ev_fraction hj
    simp [cf_law_made_right, f1, f2, s1, hj]
/-! refused -/
theorem rep_three {x : D} : binEv .mul (.lst [x]) (.int 3) S = some (.lst [x, x, x]) := by
  have h : -(2 ^ 63) ≤ (3 : Int) ∧ (3 : Int) < 2 ^ 63 ∧ [x].length * (3 : Int).toNat ≤ sizeLine := ⟨by decide, by decide, by rw [sizeLine_eq]; simp⟩
  simp only [binEv, mulEv, repEv, seqL]
  rw [if_pos h]
  rfl
theorem ne_three : cmpEv .ne (.lst [.str "number", .str "number", .str "number"]) (.lst [.str "number", .str "number", .str "number"]) S = some (.bl false) := by
  rw [ne_ev (by decide +kernel) (by decide +kernel)]; rfl
theorem eq_three : cmpEv .eq (.lst [.str "number", .str "number", .str "number"]) (.lst [.str "number", .str "number", .str "number"]) S = some (.bl true) := by
  rw [eq_ev (by decide +kernel) (by decide +kernel)]; rfl
theorem no_1 {w : Int} (h0 : 0 ≤ w) (h4 : w ≤ 4) (h : thD d = true) (hf : isFr d = false) : evF PX (n + 6) (f_law_told PX) [.int w, d, e] S = .ok (.str "number") S := by
  have hc : w = 0 ∨ w = 1 ∨ w = 2 ∨ w = 3 ∨ w = 4 := by omega
  refine told_no fun S => ?_
  rcases hc with rfl | rfl | rfl | rfl | rfl
  · exact ev_plus_1 h hf
  · exact ev_minus_1 h hf
  · exact ev_times_1 h hf
  · exact ev_over_1 h hf
  · exact ev_below_1 h hf
theorem no_2 {w : Int} (h0 : 0 ≤ w) (h4 : w ≤ 4) (h : thD d = true) (hf : isFr d = false) : evF PX (n + 6) (f_law_told PX) [.int w, fr a, d] S = .ok (.str "number") S := by
  have hc : w = 0 ∨ w = 1 ∨ w = 2 ∨ w = 3 ∨ w = 4 := by omega
  refine told_no fun S => ?_
  rcases hc with rfl | rfl | rfl | rfl | rfl
  · exact ev_plus_2 h hf
  · exact ev_minus_2 h hf
  · exact ev_times_2 h hf
  · exact ev_over_2 h hf
  · exact ev_below_2 h hf
theorem ev_refused {i : Int} (h : thD d = true) : evF PX (n + 7) 31 [d, fr a, .int i] S = .ok (.bl true) S := by
  rw [evF_at p_law_refused rfl rfl]
  have s1 := fun x => ev_same_bl (n := n + 3) (S := S) (x := x)
  have c1 := ev_is_fraction_th (P := PX) (n := n + 4) (S := S) h
  have c2 := ev_law_is_fraction_th (P := PX) (n := n + 4) (S := S) h
  have c3 := ev_law_whole_th (P := PX) (n := n + 5) (S := S) h
  have lp : ∃ x3, forEv (Z.run (evF PX (n + 6)) cb_law_refused_1) (.nm 3) (.fix (rngD 0 (5 * (if isFr d then 0 else 1)))) (rngD 0 (5 * (if isFr d then 0 else 1))) [some d, some (fr a), some (.int i), none] S = .nx [some d, some (fr a), some (.int i), x3] S := by
    cases hf : isFr d with
    | true => exact ⟨none, by simp [rngD]⟩
    | false =>
      have t1 := fun w h0 h4 e => no_1 (n := n) (S := S) (w := w) (d := d) (e := e) h0 h4 h hf
      have t2 := fun w h0 h4 => no_2 (n := n) (S := S) (w := w) (d := d) (a := a) h0 h4 h hf
      obtain ⟨δ', S', e, g, rfl⟩ := for_pass (body := Z.run (evF PX (n + 6)) cb_law_refused_1) (tg := .nm 3) (ws := rngD 0 5) (fun δ S' => (∃ x3, δ = [some d, some (fr a), some (.int i), x3]) ∧ S' = S) (([0, 1, 2, 3, 4] : List Int).map D.int) [some d, some (fr a), some (.int i), none] S (fun y hy δ S' h => by
        obtain ⟨⟨x3, rfl⟩, rfl⟩ := h
        obtain ⟨w, hw, rfl⟩ := List.mem_map.mp hy
        simp only [List.mem_cons, List.not_mem_nil, or_false] at hw
        have h0 : 0 ≤ w := by omega
        have h4 : w ≤ 4 := by omega
        exact ⟨[some d, some (fr a), some (.int i), some (.int w)], [some d, some (fr a), some (.int i), some (.int w)], _, by simp, by simp [cb_law_refused_1, t1 w h0 h4, t2 w h0 h4, rep_three, ne_three], ⟨_, rfl⟩, rfl⟩) ⟨⟨_, rfl⟩, rfl⟩
      obtain ⟨x3, rfl⟩ := g
      exact ⟨x3, e⟩
  obtain ⟨x3, lp⟩ := lp
  have mu : ∀ i : Int, -(2 ^ 64) < i → i < 2 ^ 64 → binEv .mul (.int 5) (.int i) S = some (.int (5 * i)) := fun i _ _ => bin_mul_int (mulOk_l (by decide) (by decide))
  have m1 := mu 1 (by decide) (by decide)
  have m0 := mu 0 (by decide) (by decide)
  simp only [show (5 * 1 : Int) = 5 from rfl, show (5 * 0 : Int) = 0 from rfl] at m1 m0
  have fin : ∀ x3, isI d = false → Z.run (evF PX (n + 6)) (.ret (.cmp .eq (.lst (.cons (.call (Lib.ix PX 24) (.cons (.con (.int 5)) (.cons (.var 0) (.cons (.con (.int 1)) .nil)))) (.cons (.call (Lib.ix PX 24) (.cons (.con (.int 5)) (.cons (.var 2) (.cons (.var 0) .nil)))) (.cons (.call (Lib.ix PX 24) (.cons (.con (.int 5)) (.cons (.var 0) (.cons (.con (.int 0)) .nil)))) .nil)))) (.bin .mul (.lst (.cons (.con (.str "number")) .nil)) (.con (.int 3))))) [some d, some (fr a), some (.int i), x3] S = .rt (.bl true) S := fun x3 hi => by
    have f1 : ∀ j : Int, evF PX (n + 6) (f_law_told PX) [.int 5, d, .int j] S = .ok (.str "number") S := fun j => told_no fun S => ev_fraction_1 h hi
    have f2 : evF PX (n + 6) (f_law_told PX) [.int 5, .int i, d] S = .ok (.str "number") S := told_no fun S => ev_fraction_2 h hi
    simp [f1, f2, rep_three, eq_three]
  cases hf : isFr d with
  | true =>
    rw [hf] at lp c1 c2
    simp only [if_true, show (5 * 0 : Int) = 0 from rfl] at lp
    cases hi : isI d with
    | true => simp [cf_law_refused, s1, c1, c2, c3, lp, hi, m0, small62]
    | false => simp [cf_law_refused, s1, c1, c2, c3, lp, hi, m0, small62, fin]
  | false =>
    rw [hf] at lp c1 c2
    simp only [Bool.false_eq_true, if_false, show (5 * 1 : Int) = 5 from rfl] at lp
    cases hi : isI d with
    | true => simp [cf_law_refused, s1, c1, c2, c3, lp, hi, m1, small62]
    | false =>
      have fin' := fin x3 hi
      simp [cf_law_refused, s1, c1, c2, c3, lp, hi, m1, small62, fin']
/-- things that may be none -/
def odds (a b : Rat) : List D := [.non, .bl true, .bl false, .int 7, .int 0, .str "1/2", .str "", .tup [], .lst [], .edic, .lst [.int 1, .int 2], .tup [.int 1], .tup [.int 1, .int 2, .int 3], .tup [.int 2, .int 4], .tup [.int 0, .int 2], .tup [.int 1, .int 0], .tup [.int 1, .int (-2)], .tup [.bl true, .int 1], .tup [.int 1, .bl true], .tup [.str "1", .int 2], .tup [.non, .int 1], .tup [.lst [.int 1], .int 2], .tup [.int 1, .lst [.int 2]], .tup [.edic, .int 1], .tup [.tup [.int 1, .int 2], .int 3], .lst [fr a], .tup [fr a, fr b], .tup [.int (2 * a.num), .int (2 * a.den)], .tup [.int a.num, .int (-a.den)], .lst [.int a.num, .int a.den], .tup [.int a.num, .int a.den, .int 1], .tup [.int a.num, .str (toString (a.den : Int))], .tup [.str (toString a.num), .int a.den]]
theorem log_lt {i : Int} [IB i 202] : i.natAbs.log2 < 1920 := by
  have h := IB.n (i := i)
  by_cases hz : i.natAbs = 0
  · rw [hz]; decide
  · rw [Nat.log2_lt hz]
    exact Nat.lt_of_le_of_lt h (Nat.pow_lt_pow_right (by decide) (by decide))
theorem str_ib {i : Int} [IB i 202] : bltEv .str [.int i] S = some (.str (toString i)) := by
  simp only [bltEv, strEv]
  rw [if_pos log_lt]
theorem step (ns : List Int) (i : Int) (S : Store) (x2 x3 x4 x5 x6 x7 x8 x9 : Option D) (i0 : 0 ≤ i) (i1 : i < 64) : ∃ (t : List (Option D)) (S' : Store), t.length = 9 ∧ Z.run (evF PX (n + 8)) cb_law_2 [some (.scr (ns.map D.int)), some (.int i), x2, x3, x4, x5, x6, x7, x8, x9] S = .nx (some (.scr (ns.map D.int)) :: t) S' := by
  obtain ⟨c, e1⟩ := ex_cell (P := PX) (ns := ns) i0 (by omega)
  obtain ⟨q, e2⟩ := ex_purse (P := PX) c
  have hp : S.length < S.length + 1 := by omega
  have hp' : S.length < (S ++ [Cell.gone]).length := by simp
  obtain ⟨a, q1, ba, e3⟩ := ex_fraction q
  obtain ⟨b, q2, bb, e4⟩ := ex_fraction q1
  obtain ⟨v, q3, bv, e5⟩ := ex_number q2
  obtain ⟨w, q4, bw, e6⟩ := ex_number q3
  have e3' := fun n => e3 n (S ++ [.gone]) S.length hp'
  have e4' := fun n => e4 n (S ++ [.gone]) S.length hp'
  have e5' := fun n => e5 n (S ++ [.gone]) S.length hp'
  have e6' := fun n => e6 n (S ++ [.gone]) S.length hp'
  have e7 := fun S => ev_right (n := n + 1) (S := S) (a := a) (b := b)
  have e8 := fun S i j => ev_made_right (n := n + 1) (S := S) (i := i) (j := j)
  have e9 := fun S d h => ev_refused (n := n + 1) (S := S) (d := d) (a := a) (i := v) h
  have pre : Z.run (evF PX (n + 8)) (takeS 4 cb_law_2) [some (.scr (ns.map D.int)), some (.int i), x2, x3, x4, x5, x6, x7, x8, x9] S = .nx [some (.scr (ns.map D.int)), some (.int i), some (.ref S.length), some (fr a), some (fr b), some (.int v), some (.int w), x7, x8, x9] (Sq (S ++ [.gone]) S.length q4) := by
    simp [takeS, cb_law_2, e1, e2, e3', e4', e5', e6', e7, e8]
  have l1 : ∀ S, bltEv .list [fr a] S = some (.lst [.int a.num, .int a.den]) := fun S => rfl
  have l2 : ∀ S, binEv .add (fr a) (.tup [.int 1]) S = some (.tup [.int a.num, .int a.den, .int 1]) := fun S => bin_add_tup (by simp)
  have l3 : ∀ S, bltEv .str [.int a.num] S = some (.str (toString a.num)) := fun S => str_ib
  have l4 : ∀ S, bltEv .str [.int (a.den : Int)] S = some (.str (toString (a.den : Int))) := fun S => str_ib
  have l5 : ∀ S (j : Int), binEv .mul (.int 2) (.int j) S = some (.int (2 * j)) := fun S j => bin_mul_int (mulOk_l (by decide) (by decide))
  have mid : ∀ (p : Nat) S x8 x9, Z.run (evF PX (n + 8)) (takeS 6 (dropS 4 cb_law_2)) [some (.scr (ns.map D.int)), some (.int i), some (.ref p), some (fr a), some (fr b), some (.int v), some (.int w), x7, x8, x9] S = .nx [some (.scr (ns.map D.int)), some (.int i), some (.ref p), some (fr a), some (fr b), some (.int v), some (.int w), some (.lst (odds a b)), x8, x9] S := fun p S x8 x9 => by
    simp [takeS, dropS, cb_law_2, l1, l2, l3, l4, l5, odds]
  have th : ∀ d ∈ odds a b, thD d = true := fun d hd => by
    unfold odds at hd
    simp only [List.mem_cons, List.not_mem_nil, or_false] at hd
    rcases hd with rfl | rfl | rfl | rfl | rfl | rfl | rfl | rfl | rfl | rfl | rfl | rfl | rfl | rfl | rfl | rfl | rfl | rfl | rfl | rfl | rfl | rfl | rfl | rfl | rfl | rfl | rfl | rfl | rfl | rfl | rfl | rfl | rfl <;> simp
  have ol : (odds a b).length = 33 := rfl
  have lp : ∃ y8 q5, forEv (Z.run (evF PX (n + 8)) cb_law_1) (.nm 8) (.fix (rngD 0 2)) (rngD 0 2) [some (.scr (ns.map D.int)), some (.int i), some (.ref S.length), some (fr a), some (fr b), some (.int v), some (.int w), some (.lst (odds a b)), x8, x9] (Sq (S ++ [.gone]) S.length q4) = .nx [some (.scr (ns.map D.int)), some (.int i), some (.ref S.length), some (fr a), some (fr b), some (.int v), some (.int w), some (.lst (odds a b)), y8, x9] (Sq (S ++ [.gone]) S.length q5) := by
    obtain ⟨δ', S', e, ⟨y8, q5, rfl, rfl⟩⟩ := for_pass (body := Z.run (evF PX (n + 8)) cb_law_1) (tg := .nm 8) (ws := rngD 0 2) (fun δ T => ∃ y8 q5, δ = [some (.scr (ns.map D.int)), some (.int i), some (.ref S.length), some (fr a), some (fr b), some (.int v), some (.int w), some (.lst (odds a b)), y8, x9] ∧ T = Sq (S ++ [.gone]) S.length q5) (rngD 0 2) _ _ (fun d hd δ T h => by
      obtain ⟨y8, q5, rfl, rfl⟩ := h
      obtain ⟨z, hz, ez⟩ := at_D (l := odds a b) (r := pkR 33 q5) (pkR_nonneg (by decide)) (by rw [ol]; exact pkR_lt (by decide))
      have e9' := fun S => e9 S z (th z hz)
      have l0 : ∀ S, lenEv S (.lst (odds a b)) = some (.int 33) := fun S => rfl
      exact ⟨[some (.scr (ns.map D.int)), some (.int i), some (.ref S.length), some (fr a), some (fr b), some (.int v), some (.int w), some (.lst (odds a b)), some d, x9], [some (.scr (ns.map D.int)), some (.int i), some (.ref S.length), some (fr a), some (fr b), some (.int v), some (.int w), some (.lst (odds a b)), some d, x9], Sq (S ++ [.gone]) S.length (pkQ 33 q5), by simp, by simp [cb_law_1, l0, ez, e9', hp'], ⟨_, _, rfl, rfl⟩⟩) ⟨x8, q4, rfl, rfl⟩
    exact ⟨y8, q5, e⟩
  obtain ⟨y8, q5, lp⟩ := lp
  refine ⟨[some (.int i), some (.ref S.length), some (fr a), some (fr b), some (.int v), some (.int w), some (.lst (odds a b)), y8, x9], Sq (S ++ [.gone]) S.length q5, rfl, ?_⟩
  rw [run_split 4, pre, SR.bind_nx, run_split 6, mid, SR.bind_nx]
  have e10 := fun S => ev_is_fraction (P := PX) (n := n + 6) (S := S) (a := a)
  have e11 := fun S => ev_is_fraction (P := PX) (n := n + 6) (S := S) (a := ((a.den : Int) : Rat))
  have e12 : ∀ S, cmpEv .isnot (.bl true) (.bl true) S = some (.bl false) := fun S => rfl
  simp [dropS, cb_law_2, lp, e10, e11, e12, small62]
theorem good (ns : List Int) (hl : ns.length ≤ 63) : ∃ S, evF L.prog 13 32 [.scr (ns.map D.int)] [] = .ok (.bl true) S := by
  simp only [law_ev]
  refine law_good2 (n := 12) (N := 8) (E := _) (body := cb_law_2) p_law (if 2 < (if (ns.length : Int) < 6 then (ns.length : Int) else 6) then (if (ns.length : Int) < 6 then (ns.length : Int) else 6) else 2) (by split <;> split <;> omega) (by split <;> split <;> omega) [] ?_ (by simp) (fun i t S i0 i1 ht => ?_)
  · have a1 : ((1 : Rat) / 2).num = 1 := by decide +kernel
    have a2 : ((1 : Rat) / 2).den = 2 := by decide +kernel
    have t1 : fr ((1 : Rat) / 2) = .tup [.int 1, .int 2] := by rw [fr, a1, a2]; rfl
    have r := fun d h => ev_refused (n := 5) (S := []) (d := d) (a := (1 : Rat) / 2) (i := 3) h
    rw [t1] at r
    simp [r]
  match t, ht with
  | [x2, x3, x4, x5, x6, x7, x8, x9], _ =>
    obtain ⟨t, S', h1, h2⟩ := step (n := 4) ns i S x2 x3 x4 x5 x6 x7 x8 x9 i0 i1
    exact ⟨t, S', h2, h1⟩
end
end ZL

namespace ZL
open PySem PySem.Spec PyProof.Rows L2 Z

def CXn : CXT := fun _ _ _ _ _ _ => False
theorem fn_cx {P : Program} {w : World} {K : PySem.W.Frag} {mg : Str → Option Value} {base : Heap} {k : Nat} {f : Addr} {fd : FuncData} {ps : List Str} {sp : Sp} (F : FnOk P w K mg base (L2N.CX P w) k f fd ps sp) : FnOk P w K mg base CXn k f fd ps (fun vs H Q _ => sp vs H Q fun _ _ _ => False) :=
  ⟨fun vs H Q E h => F.len vs H Q _ h, fun A outer s H args us vs Q E hr e0 hb rv h => codeAny_mono (F.run A outer s H args us vs Q _ hr e0 hb rv h) fun r s' hc => by
    cases r with
    | ok fl => cases fl <;> exact hc
    | error e =>
      obtain ⟨_, _, _, _, _, _, _, _, _, _, _, _, z⟩ := hc
      exact z.elim⟩
theorem facts {P : Program} (tree : P.given.tree = none) {w : World} {K : PySem.W.Frag} {h : Heap} {mg : Str → Option Value} {f : Addr} (X : K.In h) (G : h.Ns mainGlobals mg) (hfa : mg ("law" : Str) = some (.ref f)) (c : SaysZ L K) :
    ∃ (fd : FuncData) (sp : Sp), (∀ (s : Shared) (u : Value), BindsTo s fd ⟨[u], []⟩ [("_law_script", u)]) ∧
        (∀ (H : L2.Hp) (a : Addr) (ns : List Int), ns.length ≤ 63 → L2.Only H → L2.SqL K H a (ns.map L2.V.int) → sp [.ref a] H (fun v _ => v = .bl true) fun _ _ _ => False) ∧
        ∀ base : Heap, K.In base → base.Ns mainGlobals mg → FnOk P w K mg base CXn 53 f fd ["_law_script"] sp := by
  obtain ⟨fd, sp, h1, h2, h3⟩ := law_facts (P := P) (w := w) (n := 63) (i := 32) (d := (L.defs)[32]'(by decide +kernel)) X G c chk (by rfl) tree (by rfl) hfa (fun ns h => good ns h)
  exact ⟨fd, fun vs H Q _ => sp vs H Q fun _ _ _ => False, h1, fun H a ns hl hO hS => h2 H a ns hl hO hS, fun base b1 b2 => fn_cx (h3 base b1 b2)⟩
end ZL
open PySem PySem.W PySem.Calls PyProof.Rows
theorem PySem.Challenge.cw_earthends_k01_fractions_reckoned_holds : PySem.Challenge.rw_earthends_k01_fractions_reckoned.Holds := by
  w_on; o_law
  refine HandSHeadRun.head_any (r := OpenLaw.row PySem.Challenge.rw_earthends_k01_fractions_reckoned) (q := view (OpenLaw.row PySem.Challenge.rw_earthends_k01_fractions_reckoned).prog [55]) (H := ZL.hdK) (ob := ZL.hdO) (M := 6000) (loose := ZL.loose) (d := HandSHeadRun.topDef (OpenLaw.row PySem.Challenge.rw_earthends_k01_fractions_reckoned).prog 55) (kwd := []) ZL.hdO_eq
    (by kernel_rfl) (fun s => by kernel_rfl) ZL.hdRun (by kernel_rfl) (by kernel_rfl) (by kernel_rfl) (by rfl) (by first | assumption | decide +kernel) (by decide +kernel) ⟨rfl, rfl, rfl, rfl, rfl, by decide +kernel⟩ ?hw ?hc
  case hw => w_witness2
  case hc =>
    refine L2.walk_ofE (l := PySem.Challenge.rw_earthends_k01_fractions_reckoned) (n := 63) (k := 53) (x := "_law_script") (CX := ZL.CXn) rfl (by decide) (by kernel_rfl) ⟨rfl, by decide, by decide⟩ ?F ?X
    case X => exact fun _ _ _ _ z => z
    intro w mg fa h Y G hmg0
    obtain ⟨K, KX, c⟩ := Y
    have hmg : mg ("law" : PySem.Str) = some (.ref fa) := by
      have e : (HandSHeadRun.topDef (OpenLaw.row PySem.Challenge.rw_earthends_k01_fractions_reckoned).prog 55).name = ("law" : PySem.Str) := by kernel_rfl
      rw [← e]
      exact hmg0
    obtain ⟨fd, sp, hb, hS, hF⟩ := ZL.facts (P := (PySem.Challenge.rw_earthends_k01_fractions_reckoned).prog) (w := w) (by rfl) KX G hmg c
    exact ⟨K, fd, sp, KX, hb, hS, hF⟩
