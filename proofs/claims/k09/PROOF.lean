import PyProof.Rows.All
import Wide.All
import OpenK.AllK
import Wide.FinOn
import KE.SortData
import HandS.ForMost
import HandS.Deep
import HandS.Wide
import HandS.TupAny
import HandS.TupMul
import HandS.IsInst
import HandS.Style
import HandS.More
import KE.DataCmp
import HandS.Iter
import HandS.NoneIn
import HandS.Text
import HandS.Comp
import KE.GoesEnum
import KE.GoesMore
import HandS.Strs
import HandS.Zip
import HandS.Defaults
import HandS.HeadEnd
import HandS.Head0
import HandS.Head1
import HandS.Head2
import HandS.HeadHook1
import HandS.HeadHook2
import PySem.Challenge.RW_storewrought_k09_how_many_rows
set_option Elab.async false
set_option linter.all false
set_option maxRecDepth 100000
/-! PL0: a small pure language (resolved syntax), its evaluator over plain data. -/
namespace PL
open PySem L2

abbrev D := PyData
abbrev KV := List (D × D)
/-- what a name of a def holds: nothing, data that never change, a list or dict of its own, the state's dict -/
inductive Cell where
  | no | fz (x : D) | own (x : D) | st
abbrev Env := List Cell
/-- the state: what the one changing dict holds -/
abbrev W := Option KV

inductive BOp where
  | add | sub | mul | fdiv | mod | pow
  deriving DecidableEq
inductive COp where
  | eq | ne | lt | le | gt | ge | isin | notin | is_ | isnot
  deriving DecidableEq
inductive Ty where
  | int | str | bool | tuple | list | dict
  deriving DecidableEq
inductive Blt where
  | isi (t : Ty) | len | abs | int | max1 | max2 | min2 | sorted | tuple | list | dict | sum | all | any | lenset | sortedset
  deriving DecidableEq

inductive Tg where
  | nm (i : Nat)
  | tup (ts : List Nat)

mutual
inductive RE where
  | non | bl (b : Bool) | int (i : Int) | str (s : Str)
  | v (i : Nat) | g (x : Str)
  | tup (es : REs) | lst (es : REs) | dct (ks : List Str) (es : REs)
  | bin (o : BOp) (a b : RE) | neg (a : RE)
  | cmp (o : COp) (a b : RE) | cmp2 (o p : COp) (a b c : RE)
  | and (a b : RE) | or (a b : RE) | not (a : RE) | ite (c a b : RE)
  | ix (a b : RE) | sl (a : RE) (lo hi : RO)
  | call (f : Str) (es : REs) | wcall (f : Str) (i : Nat) (es : REs)
  | blt (b : Blt) (es : REs)
  | split (a b : RE) | get (a k d : RE)
  | wix (i : Nat) (k : Str) | wget (i : Nat) (k : Str) (d : RE)
  | lc (own : List Nat) (elt : RE) (t : Tg) (it : RI) (c : RO)
inductive REs where
  | nil | cons (e : RE) (r : REs)
inductive RO where
  | no | yes (e : RE)
inductive RI where
  | seq (e : RE) | keys (i : Nat) | rng1 (e : RE) | rng2 (a b : RE) | enm (e : RE)
end

/-- the values of a, b = x, []: data, or a list or dict of its own -/
inductive RPs where
  | nil | fr (e : RE) (r : RPs) | nl (r : RPs) | nd (r : RPs)
mutual
inductive RS where
  | asg (t : Tg) (e : RE) | par (is : List Nat) (ps : RPs)
  | newl (i : Nat) | newd (i : Nat)
  | put (i : Nat) (k e : RE) | wput (i : Nat) (k : Str) (e : RE) | waug (i : Nat) (k : Str) (e : RE) | wnew (i : Nat) (ks : List Str) (es : REs)
  | aug (i : Nat) (o : BOp) (e : RE)
  | app (i : Nat) (e : RE) | ext (i : Nat) (e : RE)
  | ret (e : RE) | ite (c : RE) (a b : RSs)
  | for_ (t : Tg) (it : RI) (body : RSs) | whl (c : RE) (body : RSs)
  | frz (i : Nat)
inductive RSs where
  | nil | cons (s : RS) (r : RSs)
end

/-! ### data -/
def kOf : D → Option Key
  | .int i => some (.inl i)
  | .str s => some (.inr s)
  | _ => none
def kD : Key → D
  | .inl i => .int i
  | .inr s => .str s
def isK (k : Key) (x : D) : Bool := decide (kOf x = some k)
def dGet (ds : KV) (k : Key) : Option D := (ds.find? fun p => isK k p.1).map (·.2)
def dPut (ds : KV) (k : Key) (x : D) : KV :=
  if ds.any fun p => isK k p.1 then ds.map fun p => if isK k p.1 then (p.1, x) else p else ds ++ [(kD k, x)]
def pairs : List D → Option (List (Key × D))
  | [] => some []
  | .tuple [k, x] :: r => match kOf k, pairs r with
    | some k, some ps => some ((k, x) :: ps)
    | _, _ => none
  | _ :: _ => none
def dMerge (ds : KV) (ps : List (Key × D)) : KV := ps.foldl (fun acc p => dPut acc p.1 p.2) ds
def seqOf : D → Option (List D)
  | .list xs => some xs
  | .tuple xs => some xs
  | _ => none
def intsOf : List D → Option (List Int)
  | [] => some []
  | .int i :: r => (intsOf r).map (i :: ·)
  | _ :: _ => none
def boolsOf : List D → Option (List Bool)
  | [] => some []
  | .bool i :: r => (boolsOf r).map (i :: ·)
  | _ :: _ => none
def maxOf : List Int → Option Int
  | [] => none
  | i :: r => some (r.foldl (fun a b => if b > a then b else a) i)
def cut (xs : List D) (lo hi : Option Int) : List D := (xs.drop (HT.sIx xs.length 0 lo)).take (HT.sIx xs.length xs.length hi - HT.sIx xs.length 0 lo)

def isiD : Ty → D → Bool
  | .int, .int _ => true
  | .int, .bool _ => true
  | .bool, .bool _ => true
  | .str, .str _ => true
  | .tuple, .tuple _ => true
  | .list, .list _ => true
  | .dict, .dict _ => true
  | _, _ => false

mutual
/-- no dict within -/
def nd : D → Bool
  | .dict _ => false
  | .list xs => ndA xs
  | .tuple xs => ndA xs
  | _ => true
def ndA : List D → Bool
  | [] => true
  | x :: xs => nd x && ndA xs
end
/-- the list sorted: its items can be compared, place by place -/
def sortOk (xs : List D) : Bool :=
  (xs.all fun x => xs.all fun y => PySem.W.alike x y) &&
  ((xs.all fun x => match x with | .tuple (_ :: _) => true | _ => false) || xs.all fun x => match x with | .none => false | .tuple _ => false | _ => true) &&
  xs.all fun x => decide (x.depth ≤ 60) && nd x
def sortD (xs : List D) : List D := xs.mergeSort (PySem.W.dataLe false id)

def lineOk (n : Nat) : Bool := decide (n ≤ sizeLine)
def bigOk (i : Int) : Bool := decide (i.natAbs.log2 < 400000)
def binD : BOp → D → D → Option D
  | .add, .int i, .int j => some (.int (i + j))
  | .add, .str a, .str b => if lineOk (a.length + b.length) then some (.str (a ++ b)) else none
  | .add, .list xs, .list ys => if lineOk (xs.length + ys.length) then some (.list (xs ++ ys)) else none
  | .add, .tuple xs, .tuple ys => if lineOk (xs.length + ys.length) then some (.tuple (xs ++ ys)) else none
  | .sub, .int i, .int j => some (.int (i - j))
  | .mul, .int i, .int j => if bigOk i && bigOk j then some (.int (i * j)) else none
  | .fdiv, .int i, .int j => if decide (0 < j) && decide (j.natAbs.log2 < 9000) then some (.int (i / j)) else none
  | .mod, .int i, .int j => if decide (0 < j) then some (.int (i % j)) else none
  | .pow, .int i, .int j => if decide (0 ≤ j) && decide (j ≤ 1000) && decide (i.natAbs < 1000) then some (.int (i ^ j.toNat)) else none
  | _, _, _ => none

/-- the scalars that == tells apart -/
def scalD : D → D → Bool
  | .none, .none => true | .none, .int _ => true | .int _, .none => true | .none, .bool _ => true | .bool _, .none => true | .none, .str _ => true | .str _, .none => true
  | .int _, .int _ => true | .bool _, .bool _ => true | .str _, .str _ => true
  | .int _, .str _ => true | .str _, .int _ => true | .bool _, .str _ => true | .str _, .bool _ => true
  | _, _ => false
def flatD : D → Bool
  | .none => true
  | .bool _ => true
  | .int _ => true
  | .str _ => true
  | _ => false
def eqOk (x y : D) : Bool := scalD x y || PyData.canLay0 x && (PyData.canLay0 y && decide (min x.depth y.depth ≤ 64))
def ltOk (x y : D) : Bool := nd x && nd y && PySem.W.alike x y && !(match x with | .none => true | _ => false) && decide (x.depth ≤ 60)
def ltD : D → D → Option Bool
  | .int i, .int j => some (decide (i < j))
  | .str a, .str b => some (decide (a.cps.toList < b.cps.toList))
  | x, y => if ltOk x y then some (PySem.W.dataLt x y) else none
def gtD : D → D → Option Bool
  | .int i, .int j => some (decide (j < i))
  | x, y => if ltOk x y then some (PySem.W.dataLt y x) else none
def leD : D → D → Option Bool
  | .int i, .int j => some (decide (i ≤ j))
  | .str a, .str b => some (!decide (b.cps.toList < a.cps.toList))
  | _, _ => none
def geD : D → D → Option Bool
  | .int i, .int j => some (decide (j ≤ i))
  | _, _ => none
def inD (x : D) : D → Option Bool
  | .list ds => if flatD x && ds.all flatD || SeqAt.shaped x && SeqAt.shaped (.list ds) then some (ds.any fun z => PyData.eqv z x) else none
  | .tuple ds => if flatD x && ds.all flatD || SeqAt.shaped x && SeqAt.shaped (.tuple ds) then some (ds.any fun z => PyData.eqv z x) else none
  | .dict ds => match kOf x with
    | some k => some (dGet ds k).isSome
    | none => none
  | .str z => match x with
    | .str ⟨⟨[c]⟩⟩ => some (decide (c ∈ z.cps.toList))
    | _ => none
  | _ => none
def isNon : D → Bool
  | .none => true
  | _ => false
def isD (x : D) : D → Option Bool
  | .none => some (isNon x)
  | .bool b => match x with
    | .bool a => some (decide (a = b))
    | .none => some false
    | _ => none
  | _ => none
def cmpD : COp → D → D → Option Bool
  | .eq, x, y => if eqOk x y then some (PyData.eqv x y) else none
  | .ne, x, y => if eqOk x y then some (!PyData.eqv x y) else none
  | .lt, x, y => ltD x y
  | .le, x, y => leD x y
  | .gt, x, y => gtD x y
  | .ge, x, y => geD x y
  | .isin, x, y => inD x y
  | .notin, x, y => (inD x y).map (!·)
  | .is_, x, y => isD x y
  | .isnot, x, y => (isD x y).map (!·)

def ixD : D → D → Option D
  | .list xs, .int i => atI xs i
  | .tuple xs, .int i => atI xs i
  | .dict ds, k => match kOf k with
    | some k => dGet ds k
    | none => none
  | _, _ => none
def slD : D → Option Int → Option Int → Option D
  | .list xs, lo, hi => some (.list (cut xs lo hi))
  | .tuple xs, lo, hi => some (.tuple (cut xs lo hi))
  | _, _, _ => none
def firsts : List D → List D
  | [] => []
  | x :: r => x :: (firsts r).filter fun y => !PyData.eqv x y
def strsOf : KV → Option (List Str)
  | [] => some []
  | (.str x, _) :: r => (strsOf r).map (x :: ·)
  | _ :: _ => none
def sortedB : D → Option D
  | .list xs => if sortOk xs then some (.list (sortD xs)) else none
  | .dict ds => match strsOf ds with
    | some ks => if decide (ks.length < 64) then some (.list (sortD (ks.map .str))) else none
    | none => none
  | _ => none
/-- the values that len(set(..)) tells apart: None, ints, texts -/
def okOf : D → Option (Option Key)
  | .none => some none
  | .int i => some (some (.inl i))
  | .str s => some (some (.inr s))
  | _ => none
def okeys : List D → Option (List (Option Key))
  | [] => some []
  | x :: xs => match okOf x, okeys xs with
    | some k, some ks => some (k :: ks)
    | _, _ => none
def stepK (σ : List (Option Key)) (v : Option Key) : List (Option Key) := if σ.any (fun a => decide (a = v)) then σ else σ ++ [v]
def dedupK (ks : List (Option Key)) : List (Option Key) := ks.foldl stepK []
def lensetB : D → Option D
  | .list xs => if decide (xs.length ≤ 4000) then (okeys xs).map fun ks => .int (dedupK ks).length else none
  | _ => none
def sortedsetB : D → Option D
  | .list xs => some (.list (sortD (firsts xs)))
  | _ => none
def bltD : Blt → List D → Option D
  | .isi t, [x] => some (.bool (isiD t x))
  | .len, [.list xs] => some (.int xs.length)
  | .len, [.tuple xs] => some (.int xs.length)
  | .len, [.dict xs] => some (.int xs.length)
  | .abs, [.int i] => some (.int (if i < 0 then -i else i))
  | .int, [.int i] => some (.int i)
  | .int, [.bool b] => some (.int (if b then 1 else 0))
  | .max1, [.list xs] => ((intsOf xs).bind maxOf).map .int
  | .max2, [.int i, .int j] => some (.int (if j > i then j else i))
  | .min2, [.int i, .int j] => some (.int (if j < i then j else i))
  | .sorted, [x] => sortedB x
  | .tuple, [.list xs] => some (.tuple xs)
  | .tuple, [.tuple xs] => some (.tuple xs)
  | .list, [.list xs] => some (.list xs)
  | .list, [.tuple xs] => some (.list xs)
  | .dict, [.list xs] => (pairs xs).map fun ps => .dict (dMerge [] ps)
  | .dict, [.dict ds] => some (.dict ds)
  | .sum, [.list xs] => (intsOf xs).map fun ns => .int ns.sum
  | .all, [.list xs] => (boolsOf xs).map fun bs => .bool (bs.all id)
  | .any, [.list xs] => (boolsOf xs).map fun bs => .bool (bs.any id)
  | .lenset, [x] => lensetB x
  | .sortedset, [x] => sortedsetB x
  | _, _ => none

def rngD (lo : Int) : Nat → List D
  | 0 => []
  | n + 1 => .int lo :: rngD (lo + 1) n
def enmD (k : Int) : List D → List D
  | [] => []
  | x :: r => .tuple [.int k, x] :: enmD (k + 1) r

/-! ### names -/
def rdC : Option Cell → Option D
  | some (.fz x) => some x
  | some (.own x) => some x
  | _ => none
def fzC : Option Cell → Option D
  | some (.fz x) => some x
  | _ => none
def isSt : Option Cell → Bool
  | some .st => true
  | _ => false
def wipeE (ρ : Env) : List Nat → Env
  | [] => ρ
  | i :: is => (wipeE ρ is).set i .no
def setAll (ρ : Env) : List Nat → List D → Option Env
  | [], [] => some ρ
  | i :: is, x :: xs => setAll (ρ.set i (.fz x)) is xs
  | _, _ => none
def bindT : Tg → D → Env → Option Env
  | .nm i, x, ρ => some (ρ.set i (.fz x))
  | .tup is, .tuple xs, ρ => setAll ρ is xs
  | .tup is, .list xs, ρ => setAll ρ is xs
  | .tup _, _, _ => none

/-! ### the evaluator -/
abbrev Fn := Str → List D → W → Option (D × W)
def lcLoop (turn : D → W → Option (Option D × W)) : List D → W → Option (List D × W)
  | [], s => some ([], s)
  | x :: xs, s => match turn x s with
    | none => none
    | some (o, s1) => match lcLoop turn xs s1 with
      | none => none
      | some (ys, s2) => some (match o with | some y => y :: ys | none => ys, s2)

/-- a name read and not handed on: a list or dict of its own, too -/
def rdE (ρ : Env) (e : RE) (k : W → Option (D × W)) (s : W) : Option (D × W) := match e with
  | .v i => match rdC ρ[i]? with
    | some x => some (x, s)
    | none => none
  | _ => k s

section
variable (Φ : Fn) (G : Str → Option D)
mutual
def ev (ρ : Env) : RE → W → Option (D × W)
  | .non, s => some (.none, s)
  | .bl b, s => some (.bool b, s)
  | .int i, s => some (.int i, s)
  | .str x, s => some (.str x, s)
  | .v i, s => match fzC ρ[i]? with
    | some x => some (x, s)
    | none => none
  | .g x, s => match G x with
    | some d => some (d, s)
    | none => none
  | .tup es, s => match evs ρ es s with
    | some (xs, s1) => some (.tuple xs, s1)
    | none => none
  | .lst es, s => match evs ρ es s with
    | some (xs, s1) => some (.list xs, s1)
    | none => none
  | .dct ks es, s => match evs ρ es s with
    | some (xs, s1) => some (.dict (dMerge [] ((ks.map Sum.inr).zip xs)), s1)
    | none => none
  | .bin o a b, s => match rdE ρ a (ev ρ a) s with
    | some (x, s1) => match rdE ρ b (ev ρ b) s1 with
      | some (y, s2) => match binD o x y with
        | some z => some (z, s2)
        | none => none
      | none => none
    | none => none
  | .neg a, s => match ev ρ a s with
    | some (.int i, s1) => some (.int (-i), s1)
    | _ => none
  | .cmp o a b, s => match rdE ρ a (ev ρ a) s with
    | some (x, s1) => match rdE ρ b (ev ρ b) s1 with
      | some (y, s2) => match cmpD o x y with
        | some z => some (.bool z, s2)
        | none => none
      | none => none
    | none => none
  | .cmp2 o p a b c, s => match rdE ρ a (ev ρ a) s with
    | some (x, s1) => match rdE ρ b (ev ρ b) s1 with
      | some (y, s2) => match cmpD o x y with
        | some true => match rdE ρ c (ev ρ c) s2 with
          | some (z, s3) => match cmpD p y z with
            | some t => some (.bool t, s3)
            | none => none
          | none => none
        | some false => some (.bool false, s2)
        | none => none
      | none => none
    | none => none
  | .and a b, s => match ev ρ a s with
    | some (.bool true, s1) => ev ρ b s1
    | some (.bool false, s1) => some (.bool false, s1)
    | _ => none
  | .or a b, s => match ev ρ a s with
    | some (.bool true, s1) => some (.bool true, s1)
    | some (.bool false, s1) => ev ρ b s1
    | _ => none
  | .not a, s => match ev ρ a s with
    | some (.bool t, s1) => some (.bool (!t), s1)
    | _ => none
  | .ite c a b, s => match ev ρ c s with
    | some (.bool true, s1) => ev ρ a s1
    | some (.bool false, s1) => ev ρ b s1
    | _ => none
  | .ix a b, s => match rdE ρ a (ev ρ a) s with
    | some (x, s1) => match ev ρ b s1 with
      | some (y, s2) => match ixD x y with
        | some z => some (z, s2)
        | none => none
      | none => none
    | none => none
  | .sl a lo hi, s => match rdE ρ a (ev ρ a) s with
    | some (x, s1) => match evO ρ lo s1 with
      | some (l, s2) => match evO ρ hi s2 with
        | some (h, s3) => match slD x l h with
          | some z => some (z, s3)
          | none => none
        | none => none
      | none => none
    | none => none
  | .call f es, s => match evs ρ es s with
    | some (xs, s1) => Φ f xs s1
    | none => none
  | .wcall f i es, s => if isSt ρ[i]? then match evs ρ es s with
    | some (xs, s1) => Φ f xs s1
    | none => none
    else none
  | .blt b es, s => match evRs ρ es s with
    | some (xs, s1) => match bltD b xs with
      | some z => some (z, s1)
      | none => none
    | none => none
  | .split a b, s => match ev ρ a s with
    | some (.str x, s1) => match ev ρ b s1 with
      | some (.str y, s2) => if (y.length == 0) == false && lineOk (x.length + 2) then some (.list ((Txt.split x y).map .str), s2) else none
      | _ => none
    | _ => none
  | .get a k d, s => match rdE ρ a (ev ρ a) s with
    | some (.dict ds, s1) => match ev ρ k s1 with
      | some (y, s2) => match ev ρ d s2 with
        | some (z, s3) => match kOf y with
          | some k => some ((dGet ds k).getD z, s3)
          | none => none
        | none => none
      | none => none
    | _ => none
  | .wix i k, s => if isSt ρ[i]? then match s with
    | some ds => match dGet ds (.inr k) with
      | some x => some (x, s)
      | none => none
    | none => none
    else none
  | .wget i k d, s => if isSt ρ[i]? then match ev ρ d s with
    | some (z, some ds) => some ((dGet ds (.inr k)).getD z, some ds)
    | _ => none
    else none
  | .lc own elt t it c, s => match evI ρ it s with
    | some (xs, s1) => match lcLoop (fun x s => match bindT t x (wipeE ρ own) with
        | none => none
        | some ρ1 => match evC ρ1 c s with
          | some (true, s2) => match ev ρ1 elt s2 with
            | some (y, s3) => some (some y, s3)
            | none => none
          | some (false, s2) => some (none, s2)
          | none => none) xs s1 with
      | some (ys, s2) => some (.list ys, s2)
      | none => none
    | none => none
def evs (ρ : Env) : REs → W → Option (List D × W)
  | .nil, s => some ([], s)
  | .cons e r, s => match ev ρ e s with
    | some (x, s1) => match evs ρ r s1 with
      | some (xs, s2) => some (x :: xs, s2)
      | none => none
    | none => none
def evRs (ρ : Env) : REs → W → Option (List D × W)
  | .nil, s => some ([], s)
  | .cons e r, s => match rdE ρ e (ev ρ e) s with
    | some (x, s1) => match evRs ρ r s1 with
      | some (xs, s2) => some (x :: xs, s2)
      | none => none
    | none => none
def evO (ρ : Env) : RO → W → Option (Option Int × W)
  | .no, s => some (none, s)
  | .yes e, s => match ev ρ e s with
    | some (.int i, s1) => some (some i, s1)
    | _ => none
def evC (ρ : Env) : RO → W → Option (Bool × W)
  | .no, s => some (true, s)
  | .yes e, s => match ev ρ e s with
    | some (.bool i, s1) => some (i, s1)
    | _ => none
def evI (ρ : Env) : RI → W → Option (List D × W)
  | .seq e, s => match ev ρ e s with
    | some (x, s1) => match seqOf x with
      | some xs => some (xs, s1)
      | none => none
    | none => none
  | .keys i, s => match fzC ρ[i]? with
    | some (.dict ds) => some (ds.map (·.1), s)
    | _ => none
  | .rng1 e, s => match ev ρ e s with
    | some (.int j, s1) => if decide (j ≤ 16777216) && decide (-16777216 ≤ j) then some (rngD 0 j.toNat, s1) else none
    | _ => none
  | .rng2 a b, s => match ev ρ a s with
    | some (.int i, s1) => match ev ρ b s1 with
      | some (.int j, s2) => if decide (-16777216 ≤ i) && decide (j ≤ 16777216) && decide (i ≤ 16777216) && decide (-16777216 ≤ j) && decide (j - i ≤ 16777216) then some (rngD i (j - i).toNat, s2) else none
      | _ => none
    | _ => none
  | .enm e, s => match ev ρ e s with
    | some (x, s1) => match seqOf x with
      | some xs => some (enmD 0 xs, s1)
      | none => none
    | none => none
end

def evP (ρ : Env) : RPs → W → Option (List Cell × W)
  | .nil, s => some ([], s)
  | .fr e r, s => match ev Φ G ρ e s with
    | some (x, s1) => match evP ρ r s1 with
      | some (cs, s2) => some (.fz x :: cs, s2)
      | none => none
    | none => none
  | .nl r, s => match evP ρ r s with
    | some (cs, s2) => some (.own (.list []) :: cs, s2)
    | none => none
  | .nd r, s => match evP ρ r s with
    | some (cs, s2) => some (.own (.dict []) :: cs, s2)
    | none => none
def setCs (ρ : Env) : List Nat → List Cell → Option Env
  | [], [] => some ρ
  | i :: is, c :: cs => setCs (ρ.set i c) is cs
  | _, _ => none
inductive Fl where
  | nx (ρ : Env) | rt (x : D)
def frz (i : Nat) (ρ : Env) : Env := match ρ[i]? with
  | some (.own x) => ρ.set i (.fz x)
  | _ => ρ
def forLoop (turn : D → Env → W → Option (Fl × W)) : List D → Env → W → Option (Fl × W)
  | [], ρ, s => some (.nx ρ, s)
  | x :: xs, ρ, s => match turn x ρ s with
    | some (.nx ρ1, s1) => forLoop turn xs ρ1 s1
    | some (.rt y, s1) => some (.rt y, s1)
    | none => none
def whLoop (cond : Env → W → Option (Bool × W)) (turn : Env → W → Option (Fl × W)) : Nat → Env → W → Option (Fl × W)
  | 0, _, _ => none
  | n + 1, ρ, s => match cond ρ s with
    | some (true, s1) => match turn ρ s1 with
      | some (.nx ρ1, s2) => whLoop cond turn n ρ1 s2
      | some (.rt y, s2) => some (.rt y, s2)
      | none => none
    | some (false, s1) => some (.nx ρ, s1)
    | none => none

variable (g : Nat)
mutual
def evS : RS → Env → W → Option (Fl × W)
  | .asg t e, ρ, s => match ev Φ G ρ e s with
    | some (x, s1) => match bindT t x ρ with
      | some ρ1 => some (.nx ρ1, s1)
      | none => none
    | none => none
  | .par is ps, ρ, s => match evP Φ G ρ ps s with
    | some (cs, s1) => match setCs ρ is cs with
      | some ρ1 => some (.nx ρ1, s1)
      | none => none
    | none => none
  | .newl i, ρ, s => some (.nx (ρ.set i (.own (.list []))), s)
  | .newd i, ρ, s => some (.nx (ρ.set i (.own (.dict []))), s)
  | .put i k e, ρ, s => match ev Φ G ρ e s with
    | some (x, s1) => match ev Φ G ρ k s1 with
      | some (y, s2) => match ρ[i]?, kOf y with
        | some (.own (.dict ds)), some k => if lineOk (ds.length + 1) then some (.nx (ρ.set i (.own (.dict (dPut ds k x)))), s2) else none
        | _, _ => none
      | none => none
    | none => none
  | .wput i k e, ρ, s => match ev Φ G ρ e s with
    | some (x, some ds) => if isSt ρ[i]? && lineOk (ds.length + 1) then some (.nx ρ, some (dPut ds (.inr k) x)) else none
    | _ => none
  | .waug i k e, ρ, s => match s with
    | some ds => match dGet ds (.inr k) with
      | some (.int a) => match ev Φ G ρ e s with
        | some (.int b, some ds1) => if isSt ρ[i]? && lineOk (ds1.length + 1) then some (.nx ρ, some (dPut ds1 (.inr k) (.int (a + b)))) else none
        | _ => none
      | _ => none
    | none => none
  | .wnew i ks es, ρ, s => match s with
    | none => match evs Φ G ρ es none with
      | some (xs, none) => some (.nx (ρ.set i .st), some (dMerge [] ((ks.map Sum.inr).zip xs)))
      | _ => none
    | some _ => none
  | .aug i o e, ρ, s => match fzC ρ[i]? with
    | some x => match ev Φ G ρ e s with
      | some (y, s1) => match o, x, y with
        | .add, .int a, .int b => some (.nx (ρ.set i (.fz (.int (a + b)))), s1)
        | .sub, .int a, .int b => some (.nx (ρ.set i (.fz (.int (a - b)))), s1)
        | _, _, _ => none
      | none => none
    | none => none
  | .app i e, ρ, s => match ev Φ G ρ e s with
    | some (x, s1) => match ρ[i]? with
      | some (.own (.list xs)) => if lineOk (xs.length + 1) then some (.nx (ρ.set i (.own (.list (xs ++ [x])))), s1) else none
      | _ => none
    | none => none
  | .ext i e, ρ, s => match ev Φ G ρ e s with
    | some (.list ys, s1) => match ρ[i]? with
      | some (.own (.list xs)) => if lineOk (xs.length + ys.length) then some (.nx (ρ.set i (.own (.list (xs ++ ys)))), s1) else none
      | _ => none
    | _ => none
  | .ret e, ρ, s => match ev Φ G ρ e s with
    | some (x, s1) => some (.rt x, s1)
    | none => none
  | .ite c a b, ρ, s => match ev Φ G ρ c s with
    | some (.bool true, s1) => evSs a ρ s1
    | some (.bool false, s1) => evSs b ρ s1
    | _ => none
  | .for_ t it body, ρ, s => match evI Φ G ρ it s with
    | some (xs, s1) => forLoop (fun x ρ s => match bindT t x ρ with
      | some ρ1 => evSs body ρ1 s
      | none => none) xs ρ s1
    | none => none
  | .whl c body, ρ, s => whLoop (fun ρ s => match ev Φ G ρ c s with
      | some (.bool t, s1) => some (t, s1)
      | _ => none) (fun ρ s => evSs body ρ s) g ρ s
  | .frz i, ρ, s => some (.nx (frz i ρ), s)
def evSs : RSs → Env → W → Option (Fl × W)
  | .nil, ρ, s => some (.nx ρ, s)
  | .cons a r, ρ, s => match evS a ρ s with
    | some (.nx ρ1, s1) => evSs r ρ1 s1
    | some (.rt x, s1) => some (.rt x, s1)
    | none => none
end
end

/-- a def: whether its first parameter is the state, its other parameters, its slots, its body -/
structure FD where
  usesW : Bool
  np : Nat
  n : Nat
  body : RSs
def FD.start (fd : FD) (xs : List D) : Env := (if fd.usesW then [.st] else []) ++ xs.map .fz ++ List.replicate (fd.n - (if fd.usesW then 1 else 0) - xs.length) .no
abbrev Tab := Str → Option FD
def interp (T : Tab) (G : Str → Option D) (g : Nat) : Nat → Fn
  | 0, _, _, _ => none
  | n + 1, f, xs, s => match T f with
    | none => none
    | some fd => if decide (xs.length = fd.np) && (!fd.usesW || s.isSome) then match evSs (interp T G g n) G g fd.body (fd.start xs) s with
        | some (.rt x, s1) => some (x, s1)
        | some (.nx _, s1) => some (.none, s1)
        | none => none
      else none
end PL

set_option Elab.async false
set_option linter.all false
set_option maxRecDepth 100000
set_option maxHeartbeats 1000000
set_option autoImplicit false
/-! PL1: how plain data stand in the layer's heap; what an expression may change. -/
namespace PL
open PySem L2 PySem.Spec PyProof.Rows

def Le (R R' : Hp) : Prop := ∀ a u, R a = some u → R' a = some u
theorem Le.refl (R : Hp) : Le R R := fun _ _ h => h
theorem Le.trans {R R1 R2 : Hp} (a : Le R R1) (b : Le R1 R2) : Le R R2 := fun c u h => b c u (a c u h)
def Sub (R H : Hp) : Prop := ∀ a u, R a = some u → Rd H a u

abbrev H0 : Hp := fun _ => none
def LiR (K : PySem.W.Frag) (R : Hp) (a : Addr) (vs : List V) : Prop := R a = some (.lst vs) ∨ SqL K H0 a vs
def TuR (K : PySem.W.Frag) (R : Hp) (a : Addr) (vs : List V) : Prop := R a = some (.tup vs) ∨ SqT K H0 a vs
theorem LiR.mono {K : PySem.W.Frag} {R R' : Hp} {a : Addr} {vs : List V} (l : Le R R') (h : LiR K R a vs) : LiR K R' a vs := h.imp (l _ _) id
theorem TuR.mono {K : PySem.W.Frag} {R R' : Hp} {a : Addr} {vs : List V} (l : Le R R') (h : TuR K R a vs) : TuR K R' a vs := h.imp (l _ _) id
theorem rd0 {a : Addr} {u : HO} (h : Rd H0 a u) : False := by
  rcases h with h | ⟨o, h⟩
  · cases h
  · cases h
theorem LiR.sq {K : PySem.W.Frag} {R H : Hp} {a : Addr} {vs : List V} (s : Sub R H) (h : LiR K R a vs) : SqL K H a vs := by
  rcases h with h | h | h
  · exact .inl (s _ _ h)
  · exact (rd0 h).elim
  · exact .inr h
theorem TuR.sq {K : PySem.W.Frag} {R H : Hp} {a : Addr} {vs : List V} (s : Sub R H) (h : TuR K R a vs) : SqT K H a vs := by
  rcases h with h | h | h
  · exact .inl (s _ _ h)
  · exact (rd0 h).elim
  · exact .inr h

mutual
/-- a value stands for a datum; all that it reaches is never written (R) -/
inductive Rp (K : PySem.W.Frag) (R : Hp) : D → V → Prop
  | non : Rp K R .none .non
  | bl (b : Bool) : Rp K R (.bool b) (.bl b)
  | int (i : Int) : Rp K R (.int i) (.int i)
  | str (x : Str) : Rp K R (.str x) (.str x)
  | lst {a : Addr} {vs : List V} {xs : List D} : LiR K R a vs → RpA K R xs vs → Rp K R (.list xs) (.ref a)
  | tup {a : Addr} {vs : List V} {xs : List D} : TuR K R a vs → RpA K R xs vs → Rp K R (.tuple xs) (.ref a)
  | dct {a : Addr} {kvs : List (Key × V)} {ds : KV} : R a = some (.dK kvs) → RpK K R ds kvs → Rp K R (.dict ds) (.ref a)
inductive RpA (K : PySem.W.Frag) (R : Hp) : List D → List V → Prop
  | nil : RpA K R [] []
  | cons {x : D} {v : V} {xs : List D} {vs : List V} : Rp K R x v → RpA K R xs vs → RpA K R (x :: xs) (v :: vs)
inductive RpK (K : PySem.W.Frag) (R : Hp) : KV → List (Key × V) → Prop
  | nil : RpK K R [] []
  | cons {k : Key} {x : D} {v : V} {ds : KV} {kvs : List (Key × V)} : Rp K R x v → RpK K R ds kvs → RpK K R ((kD k, x) :: ds) ((k, v) :: kvs)
end
section
variable {K : PySem.W.Frag} {R R' : Hp}
theorem Rp.mono (l : Le R R') {x : D} {v : V} (h : Rp K R x v) : Rp K R' x v :=
  Rp.rec (motive_1 := fun x v _ => Rp K R' x v) (motive_2 := fun xs vs _ => RpA K R' xs vs) (motive_3 := fun ds kvs _ => RpK K R' ds kvs)
    .non .bl .int .str (fun h1 _ h2 => .lst (h1.mono l) h2) (fun h1 _ h2 => .tup (h1.mono l) h2) (fun h1 _ h2 => .dct (l _ _ h1) h2)
    .nil (fun _ _ h1 h2 => .cons h1 h2) .nil (fun _ _ h1 h2 => .cons h1 h2) h
theorem RpA.mono (l : Le R R') : ∀ {xs : List D} {vs : List V}, RpA K R xs vs → RpA K R' xs vs
  | _, _, .nil => .nil
  | _, _, .cons h t => .cons (h.mono l) (RpA.mono l t)
theorem RpK.mono (l : Le R R') : ∀ {ds : KV} {kvs : List (Key × V)}, RpK K R ds kvs → RpK K R' ds kvs
  | _, _, .nil => .nil
  | _, _, .cons h t => .cons (h.mono l) (RpK.mono l t)
theorem RpA.length : ∀ {xs : List D} {vs : List V}, RpA K R xs vs → xs.length = vs.length
  | _, _, .nil => rfl
  | _, _, .cons _ t => by rw [List.length_cons, List.length_cons, RpA.length t]
theorem RpK.length : ∀ {ds : KV} {kvs : List (Key × V)}, RpK K R ds kvs → ds.length = kvs.length
  | _, _, .nil => rfl
  | _, _, .cons _ t => by rw [List.length_cons, List.length_cons, RpK.length t]
theorem RpA.append : ∀ {xs ys : List D} {vs ws : List V}, RpA K R xs vs → RpA K R ys ws → RpA K R (xs ++ ys) (vs ++ ws)
  | _, _, _, _, .nil, q => q
  | _, _, _, _, .cons h t, q => .cons h (RpA.append t q)
theorem RpA.drop : ∀ {xs : List D} {vs : List V} (n : Nat), RpA K R xs vs → RpA K R (xs.drop n) (vs.drop n)
  | _, _, 0, h => h
  | _, _, _ + 1, .nil => .nil
  | _, _, n + 1, .cons _ t => RpA.drop n t
theorem RpA.take : ∀ {xs : List D} {vs : List V} (n : Nat), RpA K R xs vs → RpA K R (xs.take n) (vs.take n)
  | _, _, 0, _ => .nil
  | _, _, _ + 1, .nil => .nil
  | _, _, n + 1, .cons h t => .cons h (RpA.take n t)
theorem RpA.get : ∀ {xs : List D} {vs : List V} {i : Nat} {x : D}, RpA K R xs vs → xs[i]? = some x → ∃ v, vs[i]? = some v ∧ Rp K R x v
  | _, _, _, _, .nil, e => by simp at e
  | _, _, 0, _, .cons r _, e => by simp at e; subst e; exact ⟨_, rfl, r⟩
  | _, _, i + 1, x, .cons _ t, e => by
    obtain ⟨u, h1, h2⟩ := RpA.get (i := i) (x := x) t (by simpa using e)
    exact ⟨u, by simpa using h1, h2⟩
theorem RpA.get' : ∀ {xs : List D} {vs : List V} {i : Nat} {v : V}, RpA K R xs vs → vs[i]? = some v → ∃ x, xs[i]? = some x ∧ Rp K R x v
  | _, _, _, _, .nil, e => by simp at e
  | _, _, 0, _, .cons r _, e => by simp at e; subst e; exact ⟨_, rfl, r⟩
  | _, _, i + 1, x, .cons _ t, e => by
    obtain ⟨u, h1, h2⟩ := RpA.get' (i := i) (v := x) t (by simpa using e)
    exact ⟨u, by simpa using h1, h2⟩
theorem RpA.atI {xs : List D} {vs : List V} {i : Int} {x : D} (r : RpA K R xs vs) (h : atI xs i = some x) : ∃ v, L2.atI vs i = some v ∧ Rp K R x v := by
  unfold L2.atI at h ⊢
  rw [r.length] at h
  cases e : ixN vs.length i with
  | none => rw [e] at h; cases h
  | some j =>
    rw [e] at h
    exact r.get h
theorem RpA.cut {xs : List D} {vs : List V} (r : RpA K R xs vs) (lo hi : Option Int) : RpA K R (cut xs lo hi) (cutV vs lo hi) := by
  unfold PL.cut cutV
  rw [r.length]
  exact (r.drop _).take _
theorem kOf_kD (k : Key) : kOf (kD k) = some k := by cases k <;> rfl
theorem isK_kD (k j : Key) : isK k (kD j) = decide (j = k) := by
  unfold isK
  rw [kOf_kD]
  by_cases h : j = k
  · subst h; simp
  · simp [h]
theorem kOf_some {x : D} {k : Key} (h : kOf x = some k) : x = kD k := by
  cases x <;> simp [kOf] at h <;> subst h <;> rfl
theorem rp_key {k : Key} {v : V} (h : Rp K R (kD k) v) : v = kV k := by
  cases k <;> (cases h; rfl)
theorem rp_kD (k : Key) : Rp K R (kD k) (kV k) := by
  cases k
  · exact .int _
  · exact .str _
theorem RpK.get : ∀ {ds : KV} {kvs : List (Key × V)} (k : Key), RpK K R ds kvs →
    (dGet ds k = none ∧ valV kvs k = none) ∨ ∃ x v, dGet ds k = some x ∧ valV kvs k = some v ∧ Rp K R x v
  | _, _, k, .nil => .inl ⟨rfl, rfl⟩
  | _, _, k, .cons (k := j) (x := x) (v := v) (ds := ds) (kvs := kvs) h t => by
    by_cases e : j = k
    · refine .inr ⟨x, v, ?_, valV_pos e, h⟩
      unfold dGet
      rw [List.find?_cons]
      simp only [isK_kD, e, decide_true]
      rfl
    · have e1 : dGet ((kD j, x) :: ds) k = dGet ds k := by
        unfold dGet
        rw [List.find?_cons]
        simp only [isK_kD, e, decide_false]
      rw [e1, valV_neg (p := (j, v)) e]
      exact RpK.get k t
theorem RpK.any : ∀ {ds : KV} {kvs : List (Key × V)} (k : Key), RpK K R ds kvs → (ds.any fun p => isK k p.1) = (kvs.any fun p => decide (p.1 = k))
  | _, _, _, .nil => rfl
  | _, _, k, .cons _ t => by rw [List.any_cons, List.any_cons, RpK.any k t, isK_kD]
theorem RpK.repl {x : D} {v : V} (rx : Rp K R x v) (k : Key) : ∀ {ds : KV} {kvs : List (Key × V)}, RpK K R ds kvs →
    RpK K R (ds.map fun p => if isK k p.1 then (p.1, x) else p) (kvs.map fun p => if p.1 = k then (p.1, v) else p)
  | _, _, .nil => .nil
  | _, _, .cons (k := j) h t => by
    rw [List.map_cons, List.map_cons]
    simp only [isK_kD]
    by_cases e : j = k
    · simp only [e, decide_true, if_true]
      exact .cons rx (RpK.repl rx k t)
    · simp only [e, decide_false, if_false, Bool.false_eq_true]
      exact .cons h (RpK.repl rx k t)
theorem RpK.snoc {x : D} {v : V} (rx : Rp K R x v) (k : Key) : ∀ {ds : KV} {kvs : List (Key × V)}, RpK K R ds kvs → RpK K R (ds ++ [(kD k, x)]) (kvs ++ [(k, v)])
  | _, _, .nil => .cons rx .nil
  | _, _, .cons h t => .cons h (RpK.snoc rx k t)
theorem RpK.put {x : D} {v : V} (rx : Rp K R x v) (k : Key) {ds : KV} {kvs : List (Key × V)} (r : RpK K R ds kvs) : RpK K R (dPut ds k x) (putK kvs k v) := by
  unfold dPut putK
  rw [r.any k]
  split
  · exact r.repl rx k
  · exact r.snoc rx k
/-- pairs -/
inductive RpP (K : PySem.W.Frag) (R : Hp) : List (Key × D) → List (Key × V) → Prop
  | nil : RpP K R [] []
  | cons {k : Key} {x : D} {v : V} {ds : List (Key × D)} {kvs : List (Key × V)} : Rp K R x v → RpP K R ds kvs → RpP K R ((k, x) :: ds) ((k, v) :: kvs)
theorem RpP.merge {ps : List (Key × D)} {qs : List (Key × V)} (h : RpP K R ps qs) : ∀ {ds : KV} {kvs : List (Key × V)}, RpK K R ds kvs → RpK K R (dMerge ds ps) (mergeK kvs qs) := by
  induction h with
  | nil => intro ds kvs r; exact r
  | @cons k x v ds' kvs' h t ih => intro ds kvs r; exact ih (r.put h k)
theorem RpP.length : ∀ {ps : List (Key × D)} {qs : List (Key × V)}, RpP K R ps qs → ps.length = qs.length
  | _, _, .nil => rfl
  | _, _, .cons _ t => by rw [List.length_cons, List.length_cons, RpP.length t]
theorem RpP.zip : ∀ (ks : List Key) {xs : List D} {vs : List V}, RpA K R xs vs → RpP K R (ks.zip xs) (ks.zip vs)
  | [], _, _, _ => .nil
  | _ :: _, _, _, .nil => .nil
  | _ :: ks, _, _, .cons h t => .cons h (RpP.zip ks t)

/-- read as the layer's own data -/
theorem Rp.dp_aux {H : Hp} (s : Sub R H) {x : D} {v : V} (h : Rp K R x v) : nd x = true → Dp K H v x :=
  Rp.rec (motive_1 := fun x v _ => nd x = true → Dp K H v x) (motive_2 := fun xs vs _ => ndA xs = true → DpAll K H vs xs) (motive_3 := fun _ _ _ => True)
    (fun _ => .non) (fun b _ => .bl b) (fun b _ => .int b) (fun b _ => .str b) (fun h1 _ h2 c => .lst (h1.sq s) (h2 (by simpa [nd] using c))) (fun h1 _ h2 c => .tup (h1.sq s) (h2 (by simpa [nd] using c)))
    (fun _ _ _ c => by simp [nd] at c)
    (fun _ => .nil) (fun _ _ h1 h2 c => by
      rw [ndA, Bool.and_eq_true] at c
      exact .cons (h1 c.1) (h2 c.2)) True.intro (fun _ _ _ _ => True.intro) h
mutual
theorem nd_of_lay : ∀ x : D, PyData.canLay0 x = true → nd x = true
  | .none, _ => by simp [nd]
  | .bool _, _ => by simp [nd]
  | .int _, _ => by simp [nd]
  | .str _, _ => by simp [nd]
  | .list xs, h => by simp only [nd]; exact ndA_of_lay xs (by simpa [PyData.canLay0] using h)
  | .tuple xs, h => by simp only [nd]; exact ndA_of_lay xs (by simpa [PyData.canLay0] using h)
  | .dict _, h => by simp [PyData.canLay0] at h
theorem ndA_of_lay : ∀ xs : List D, PyData.canLayAll0 xs = true → ndA xs = true
  | [], _ => by simp [ndA]
  | x :: xs, h => by
    rw [PyData.canLayAll0, Bool.and_eq_true] at h
    rw [ndA, nd_of_lay x h.1, ndA_of_lay xs h.2]; rfl
end
theorem nd_shaped {x : D} (h : SeqAt.shaped x = true) : nd x = true := nd_of_lay x (SeqAt.canLay_of_shaped h)
end

/-- a value read and not handed on -/
inductive Rr (K : PySem.W.Frag) (wa : Option Addr) (R H : Hp) : D → V → Prop
  | rp {x : D} {v : V} : Rp K R x v → Rr K wa R H x v
  | lst {a : Addr} {vs : List V} {xs : List D} : wa ≠ some a → H a = some (.lst vs) → RpA K R xs vs → Rr K wa R H (.list xs) (.ref a)
  | dct {a : Addr} {kvs : List (Key × V)} {ds : KV} : wa ≠ some a → H a = some (.dK kvs) → RpK K R ds kvs → Rr K wa R H (.dict ds) (.ref a)
section
variable {K : PySem.W.Frag} {R H : Hp} {wa : Option Addr}
theorem Rr.list {v : V} {xs : List D} (s : Sub R H) (h : Rr K wa R H (.list xs) v) : ∃ a vs, v = .ref a ∧ SqL K H a vs ∧ RpA K R xs vs := by
  cases h with
  | rp h => cases h with
    | lst h1 h2 => exact ⟨_, _, rfl, h1.sq s, h2⟩
  | lst _ h1 h2 => exact ⟨_, _, rfl, .inl (.inl h1), h2⟩
theorem Rr.tuple {v : V} {xs : List D} (s : Sub R H) (h : Rr K wa R H (.tuple xs) v) : ∃ a vs, v = .ref a ∧ SqT K H a vs ∧ RpA K R xs vs := by
  cases h with
  | rp h => cases h with
    | tup h1 h2 => exact ⟨_, _, rfl, h1.sq s, h2⟩
theorem Rr.tupleR {v : V} {xs : List D} (h : Rr K wa R H (.tuple xs) v) : Rp K R (.tuple xs) v := by
  cases h with
  | rp h => exact h
theorem Rr.dict {v : V} {ds : KV} (s : Sub R H) (h : Rr K wa R H (.dict ds) v) : ∃ a kvs, v = .ref a ∧ Rd H a (.dK kvs) ∧ RpK K R ds kvs := by
  cases h with
  | rp h => cases h with
    | dct h1 h2 => exact ⟨_, _, rfl, s _ _ h1, h2⟩
  | dct _ h1 h2 => exact ⟨_, _, rfl, .inl h1, h2⟩
theorem Rr.non {v : V} (h : Rr K wa R H .none v) : v = .non := by cases h with | rp h => cases h; rfl
theorem Rr.bl {v : V} {b : Bool} (h : Rr K wa R H (.bool b) v) : v = .bl b := by cases h with | rp h => cases h; rfl
theorem Rr.int {v : V} {b : Int} (h : Rr K wa R H (.int b) v) : v = .int b := by cases h with | rp h => cases h; rfl
theorem Rr.str {v : V} {b : Str} (h : Rr K wa R H (.str b) v) : v = .str b := by cases h with | rp h => cases h; rfl
theorem RpA.dps (s : Sub R H) : ∀ {xs : List D} {vs : List V}, RpA K R xs vs → ndA xs = true → DpAll K H vs xs
  | _, _, .nil, _ => .nil
  | _, _, .cons h t, c => by
    rw [ndA, Bool.and_eq_true] at c
    exact .cons (h.dp_aux s c.1) (RpA.dps s t c.2)
theorem Rr.dp {x : D} {v : V} (s : Sub R H) (h : Rr K wa R H x v) (c : nd x = true) : Dp K H v x := by
  cases h with
  | rp h => exact h.dp_aux s c
  | lst _ h1 h2 => exact .lst (.inl (.inl h1)) (h2.dps s (by simpa [nd] using c))
  | dct _ h1 h2 => simp [nd] at c
end

/-! ### what may change -/
structure Ex (wa : Option Addr) (H R H' R' : Hp) : Prop where
  le : Le R R'
  sub : Sub R' H'
  keep : ∀ b o, H b = some o → wa ≠ some b → H' b = some o
  new : ∀ a u, R' a = some u → R a = some u ∨ H a = none
  st : ∀ p, wa = some p → R' p = none
/-- the state's dict -/
def Ws (K : PySem.W.Frag) (R H : Hp) : Option Addr → W → Prop
  | none, none => True
  | some a, some ds => R a = none ∧ ∃ kvs, H a = some (.dK kvs) ∧ RpK K R ds kvs
  | _, _ => False
theorem Ws.st {K : PySem.W.Frag} {R H : Hp} {wa : Option Addr} {s : W} (h : Ws K R H wa s) : ∀ p, wa = some p → R p = none := by
  intro p e
  subst e
  cases s with
  | none => exact h.elim
  | some ds => exact h.1
section
variable {K : PySem.W.Frag} {wa : Option Addr} {H R H1 R1 H2 R2 : Hp} {s : W}
theorem Ex.refl (h : Sub R H) (w : Ws K R H wa s) : Ex wa H R H R := ⟨Le.refl _, h, fun _ _ h _ => h, fun _ _ h => .inl h, w.st⟩
theorem Ex.trans (a : Ex wa H R H1 R1) (b : Ex wa H1 R1 H2 R2) : Ex wa H R H2 R2 := by
  refine ⟨a.le.trans b.le, b.sub, fun c o h n => b.keep c o (a.keep c o h n) n, fun c u h => ?_, b.st⟩
  rcases b.new c u h with q | q
  · exact a.new c u q
  · cases e : H c with
    | none => exact .inr rfl
    | some o =>
      by_cases n : wa = some c
      · rw [b.st c n] at h; cases h
      · rw [a.keep c o e n] at q; cases q
/-- new objects alone: everything stands -/
structure Nw (H R H' R' : Hp) : Prop where
  le : Le R R'
  sub : Sub R' H'
  keep : ∀ b o, H b = some o → H' b = some o
  new : ∀ a u, R' a = some u → R a = some u ∨ H a = none
theorem Nw.refl (h : Sub R H) : Nw H R H R := ⟨Le.refl _, h, fun _ _ h => h, fun _ _ h => .inl h⟩
theorem Nw.trans (a : Nw H R H1 R1) (b : Nw H1 R1 H2 R2) : Nw H R H2 R2 := by
  refine ⟨a.le.trans b.le, b.sub, fun c o h => b.keep c o (a.keep c o h), fun c u h => ?_⟩
  rcases b.new c u h with q | q
  · exact a.new c u q
  · cases e : H c with
    | none => exact .inr rfl
    | some o => rw [a.keep c o e] at q; cases q
theorem sub_le_upd {p : Addr} {o : HO} (h : Sub R H) (n : H p = none) : R p = none := by
  cases e : R p with
  | none => rfl
  | some u =>
    rcases h p u e with q | ⟨_, q⟩
    · rw [n] at q; cases q
    · rw [n] at q; cases q
/-- one new object, never written -/
theorem Nw.one {p : Addr} {o : HO} (h : Sub R H) (n : H p = none) : Nw H R (upd H p o) (upd R p o) := by
  have rn := sub_le_upd (o := o) h n
  refine ⟨fun a u e => ?_, fun a u e => ?_, fun b u e => ?_, fun a u e => ?_⟩
  · rw [upd_ne (fun z => by subst z; rw [rn] at e; cases e)]; exact e
  · by_cases q : a = p
    · subst q; rw [upd_same] at e; cases e; exact .inl upd_same
    · rw [upd_ne q] at e
      rcases h a u e with z | ⟨o', z⟩
      · exact .inl (by rw [upd_ne q]; exact z)
      · exact .inr ⟨o', by rw [upd_ne q]; exact z⟩
  · rw [upd_ne (ne_of_none e n)]; exact e
  · by_cases q : a = p
    · subst q; exact .inr n
    · rw [upd_ne q] at e; exact .inl e
/-- one new object that may be written -/
theorem Nw.mut {p : Addr} {o : HO} (h : Sub R H) (n : H p = none) : Nw H R (upd H p o) R := by
  have rn := sub_le_upd (o := o) h n
  refine ⟨Le.refl _, fun a u e => ?_, fun b u e => ?_, fun a u e => .inl e⟩
  · have q : a ≠ p := fun z => by subst z; rw [rn] at e; cases e
    rcases h a u e with z | ⟨o', z⟩
    · exact .inl (by rw [upd_ne q]; exact z)
    · exact .inr ⟨o', by rw [upd_ne q]; exact z⟩
  · rw [upd_ne (ne_of_none e n)]; exact e
theorem Ws.nw (w : Ws K R H wa s) (a : Nw H R H1 R1) : Ws K R1 H1 wa s := by
  cases wa with
  | none => cases s with
    | none => exact w
    | some _ => exact w
  | some p => cases s with
    | none => exact w
    | some ds =>
      obtain ⟨h1, kvs, h2, h3⟩ := w
      refine ⟨?_, kvs, a.keep _ _ h2, h3.mono a.le⟩
      cases e : R1 p with
      | none => rfl
      | some u =>
        rcases a.new p u e with q | q
        · rw [h1] at q; cases q
        · rw [h2] at q; cases q
theorem Nw.ex (a : Nw H R H1 R1) (w : Ws K R H wa s) : Ex wa H R H1 R1 := ⟨a.le, a.sub, fun b o h _ => a.keep b o h, a.new, (w.nw a).st⟩
end

/-! ### the names' cells -/
def OwR (K : PySem.W.Frag) (R H : Hp) : D → Addr → Prop
  | .list xs, a => ∃ vs, H a = some (.lst vs) ∧ RpA K R xs vs
  | .dict ds, a => ∃ kvs, H a = some (.dK kvs) ∧ RpK K R ds kvs
  | _, _ => False
def CellR (K : PySem.W.Frag) (R H : Hp) (wa : Option Addr) : Cell → Option (Option V) → Prop
  | .no, _ => True
  | .fz x, o => ∃ v, o = some (some v) ∧ Rp K R x v
  | .own x, o => ∃ a, o = some (some (.ref a)) ∧ R a = none ∧ wa ≠ some a ∧ OwR K R H x a
  | .st, o => ∃ a, o = some (some (.ref a)) ∧ wa = some a
structure Pre (K : PySem.W.Frag) (σ : L2.St) (H : Hp) (ρ : Env) (R : Hp) (wa : Option Addr) (s : W) : Prop where
  len : ρ.length = σ.length
  cells : ∀ (i : Nat) (c : Cell), ρ[i]? = some c → CellR K R H wa c σ[i]?
  sub : Sub R H
  ws : Ws K R H wa s
section
variable {K : PySem.W.Frag} {wa : Option Addr} {H R H1 R1 H2 R2 : Hp} {s s1 : W} {σ : L2.St} {ρ : Env}
theorem OwR.ex (a : Ex wa H R H1 R1) {x : D} {p : Addr} (n : wa ≠ some p) (h : OwR K R H x p) : OwR K R1 H1 x p := by
  cases x with
  | list xs => obtain ⟨vs, h1, h2⟩ := h; exact ⟨vs, a.keep _ _ h1 n, h2.mono a.le⟩
  | dict ds => obtain ⟨vs, h1, h2⟩ := h; exact ⟨vs, a.keep _ _ h1 n, h2.mono a.le⟩
  | _ => exact h
theorem OwR.there {x : D} {p : Addr} (h : OwR K R H x p) : ∃ o, H p = some o := by
  cases x with
  | list xs => obtain ⟨vs, h1, h2⟩ := h; exact ⟨_, h1⟩
  | dict ds => obtain ⟨vs, h1, h2⟩ := h; exact ⟨_, h1⟩
  | _ => exact h.elim
theorem Rr.ex (a : Ex wa H R H1 R1) {x : D} {v : V} (h : Rr K wa R H x v) : Rr K wa R1 H1 x v := by
  cases h with
  | rp h => exact .rp (h.mono a.le)
  | lst n h1 h2 => exact .lst n (a.keep _ _ h1 n) (h2.mono a.le)
  | dct n h1 h2 => exact .dct n (a.keep _ _ h1 n) (h2.mono a.le)
theorem Ex.out (a : Ex wa H R H1 R1) {p : Addr} {o : HO} (h : R p = none) (q : H p = some o) : R1 p = none := by
  cases e : R1 p with
  | none => rfl
  | some u =>
    rcases a.new p u e with z | z
    · rw [h] at z; cases z
    · rw [q] at z; cases z
theorem CellR.ex (a : Ex wa H R H1 R1) {c : Cell} {o : Option (Option V)} (h : CellR K R H wa c o) : CellR K R1 H1 wa c o := by
  cases c with
  | no => exact h
  | fz x => obtain ⟨v, e, r⟩ := h; exact ⟨v, e, r.mono a.le⟩
  | own x =>
    obtain ⟨p, e, n, nw, r⟩ := h
    obtain ⟨o', ho⟩ := r.there
    exact ⟨p, e, a.out n ho, nw, r.ex a nw⟩
  | st => exact h
theorem Pre.ex (p : Pre K σ H ρ R wa s) (a : Ex wa H R H1 R1) (w : Ws K R1 H1 wa s1) : Pre K σ H1 ρ R1 wa s1 :=
  ⟨p.len, fun i c e => (p.cells i c e).ex a, a.sub, w⟩
theorem Pre.fz (p : Pre K σ H ρ R wa s) {i : Nat} {x : D} (h : fzC ρ[i]? = some x) : ∃ v, σ[i]? = some (some v) ∧ Rp K R x v := by
  cases e : ρ[i]? with
  | none => rw [e] at h; cases h
  | some c =>
    rw [e] at h
    cases c with
    | fz y =>
      have q := p.cells i _ e
      cases h
      exact q
    | _ => cases h
theorem Pre.rd (p : Pre K σ H ρ R wa s) {i : Nat} {x : D} (h : rdC ρ[i]? = some x) : ∃ v, σ[i]? = some (some v) ∧ Rr K wa R H x v := by
  cases e : ρ[i]? with
  | none => rw [e] at h; cases h
  | some c =>
    rw [e] at h
    cases c with
    | fz y =>
      have q := p.cells i _ e
      cases h
      obtain ⟨v, h1, h2⟩ := q
      exact ⟨v, h1, .rp h2⟩
    | own y =>
      have q := p.cells i _ e
      cases h
      obtain ⟨a, h1, _, nw, h2⟩ := q
      refine ⟨_, h1, ?_⟩
      cases x with
      | list xs => obtain ⟨vs, h3, h4⟩ := h2; exact .lst nw h3 h4
      | dict xs => obtain ⟨vs, h3, h4⟩ := h2; exact .dct nw h3 h4
      | _ => exact h2.elim
    | _ => cases h
theorem Pre.wst (p : Pre K σ H ρ R wa s) {i : Nat} (h : isSt ρ[i]? = true) : ∃ a, σ[i]? = some (some (.ref a)) ∧ wa = some a ∧ ∃ ds kvs, s = some ds ∧ H a = some (.dK kvs) ∧ RpK K R ds kvs := by
  cases e : ρ[i]? with
  | none => rw [e] at h; cases h
  | some c =>
    rw [e] at h
    cases c with
    | st =>
      obtain ⟨a, h1, h2⟩ := p.cells i _ e
      have w := p.ws
      rw [h2] at w
      cases s with
      | none => exact w.elim
      | some ds =>
        obtain ⟨_, kvs, h3, h4⟩ := w
        exact ⟨a, h1, h2, ds, kvs, rfl, h3, h4⟩
    | _ => cases h
end
end PL

set_option Elab.async false
set_option linter.all false
set_option maxRecDepth 100000
set_option maxHeartbeats 2000000
set_option autoImplicit false
/-! PL2: operators on data, by the layer's rules. -/
namespace PL
open PySem L2 PySem.Spec PyProof.Rows

section
variable {X : Cx} {pins : List (Addr × Obj)} {σ : L2.St} {H R : Hp} {wa : Option Addr} {s : Shared} {Q : VK}

/-- what a result may be: new objects alone are made -/
def To (K : PySem.W.Frag) (H R : Hp) (z : D) (Q : VK) : Prop := ∀ v H' R', Nw H R H' R' → Rp K R' z v → Q v H'
theorem To.same {K : PySem.W.Frag} {z : D} {v : V} (q : To K H R z Q) (h : Sub R H) (r : Rp K R z v) : Q v H := q v H R (Nw.refl h) r
theorem To.list {K : PySem.W.Frag} {zs : List D} {vs : List V} {p : Addr} (q : To K H R (.list zs) Q) (h : Sub R H) (n : H p = none) (r : RpA K R zs vs) : Q (.ref p) (upd H p (.lst vs)) :=
  q _ _ _ (Nw.one h n) (.lst (.inl upd_same) (r.mono (Nw.one h n).le))
theorem To.tuple {K : PySem.W.Frag} {zs : List D} {vs : List V} {p : Addr} (q : To K H R (.tuple zs) Q) (h : Sub R H) (n : H p = none) (r : RpA K R zs vs) : Q (.ref p) (upd H p (.tup vs)) :=
  q _ _ _ (Nw.one h n) (.tup (.inl upd_same) (r.mono (Nw.one h n).le))
theorem To.dict {K : PySem.W.Frag} {ds : KV} {kvs : List (Key × V)} {p : Addr} (q : To K H R (.dict ds) Q) (h : Sub R H) (n : H p = none) (r : RpK K R ds kvs) : Q (.ref p) (upd H p (.dK kvs)) :=
  q _ _ _ (Nw.one h n) (.dct upd_same (r.mono (Nw.one h n).le))

theorem rdM {l : Addr} {xs : List V} (I : Inv X pins σ H s) (hH : Rd H l (.lst xs)) : xs.length ≤ sizeLine ∧ ∃ (its : List Value) (n : Nat), Vals xs its ∧ xs.length = its.length ∧ s.heap.get? l = some { cls := .type "list", data := .seq its.toArray n } := by
  obtain ⟨z, its, n, r, e⟩ := hH.ok I.hok
  exact ⟨z, its, n, r, r.length, e⟩
def rCatR (K : PySem.W.Frag) : R2 := fun x y H Q => ∃ l b xs zs, x = .ref l ∧ y = .ref b ∧ SqL K H l xs ∧ SqL K H b zs ∧ xs.length + zs.length ≤ sizeLine ∧ ∀ p, H p = none → Q (.ref p) (upd H p (.lst (xs ++ zs)))
theorem op_catR : OpR X (binaryOp .Add) (rCatR X.K) := by
  intro pins s σ H x y v u Q I rx ry h
  obtain ⟨l, b, xs, zs, rfl, rfl, hH, hB, hz, q⟩ := h
  cases rx
  cases ry
  obtain ⟨its, r, pl, hl⟩ := I.list hH
  obtain ⟨its2, r2, pl2, hl2⟩ := I.list hB
  obtain ⟨⟨cls, dd, data, sl⟩, n, ho, hc, hn, hd⟩ := pl
  obtain ⟨⟨cls2, dd2, data2, sl2⟩, n2, ho2, hc2, hn2, hd2⟩ := pl2
  simp only at hc hd hc2 hd2
  subst hc hd hc2 hd2
  have e1 := r.length
  have e2 := r2.length
  have ea : its.toArray ++ its2.toArray = (its ++ its2).toArray := by simp
  refine concat_meets ⟨_, ho, rfl⟩ ⟨_, ho2, rfl⟩ noFill_list_add seq_list_add PySem.F.slot_list_add PySem.F.entry_list_add (PySem.F.args_list_add_2 _ _) (list_addW l b its.toArray its2.toArray n n2 dd dd2 sl sl2 (by rw [List.size_toArray, List.size_toArray]; omega)) ⟨ho, ho2, ?_⟩
  rw [ea]
  exact ⟨.ref _, _, I.lnew (t' := s.toks) (r.append r2) (by rw [List.length_append]; omega), rfl, q _ I.fresh⟩

def opB : BOp → Operator
  | .add => .Add | .sub => .Sub | .mul => .Mult | .fdiv => .FloorDiv | .mod => .Mod | .pow => .Pow
def rBin (K : PySem.W.Frag) (o : BOp) : R2 := fun x y H Q => ∃ wa R d e z, Sub R H ∧ Rr K wa R H d x ∧ Rr K wa R H e y ∧ binD o d e = some z ∧ To K H R z Q
theorem lineOk_le {n : Nat} (h : lineOk n = true) : n ≤ sizeLine := of_decide_eq_true h
theorem op_bin (o : BOp) : OpR X (binaryOp (opB o)) (rBin X.K o) := by
  intro pins s σ H x y v u Q I rx ry h
  obtain ⟨wa, R, d, e, z, sb, hd, he, hz, q⟩ := h
  unfold binD at hz
  split at hz
  · cases hd.int; cases he.int; cases hz
    exact op_add pins s σ H _ _ v u Q I rx ry ⟨_, _, rfl, rfl, q.same sb (.int _)⟩
  · cases hd.str; cases he.str
    split at hz
    · rename_i hl; cases hz
      exact op_add_str pins s σ H _ _ v u Q I rx ry ⟨_, _, rfl, rfl, lineOk_le hl, q.same sb (.str _)⟩
    · cases hz
  · split at hz
    · rename_i hl; cases hz
      obtain ⟨a, vs, rfl, ha, ra⟩ := hd.list sb
      obtain ⟨b, ws, rfl, hb, rb⟩ := he.list sb
      refine op_catR pins s σ H _ _ v u Q I rx ry ⟨_, _, _, _, rfl, rfl, ha, hb, ?_, fun p n => q.list sb n (ra.append rb)⟩
      rw [← ra.length, ← rb.length]; exact lineOk_le hl
    · cases hz
  · split at hz
    · rename_i hl; cases hz
      have hd' := hd
      have he' := he
      obtain ⟨a, vs, rfl, ha, ra⟩ := hd.tuple sb
      obtain ⟨b, ws, rfl, hb, rb⟩ := he.tuple sb
      refine op_catA pins s σ H _ _ v u Q I rx ry ⟨_, _, _, _, rfl, rfl, ha, hb, ?_, fun e => ?_, fun _ e => ?_, fun _ _ p n => q.tuple sb n (ra.append rb)⟩
      · rw [← ra.length, ← rb.length]; exact lineOk_le hl
      · subst e; cases ra; exact q.same sb he'.tupleR
      · subst e; cases rb; refine q.same sb ?_; rw [List.append_nil]; exact hd'.tupleR
    · cases hz
  · cases hd.int; cases he.int; cases hz
    exact op_sub pins s σ H _ _ v u Q I rx ry ⟨_, _, rfl, rfl, q.same sb (.int _)⟩
  · cases hd.int; cases he.int
    split at hz
    · rename_i hl; cases hz
      rw [Bool.and_eq_true] at hl
      have h1 := of_decide_eq_true hl.1
      have h2 := of_decide_eq_true hl.2
      exact op_mulW pins s σ H _ _ v u Q I rx ry ⟨_, _, rfl, rfl, (by unfold CMulW; omega), q.same sb (.int _)⟩
    · cases hz
  · cases hd.int; cases he.int
    split at hz
    · rename_i hl; cases hz
      rw [Bool.and_eq_true] at hl
      exact op_fdivW pins s σ H _ _ v u Q I rx ry ⟨_, _, rfl, rfl, ⟨of_decide_eq_true hl.1, of_decide_eq_true hl.2⟩, q.same sb (.int _)⟩
    · cases hz
  · cases hd.int; cases he.int
    split at hz
    · rename_i hl; cases hz
      exact op_mod pins s σ H _ _ v u Q I rx ry ⟨_, _, rfl, rfl, of_decide_eq_true hl, q.same sb (.int _)⟩
    · cases hz
  · cases hd.int; cases he.int
    split at hz
    · rename_i hl; cases hz
      rw [Bool.and_eq_true, Bool.and_eq_true] at hl
      have h1 := of_decide_eq_true hl.1.1
      have h2 := of_decide_eq_true hl.1.2
      have h3 := of_decide_eq_true hl.2
      exact op_pow pins s σ H _ _ v u Q I rx ry ⟨_, _, rfl, rfl, ⟨h1, by omega, by omega⟩, q.same sb (.int _)⟩
    · cases hz
  · cases hz

/-! ### comparisons -/
def opC : COp → CmpOp
  | .eq => .Eq | .ne => .NotEq | .lt => .Lt | .le => .LtE | .gt => .Gt | .ge => .GtE | .isin => .In | .notin => .NotIn | .is_ => .Is | .isnot => .IsNot
def rCmp (K : PySem.W.Frag) (o : COp) : R2 := fun x y H Q => ∃ wa R d e z, Sub R H ∧ Rr K wa R H d x ∧ Rr K wa R H e y ∧ cmpD o d e = some z ∧ Q (.bl z) H

theorem eqv_scal {d e : D} {x y : V} (hd : Rr X.K wa R H d x) (he : Rr X.K wa R H e y) (h : scalD d e = true) : scal x y = true ∧ decide (x = y) = PyData.eqv d e := by
  unfold scalD at h
  split at h <;> first
    | (cases hd.non; cases he.non; exact ⟨rfl, by simp [PyData.eqv]⟩)
    | (cases hd.non; cases he.int; exact ⟨rfl, by simp [PyData.eqv]⟩)
    | (cases hd.int; cases he.non; exact ⟨rfl, by simp [PyData.eqv]⟩)
    | (cases hd.non; cases he.bl; exact ⟨rfl, by simp [PyData.eqv]⟩)
    | (cases hd.bl; cases he.non; exact ⟨rfl, by simp [PyData.eqv]⟩)
    | (cases hd.non; cases he.str; exact ⟨rfl, by simp [PyData.eqv]⟩)
    | (cases hd.str; cases he.non; exact ⟨rfl, by simp [PyData.eqv]⟩)
    | (cases hd.int; cases he.int; exact ⟨rfl, by rw [dec_int, PyData.eqv]⟩)
    | (cases hd.bl; cases he.bl; exact ⟨rfl, by rw [dec_bl, PyData.eqv]⟩)
    | (cases hd.str; cases he.str; exact ⟨rfl, by rw [dec_str, PyData.eqv]⟩)
    | (cases hd.int; cases he.str; exact ⟨rfl, by simp [PyData.eqv]⟩)
    | (cases hd.str; cases he.int; exact ⟨rfl, by simp [PyData.eqv]⟩)
    | (cases hd.bl; cases he.str; exact ⟨rfl, by simp [PyData.eqv]⟩)
    | (cases hd.str; cases he.bl; exact ⟨rfl, by simp [PyData.eqv]⟩)
    | cases h
theorem flat_of {d : D} {x : V} (hd : Rr X.K wa R H d x) (h : flatD d = true) : flatV x = true := by
  unfold flatD at h
  split at h
  · cases hd.non; rfl
  · cases hd.bl; rfl
  · cases hd.int; rfl
  · cases hd.str; rfl
  · cases h
theorem eqv_flat {d e : D} {x y : V} (hd : Rr X.K wa R H d x) (he : Rr X.K wa R H e y) (h : flatD d = true) (h' : flatD e = true) : eqV x y = PyData.eqv d e := by
  unfold flatD at h h'
  split at h
  · cases hd.non
    split at h'
    · cases he.non; rfl
    · cases he.bl; rfl
    · cases he.int; rfl
    · cases he.str; rfl
    · cases h'
  · cases hd.bl
    split at h'
    · cases he.non; rfl
    · cases he.bl; rfl
    · cases he.int; rfl
    · cases he.str; rfl
    · cases h'
  · cases hd.int
    split at h'
    · cases he.non; rfl
    · cases he.bl; rfl
    · cases he.int; rfl
    · cases he.str; rfl
    · cases h'
  · cases hd.str
    split at h'
    · cases he.non; rfl
    · cases he.bl; rfl
    · cases he.int; rfl
    · cases he.str; rfl
    · cases h'
  · cases h
theorem flat_all : ∀ {ds : List D} {vs : List V}, RpA X.K R ds vs → ds.all flatD = true → vs.all flatV = true
  | _, _, .nil, _ => rfl
  | _, _, .cons h t, c => by
    rw [List.all_cons, Bool.and_eq_true] at c
    rw [List.all_cons, flat_of (X := X) (H := H0) (wa := none) (.rp h) c.1, flat_all t c.2]; rfl
theorem in_flat {d : D} {x : V} (hd : Rr X.K wa R H d x) (h : flatD d = true) : ∀ {ds : List D} {vs : List V}, RpA X.K R ds vs → ds.all flatD = true → inV x vs = ds.any fun z => PyData.eqv z d
  | _, _, .nil, _ => rfl
  | _, _, .cons q t, c => by
    rw [List.all_cons, Bool.and_eq_true] at c
    have ih := in_flat hd h t c.2
    unfold inV at ih ⊢
    rw [List.any_cons, List.any_cons, ih, eqv_flat (.rp q) hd c.1 h]

theorem Dp.lt {op : CmpOp} {b : Bool} {pins : List (Addr × Obj)} {σ : L2.St} {s : Shared} {x y : V} {v u : Value} {Q : VK} {d e : D} (hu : X.A.units + 65 < cLine) (I : Inv X pins σ H s) (rx : RelV x v) (ry : RelV y u) (sb : Sub R H) (hd : Rr X.K wa R H d x) (he : Rr X.K wa R H e y) (h : ltOk d e = true)
    (hop : (op = .Lt ∧ b = PySem.W.dataLt d e) ∨ (op = .Gt ∧ b = PySem.W.dataLt e d)) (q : Q (.bl b) H) : wpAny (model X.prog X.w) X.A (compareOp op v u) (EP X pins σ Q) X.xe s := by
  unfold ltOk at h
  simp only [Bool.and_eq_true] at h
  obtain ⟨⟨⟨⟨h1, h2⟩, h3⟩, h4⟩, h5⟩ := h
  have h5 := of_decide_eq_true h5
  obtain ⟨as, r1⟩ := Dp.reads I d x v (hd.dp sb h1) rx
  obtain ⟨bs, r2⟩ := Dp.reads I e y u (he.dp sb h2) ry
  have hn : d ≠ .none := fun z => by subst z; simp at h4
  have hu2 : X.A.units + min d.depth e.depth < cLine := by
    have : min d.depth e.depth ≤ d.depth := Nat.min_le_left _ _
    omega
  rcases hop with ⟨rfl, rfl⟩ | ⟨rfl, rfl⟩
  · exact PySem.W.lt_data r1 r2 h3 hn hu2 ⟨.bl _, H, I, rfl, q⟩
  · exact PySem.W.gt_data r1 r2 h3 hn hu2 ⟨.bl _, H, I, rfl, q⟩
theorem op_inAny (hu : X.A.units + 65 < cLine) (neg : Bool) : OpR X (compareOp (if neg then .NotIn else .In)) (fun x y H Q => ∃ wa R d e z, Sub R H ∧ Rr X.K wa R H d x ∧ Rr X.K wa R H e y ∧ inD d e = some z ∧ Q (.bl (if neg then !z else z)) H) := by
  intro pins s σ H x y v u Q I rx ry h
  obtain ⟨wa, R, d, e, z, sb, hd, he, hz, q⟩ := h
  unfold inD at hz
  split at hz
  · split at hz
    · rename_i ds hc; cases hz
      rw [Bool.or_eq_true, Bool.and_eq_true, Bool.and_eq_true] at hc
      rcases hc with ⟨c1, c2⟩ | ⟨c1, c2⟩
      · obtain ⟨a, vs, rfl, ha, ra⟩ := he.list sb
        have e1 := in_flat hd c1 ra c2
        rw [← e1] at q
        cases neg with
        | false => exact op_in_seq pins s σ H _ _ v u Q I rx ry ⟨a, vs, rfl, .inl ha, flat_of hd c1, flat_all ra c2, q⟩
        | true => exact op_notIn_seq pins s σ H _ _ v u Q I rx ry ⟨a, vs, rfl, .inl ha, flat_of hd c1, flat_all ra c2, q⟩
      · obtain ⟨as, r1⟩ := Dp.reads I d x v (hd.dp sb (nd_shaped c1)) rx
        obtain ⟨bs, r2⟩ := Dp.reads I (.list ds) y u (he.dp sb (nd_shaped c2)) ry
        cases neg with
        | false => exact SeqAt.in_list_reads r2 r1 (SeqAt.canLay_of_shaped c2) (SeqAt.canLay_of_shaped c1) (room_in_shaped c1 hu) ⟨.bl _, H, I, rfl, q⟩
        | true => exact SeqAt.notIn_list_reads r2 r1 (SeqAt.canLay_of_shaped c2) (SeqAt.canLay_of_shaped c1) (room_in_shaped c1 hu) ⟨.bl _, H, I, rfl, q⟩
    · cases hz
  · split at hz
    · rename_i ds hc; cases hz
      rw [Bool.or_eq_true, Bool.and_eq_true, Bool.and_eq_true] at hc
      rcases hc with ⟨c1, c2⟩ | ⟨c1, c2⟩
      · obtain ⟨a, vs, rfl, ha, ra⟩ := he.tuple sb
        have e1 := in_flat hd c1 ra c2
        rw [← e1] at q
        cases neg with
        | false => exact op_in_seq pins s σ H _ _ v u Q I rx ry ⟨a, vs, rfl, .inr ha, flat_of hd c1, flat_all ra c2, q⟩
        | true => exact op_notIn_seq pins s σ H _ _ v u Q I rx ry ⟨a, vs, rfl, .inr ha, flat_of hd c1, flat_all ra c2, q⟩
      · obtain ⟨as, r1⟩ := Dp.reads I d x v (hd.dp sb (nd_shaped c1)) rx
        obtain ⟨bs, r2⟩ := Dp.reads I (.tuple ds) y u (he.dp sb (nd_shaped c2)) ry
        cases neg with
        | false => exact SeqAt.in_tuple_reads r2 r1 (SeqAt.canLay_of_shaped c2) (SeqAt.canLay_of_shaped c1) (room_in_shaped c1 hu) ⟨.bl _, H, I, rfl, q⟩
        | true => exact SeqAt.notIn_tuple_reads r2 r1 (SeqAt.canLay_of_shaped c2) (SeqAt.canLay_of_shaped c1) (room_in_shaped c1 hu) ⟨.bl _, H, I, rfl, q⟩
    · cases hz
  · rename_i ds
    split at hz
    · rename_i k hk
      cases hz
      have hk := kOf_some hk
      subst hk
      obtain ⟨a, kvs, rfl, ha, ra⟩ := he.dict sb
      have ex : x = kV k := by
        cases k with
        | inl i => exact Rr.int hd
        | inr i => exact Rr.str hd
      subst ex
      have es : (dGet ds k).isSome = (valV kvs k).isSome := by
        rcases ra.get k with ⟨h1, h2⟩ | ⟨x, v, h1, h2, _⟩
        · rw [h1, h2]; rfl
        · rw [h1, h2]; rfl
      rw [es] at q
      cases ry
      cases neg with
      | false => exact d_in (by omega) I (.inl ⟨kvs, k, ha, rfl, rfl⟩) rx fun s' I' => ⟨.bl _, H, I', rfl, q⟩
      | true => exact d_notIn (by omega) I (.inl ⟨kvs, k, ha, rfl, rfl⟩) rx fun s' I' => ⟨.bl _, H, I', rfl, q⟩
    · cases hz
  · split at hz
    · rename_i z _ c
      cases hz
      cases hd.str; cases he.str
      cases neg with
      | false => exact op_in_sign pins s σ H _ _ v u Q I rx ry ⟨c, _, rfl, rfl, q⟩
      | true => exact op_notIn_sign pins s σ H _ _ v u Q I rx ry ⟨c, _, rfl, rfl, q⟩
    · cases hz
  · cases hz
theorem op_isAny (neg : Bool) : OpR X (compareOp (if neg then .IsNot else .Is)) (fun x y H Q => ∃ wa R d e z, Sub R H ∧ Rr X.K wa R H d x ∧ Rr X.K wa R H e y ∧ isD d e = some z ∧ Q (.bl (if neg then !z else z)) H) := by
  intro pins s σ H x y v u Q I rx ry h
  obtain ⟨wa, R, d, e, z, sb, hd, he, hz, q⟩ := h
  unfold isD at hz
  split at hz
  · cases he.non; cases hz
    have e1 : isNon d = decide (x = V.non) := by
      cases d with
      | none => cases hd.non; rfl
      | bool b => cases hd.bl; rfl
      | int b => cases hd.int; rfl
      | str b => cases hd.str; rfl
      | list b => obtain ⟨a, vs, rfl, _⟩ := hd.list sb; rfl
      | tuple b => obtain ⟨a, vs, rfl, _⟩ := hd.tuple sb; rfl
      | dict b => obtain ⟨a, vs, rfl, _⟩ := hd.dict sb; rfl
    rw [e1] at q
    cases neg with
    | false => exact op_isN pins s σ H _ _ v u Q I rx ry ⟨rfl, q⟩
    | true => exact op_notN pins s σ H _ _ v u Q I rx ry ⟨rfl, q⟩
  · cases he.bl
    split at hz
    · cases hd.bl; cases hz
      cases neg with
      | false => exact op_isBl pins s σ H _ _ v u Q I rx ry ⟨_, _, rfl, rfl, q⟩
      | true => exact op_notBl pins s σ H _ _ v u Q I rx ry ⟨_, _, rfl, rfl, q⟩
    · cases hd.non; cases hz
      cases rx; cases ry
      cases neg with
      | false => exact wpAny_is_other rfl (fun z => nomatch z) ⟨.bl false, H, I, rfl, q⟩
      | true => exact wpAny_isNot_other rfl (fun z => nomatch z) ⟨.bl true, H, I, rfl, q⟩
    · cases hz
  · cases hz
theorem op_cmp (hu : X.A.units + 65 < cLine) (o : COp) : OpR X (compareOp (opC o)) (rCmp X.K o) := by
  intro pins s σ H x y v u Q I rx ry h
  obtain ⟨wa, R, d, e, z, sb, hd, he, hz, q⟩ := h
  cases o with
  | eq =>
    simp only [cmpD] at hz
    split at hz
    · rename_i hc; cases hz
      unfold eqOk at hc
      rw [Bool.or_eq_true, Bool.and_eq_true] at hc
      rcases hc with hc | ⟨c1, c2⟩
      · obtain ⟨e1, e2⟩ := eqv_scal hd he hc
        rw [← e2] at q
        exact op_eq pins s σ H _ _ v u Q I rx ry ⟨e1, q⟩
      · rw [Bool.and_eq_true, decide_eq_true_eq] at c2
        obtain ⟨as, r1⟩ := Dp.reads I d x v (hd.dp sb (nd_of_lay _ c1)) rx
        obtain ⟨bs, r2⟩ := Dp.reads I e y u (he.dp sb (nd_of_lay _ c2.1)) ry
        exact SeqAt.compareEq_reads r1 r2 c1 c2.1 (by omega) ⟨.bl _, H, I, rfl, q⟩
    · cases hz
  | ne =>
    simp only [cmpD] at hz
    split at hz
    · rename_i hc; cases hz
      unfold eqOk at hc
      rw [Bool.or_eq_true, Bool.and_eq_true] at hc
      rcases hc with hc | ⟨c1, c2⟩
      · obtain ⟨e1, e2⟩ := eqv_scal hd he hc
        rw [← e2] at q
        exact op_ne pins s σ H _ _ v u Q I rx ry ⟨e1, q⟩
      · rw [Bool.and_eq_true, decide_eq_true_eq] at c2
        obtain ⟨as, r1⟩ := Dp.reads I d x v (hd.dp sb (nd_of_lay _ c1)) rx
        obtain ⟨bs, r2⟩ := Dp.reads I e y u (he.dp sb (nd_of_lay _ c2.1)) ry
        exact SeqAt.compareNe_reads r1 r2 c1 c2.1 (by omega) ⟨.bl _, H, I, rfl, q⟩
    · cases hz
  | lt =>
    simp only [cmpD, ltD] at hz
    split at hz
    · cases hd.int; cases he.int; cases hz
      exact op_lt pins s σ H _ _ v u Q I rx ry ⟨_, _, rfl, rfl, q⟩
    · cases hd.str; cases he.str; cases hz
      exact op_lt_str pins s σ H _ _ v u Q I rx ry ⟨_, _, rfl, rfl, q⟩
    · split at hz
      · rename_i hc; cases hz
        exact Dp.lt hu I rx ry sb hd he hc (.inl ⟨rfl, rfl⟩) q
      · cases hz
  | gt =>
    simp only [cmpD, gtD] at hz
    split at hz
    · cases hd.int; cases he.int; cases hz
      exact op_gt pins s σ H _ _ v u Q I rx ry ⟨_, _, rfl, rfl, q⟩
    · split at hz
      · rename_i hc; cases hz
        exact Dp.lt hu I rx ry sb hd he hc (.inr ⟨rfl, rfl⟩) q
      · cases hz
  | le =>
    simp only [cmpD, leD] at hz
    split at hz
    · cases hd.int; cases he.int; cases hz
      exact op_le pins s σ H _ _ v u Q I rx ry ⟨_, _, rfl, rfl, q⟩
    · cases hd.str; cases he.str; cases hz
      exact op_le_str pins s σ H _ _ v u Q I rx ry ⟨_, _, rfl, rfl, q⟩
    · cases hz
  | ge =>
    simp only [cmpD, geD] at hz
    split at hz
    · cases hd.int; cases he.int; cases hz
      exact op_ge pins s σ H _ _ v u Q I rx ry ⟨_, _, rfl, rfl, q⟩
    · cases hz
  | isin => exact op_inAny hu false pins s σ H _ _ v u Q I rx ry ⟨wa, R, d, e, z, sb, hd, he, hz, q⟩
  | notin =>
    simp only [cmpD, Option.map_eq_some_iff] at hz
    obtain ⟨z', hz, rfl⟩ := hz
    exact op_inAny hu true pins s σ H _ _ v u Q I rx ry ⟨wa, R, d, e, z', sb, hd, he, hz, q⟩
  | is_ => exact op_isAny false pins s σ H _ _ v u Q I rx ry ⟨wa, R, d, e, z, sb, hd, he, hz, q⟩
  | isnot =>
    simp only [cmpD, Option.map_eq_some_iff] at hz
    obtain ⟨z', hz, rfl⟩ := hz
    exact op_isAny true pins s σ H _ _ v u Q I rx ry ⟨wa, R, d, e, z', sb, hd, he, hz, q⟩
end
end PL

set_option Elab.async false
set_option linter.all false
set_option maxRecDepth 100000
set_option maxHeartbeats 2000000
set_option autoImplicit false
/-! PL3: subscripts, slices, built-ins on data, by the layer's rules. -/
namespace PL
open PySem L2 PySem.Spec PyProof.Rows

section
variable {X : Cx} {pins : List (Addr × Obj)} {σ : L2.St} {H R : Hp} {wa : Option Addr} {s : Shared} {Q : VK}

/-! ### subscripts -/
def rIxAny (K : PySem.W.Frag) : R2 := fun x y H Q => ∃ wa R d e z, Sub R H ∧ Rr K wa R H d x ∧ Rr K wa R H e y ∧ ixD d e = some z ∧ To K H R z Q
theorem ix_any (hu : X.A.units + 1 < cLine) : IxR X (rIxAny X.K) := by
  intro value slice pins s σ H x y v u Q I rx ry h hs
  obtain ⟨wa, R, d, e, z, sb, hd, he, hz, q⟩ := h
  unfold ixD at hz
  split at hz
  · cases he.int
    obtain ⟨a, vs, rfl, ha, ra⟩ := hd.list sb
    obtain ⟨w, h1, h2⟩ := ra.atI hz
    exact ix_list value slice pins s σ H _ _ v u Q I rx ry ⟨_, _, _, _, rfl, rfl, ha, h1, q.same sb h2⟩ hs
  · cases he.int
    obtain ⟨a, vs, rfl, ha, ra⟩ := hd.tuple sb
    obtain ⟨w, h1, h2⟩ := ra.atI hz
    exact ix_tup value slice pins s σ H _ _ v u Q I rx ry ⟨_, _, _, _, rfl, rfl, ha, h1, q.same sb h2⟩ hs
  · split at hz
    · rename_i ds _ k hk
      have hk := kOf_some hk
      subst hk
      obtain ⟨a, kvs, rfl, ha, ra⟩ := hd.dict sb
      have ey : y = kV k := by
        cases k with
        | inl i => exact Rr.int he
        | inr i => exact Rr.str he
      subst ey
      rcases ra.get k with ⟨h1, h2⟩ | ⟨x, w, h1, h2, h3⟩
      · rw [h1] at hz; cases hz
      · rw [h1] at hz; cases hz
        cases rx
        have g : DGet H a (kV k) (some w) := .inl ⟨kvs, k, ha, rfl, h2.symm⟩
        exact tail_any (dict_typeIs I g) PySem.F.slot_dict_getitem.lookup (d_getItem hu I g ry fun w' s' I' rw' => ⟨w, H, I', rw', q.same sb h3⟩) hs
    · cases hz
  · cases hz

def rSlAny (K : PySem.W.Frag) : V → Option Int → Option Int → Hp → VK → Prop := fun x lo hi H Q => ∃ wa R d z, Sub R H ∧ Rr K wa R H d x ∧ slD d lo hi = some z ∧ To K H R z Q
theorem sl_any : SlR X (rSlAny X.K) := by
  intro pins s σ H x v vl vu lo hi sl Q I rx hs pl pu h
  obtain ⟨wa, R, d, z, sb, hd, hz, q⟩ := h
  unfold slD at hz
  split at hz
  · cases hz
    obtain ⟨a, vs, rfl, ha, ra⟩ := hd.list sb
    exact sl_list pins s σ H _ v vl vu lo hi sl Q I rx hs pl pu ⟨a, vs, rfl, ha, fun p n => q.list sb n (ra.cut lo hi)⟩
  · cases hz
    have hd' := hd.tupleR
    obtain ⟨a, vs, rfl, ha, ra⟩ := hd.tuple sb
    refine sl_tupA pins s σ H _ v vl vu lo hi sl Q I rx hs pl pu ⟨a, vs, rfl, ha, fun c => ?_, fun _ p n => q.tuple sb n (ra.cut lo hi)⟩
    rw [← ra.length] at c
    refine q.same sb ?_
    unfold cut
    rw [c.1, c.2, List.drop_zero, Nat.sub_zero, List.take_length]
    exact hd'
  · cases hz

/-! ### built-ins -/
inductive RrA (K : PySem.W.Frag) (wa : Option Addr) (R H : Hp) : List D → List V → Prop
  | nil : RrA K wa R H [] []
  | cons {x : D} {v : V} {xs : List D} {vs : List V} : Rr K wa R H x v → RrA K wa R H xs vs → RrA K wa R H (x :: xs) (v :: vs)
theorem RrA.one {K : PySem.W.Frag} {x : D} {vs : List V} (h : RrA K wa R H [x] vs) : ∃ v, vs = [v] ∧ Rr K wa R H x v := by
  cases h with
  | cons h1 h2 => cases h2; exact ⟨_, rfl, h1⟩
theorem RrA.two {K : PySem.W.Frag} {x y : D} {vs : List V} (h : RrA K wa R H [x, y] vs) : ∃ v w, vs = [v, w] ∧ Rr K wa R H x v ∧ Rr K wa R H y w := by
  cases h with
  | cons h1 h2 => cases h2 with
    | cons h3 h4 => cases h4; exact ⟨_, _, rfl, h1, h3⟩
def fnB : Blt → Value
  | .isi _ => .builtin "isinstance"
  | .len => .builtin "len"
  | .abs => .builtin "abs"
  | .int => .type "int"
  | .max1 => .builtin "max"
  | .max2 => .builtin "max"
  | .min2 => .builtin "min"
  | .sorted => .builtin "sorted"
  | .tuple => .type "tuple"
  | .list => .type "list"
  | .dict => .type "dict"
  | .sum => .builtin "sum"
  | .all => .builtin "all"
  | .any => .builtin "any"
  | .lenset => .builtin "len"
  | .sortedset => .builtin "sorted"
def rBlt (K : PySem.W.Frag) (b : Blt) : List V → Hp → VK → Prop := fun xs H Q => ∃ wa R ds z, Sub R H ∧ RrA K wa R H ds xs ∧ bltD b ds = some z ∧ To K H R z Q
theorem rd_sq {K : PySem.W.Frag} {a : Addr} {vs : List V} (h : Rd H a (.lst vs)) : SqL K H a vs := .inl h
theorem ints_of : ∀ {xs : List D} {vs : List V} {ns : List Int}, RpA X.K R xs vs → intsOf xs = some ns → vs = ns.map V.int
  | _, _, _, .nil, h => by cases h; rfl
  | _, _, ns, .cons (x := x) h t, e => by
    cases x with
    | int i =>
      simp only [intsOf, Option.map_eq_some_iff] at e
      obtain ⟨ms, e1, rfl⟩ := e
      cases h
      rw [ints_of t e1]; rfl
    | _ => cases e
theorem bools_of : ∀ {xs : List D} {vs : List V} {ns : List Bool}, RpA X.K R xs vs → boolsOf xs = some ns → vs = ns.map V.bl
  | _, _, _, .nil, h => by cases h; rfl
  | _, _, ns, .cons (x := x) h t, e => by
    cases x with
    | bool i =>
      simp only [boolsOf, Option.map_eq_some_iff] at e
      obtain ⟨ms, e1, rfl⟩ := e
      cases h
      rw [bools_of t e1]; rfl
    | _ => cases e
theorem foldl_max (r : List Int) : ∀ i : Int, (r.foldl (fun a b => if b > a then b else a) i ∈ i :: r) ∧ ∀ y ∈ i :: r, y ≤ r.foldl (fun a b => if b > a then b else a) i := by
  induction r with
  | nil => intro i; exact ⟨by simp, fun y h => by
    have h := List.mem_singleton.mp h
    subst h
    exact Int.le_refl _⟩
  | cons j r ih =>
    intro i
    simp only [List.foldl_cons]
    obtain ⟨h1, h2⟩ := ih (if j > i then j else i)
    refine ⟨?_, fun y h => ?_⟩
    · rcases List.mem_cons.mp h1 with e | e
      · rw [e]
        split
        · exact List.mem_cons_of_mem _ List.mem_cons_self
        · exact List.mem_cons_self
      · exact List.mem_cons_of_mem _ (List.mem_cons_of_mem _ e)
    · have hm := h2 _ List.mem_cons_self
      rcases List.mem_cons.mp h with e | e
      · subst e
        split at hm <;> split <;> omega
      · rcases List.mem_cons.mp e with e | e
        · subst e
          split at hm <;> split <;> omega
        · exact h2 y (List.mem_cons_of_mem _ e)
theorem max_is {ns : List Int} {m k : Int} (h : maxOf ns = some m) (hk : k ∈ ns) (hm : ∀ y ∈ ns, y ≤ k) : k = m := by
  cases ns with
  | nil => cases h
  | cons i r =>
    simp only [maxOf, Option.some.injEq] at h
    obtain ⟨h1, h2⟩ := foldl_max r i
    rw [h] at h1 h2
    exact Int.le_antisymm (h2 k hk) (hm m h1)
theorem pairs_is {ps : List (Key × D)} : ∀ {xs : List D} {vs : List V}, RpA X.K R xs vs → pairs xs = some ps → Sub R H →
    ∃ (as : List Addr) (kvs : List (Key × V)), vs = as.map V.ref ∧ Paired (fun p (kv : Key × V) => SqT X.K H p [kV kv.1, kv.2]) as kvs ∧ RpP X.K R ps kvs := by
  intro xs
  induction xs generalizing ps with
  | nil =>
    intro vs r e _
    cases r
    cases e
    exact ⟨[], [], rfl, .nil, .nil⟩
  | cons x xs ih =>
    intro vs r e sb
    cases r with
    | cons h t =>
      unfold pairs at e
      split at e
      · rename_i heq; cases heq
      · rename_i kx x' r' heq
        cases heq
        split at e
        · rename_i k ps' hk hp
          cases e
          have hk := kOf_some hk
          subst hk
          obtain ⟨as, kvs, rfl, h1, h2⟩ := ih t hp sb
          cases h with
          | tup ha ra =>
            cases ra with
            | cons q1 ra => cases ra with
              | cons q2 ra =>
                cases ra
                have q1 := rp_key q1
                subst q1
                exact ⟨_ :: as, (k, _) :: kvs, rfl, .cons (ha.sq sb) h1, .cons q2 h2⟩
        · cases e
      · cases e

theorem sorted_uniq : ∀ {xs ys : List Str}, xs.Perm ys → xs.Pairwise (fun a b => a.cps.toList ≤ b.cps.toList) → ys.Pairwise (fun a b => a.cps.toList ≤ b.cps.toList) → xs = ys := fun {xs ys} p h1 h2 =>
  p.eq_of_pairwise (fun a b _ _ q1 q2 => PySem.W.str_of_cps (List.le_antisymm q1 q2)) h1 h2
theorem risingS_pw : ∀ {r : List Str} {x : Str}, risingS x r = true → (x :: r).Pairwise (fun a b => a.cps.toList ≤ b.cps.toList) := by
  intro r
  induction r with
  | nil => intro x _; exact List.pairwise_singleton _ _
  | cons y r ih =>
    intro x h
    unfold risingS at h
    rw [Bool.and_eq_true] at h
    have h1 : x.cps.toList ≤ y.cps.toList := by
      have := h.1
      rw [ltCps_eq] at this
      simpa using this
    have h2 := ih h.2
    refine List.pairwise_cons.mpr ⟨fun z hz => ?_, h2⟩
    rcases List.mem_cons.mp hz with e | e
    · subst e; exact h1
    · exact List.le_trans h1 ((List.pairwise_cons.mp h2).1 z e)
theorem sortedS_pw {r : List Str} (h : sortedS r = true) : r.Pairwise (fun a b => a.cps.toList ≤ b.cps.toList) := by
  cases r with
  | nil => exact .nil
  | cons x r => exact risingS_pw h
theorem rpA_pairs {K : PySem.W.Frag} : ∀ {ps : List (D × V)}, (∀ p ∈ ps, Rp K R p.1 p.2) → RpA K R (ps.map Prod.fst) (ps.map Prod.snd)
  | [], _ => .nil
  | p :: ps, h => .cons (h p List.mem_cons_self) (rpA_pairs fun q hq => h q (List.mem_cons_of_mem _ hq))
theorem rpA_zip {K : PySem.W.Frag} : ∀ {ds : List D} {vs : List V}, RpA K R ds vs → ∀ p ∈ ds.zip vs, Rp K R p.1 p.2
  | _, _, .nil, p, h => by cases h
  | _, _, .cons h t, p, hp => by
    rcases List.mem_cons.mp hp with e | e
    · subst e; exact h
    · exact rpA_zip t p e
theorem each_zip {K : PySem.W.Frag} : ∀ {ds : List D} {vs : List V} {us : List Value}, RpA K R ds vs → Vals vs us → PySem.W.EachIs (fun (v : Value) (b : D × V) => RelV b.2 v) us (ds.zip vs)
  | _, _, _, .nil, .nil => .nil
  | _, _, _, .cons _ t, .cons r q => .cons r (each_zip t q)
theorem vals_each : ∀ {us : List Value} {ps : List (D × V)}, PySem.W.EachIs (fun (v : Value) (b : D × V) => RelV b.2 v) us ps → Vals (ps.map Prod.snd) us
  | _, _, .nil => .nil
  | _, _, .cons r t => .cons r (vals_each t)
theorem zip_fst {K : PySem.W.Frag} : ∀ {ds : List D} {vs : List V}, RpA K R ds vs → (ds.zip vs).map Prod.fst = ds
  | _, _, .nil => rfl
  | _, _, .cons _ t => by rw [List.zip_cons_cons, List.map_cons, zip_fst t]
theorem sortOk_spec {xs : List D} (h : sortOk xs = true) : PySem.W.AllAlike xs ∧ PySem.W.Sortable xs ∧ ∀ x ∈ xs, x.depth ≤ 60 ∧ nd x = true := by
  unfold sortOk at h
  simp only [Bool.and_eq_true] at h
  obtain ⟨⟨h1, h2⟩, h3⟩ := h
  refine ⟨fun d hd d' hd' => ?_, ?_, fun x hx => ?_⟩
  · exact List.all_eq_true.mp (List.all_eq_true.mp h1 d hd) d' hd'
  · rw [Bool.or_eq_true] at h2
    rcases h2 with h2 | h2
    · refine .inl fun d hd => ?_
      have := List.all_eq_true.mp h2 d hd
      split at this
      · exact ⟨_, _, rfl⟩
      · cases this
    · refine .inr fun d hd => ?_
      have := List.all_eq_true.mp h2 d hd
      split at this
      · cases this
      · cases this
      · rename_i n1 n2
        exact ⟨fun z => n1 z, fun ys z => n2 ys z⟩
  · have := List.all_eq_true.mp h3 x hx
    rw [Bool.and_eq_true] at this
    exact ⟨of_decide_eq_true this.1, this.2⟩
theorem strs_keys {K : PySem.W.Frag} : ∀ {ds : KV} {kvs : List (Key × V)} {ks : List Str}, RpK K R ds kvs → strsOf ds = some ks → kvs.map (·.1) = ks.map Sum.inr
  | _, _, _, .nil, e => by cases e; rfl
  | _, _, ks, .cons (k := k) h t, e => by
    cases k with
    | inl i => cases e
    | inr x =>
      simp only [kD, strsOf, Option.map_eq_some_iff] at e
      obtain ⟨r, e1, rfl⟩ := e
      rw [List.map_cons, List.map_cons, strs_keys t e1]
theorem cr_sortedAny (hc : X.calm = true) (hu : X.A.units + 65 < cLine) : CallR X (.builtin "sorted") (rBlt X.K .sorted) := by
  intro pins s σ H xs us Q I r h
  obtain ⟨wa, R, ds, z, sb, rd, hz, q⟩ := h
  obtain ⟨x0, e0, hz0⟩ : ∃ x, ds = [x] ∧ sortedB x = some z := by
    unfold bltD at hz
    split at hz <;> first | (rename_i h0; cases h0; exact ⟨_, rfl, hz⟩) | (rename_i h0; cases h0) | cases hz
  clear hz
  subst e0
  have hz := hz0
  clear hz0
  unfold sortedB at hz
  split at hz
  · -- a list
    rename_i xs0
    split at hz
    · rename_i ok; cases hz
      obtain ⟨v, rfl, rv⟩ := rd.one
      obtain ⟨a, vs, rfl, ha, ra⟩ := rv.list sb
      obtain ⟨u, rfl, ru⟩ := vals1 r
      cases ru
      obtain ⟨its, rits, pl, hz⟩ := I.list (ha)
      obtain ⟨h1, h2, h3⟩ := sortOk_spec ok
      have el := rits.length
      have ez : (xs0.zip vs).map Prod.fst = xs0 := zip_fst ra
      have eln : (xs0.zip vs).length = vs.length := by rw [List.length_zip, ra.length, Nat.min_self]
      have hrd : PySem.W.EachIs (fun (v : Value) (b : D × V) => ∃ as, Reads s.heap v b.1 as) its (xs0.zip vs) := by
        have key : ∀ {ds : List D} {vs : List V} {us : List Value}, RpA X.K R ds vs → Vals vs us → (∀ x ∈ ds, nd x = true) → PySem.W.EachIs (fun (v : Value) (b : D × V) => ∃ as, Reads s.heap v b.1 as) us (ds.zip vs) := by
          intro ds
          induction ds with
          | nil => intro vs us r q _; cases r; cases q; exact .nil
          | cons d ds ih =>
            intro vs us r q n
            cases r with
            | cons h t => cases q with
              | cons r q => exact .cons (Dp.reads I _ _ _ (h.dp_aux sb (n _ List.mem_cons_self)) r) (ih t q fun x hx => n x (List.mem_cons_of_mem _ hx))
        exact key ra rits fun x hx => (h3 x hx).2
      refine PySem.W.sorted_data (enc := Prod.fst) (bs := xs0.zip vs) (R := fun (v : Value) (b : D × V) => RelV b.2 v) pl.isList (each_zip ra rits) hrd (by rw [ez]; exact h1) (by rw [ez]; exact h2) (by rw [eln]; exact hz)
        (fun b hb => ?_) fun out ho eo => ?_
      · have : b.1 ∈ xs0 := by rw [← ez]; exact List.mem_map_of_mem hb
        have := (h3 _ this).1
        omega
      · obtain ⟨c, hat⟩ := sortedAll_at s.heap its out.toArray
        have vv := vals_each eo
        have hp : ∀ p ∈ (xs0.zip vs).mergeSort (PySem.W.dataLe false Prod.fst), Rp X.K R p.1 p.2 := fun p hp => rpA_zip ra p ((List.mergeSort_perm _ _).mem_iff.mp hp)
        have rr := rpA_pairs hp
        have e1 : ((xs0.zip vs).mergeSort (PySem.W.dataLe false Prod.fst)).map Prod.fst = sortD xs0 := by
          unfold sortD
          rw [PySem.W.sort_maps (r := PySem.W.dataLe false Prod.fst) (s := PySem.W.dataLe false id) Prod.fst (fun _ _ _ _ => rfl), ez]
        rw [e1] at rr
        have hln : (((xs0.zip vs).mergeSort (PySem.W.dataLe false Prod.fst)).map Prod.snd).length ≤ sizeLine := by
          rw [List.length_map, List.length_mergeSort, eln]; exact hz
        have hn : H (s.heap.objs.size + 1) = none := I.hok.fresh (Nat.le_succ _)
        exact ⟨.ref _, _, I.laid (t' := s.toks) (fun b o e => sortedAll_old e) (Nat.le_succ _) (show ObjOk X.prog X.w _ _ _ (.lst (((xs0.zip vs).mergeSort (PySem.W.dataLe false Prod.fst)).map Prod.snd)) from ⟨hln, out, c, vv, hat⟩), rfl, q.list sb hn rr⟩
    · cases hz
  · -- a dict
    rename_i ds0
    split at hz
    · rename_i ks hk
      split at hz
      · rename_i h64; cases hz
        have h64 := of_decide_eq_true h64
        obtain ⟨v, rfl, rv⟩ := rd.one
        obtain ⟨a, kvs, rfl, ha, ra⟩ := rv.dict sb
        refine call_sortedD hc pins s σ H _ us Q I r ⟨a, kvs, ks, rfl, ha, strs_keys ra hk, h64, fun ys p hp hs n => ?_⟩
        have e1 : sortD (ks.map PyData.str) = ys.map PyData.str := by
          unfold sortD
          rw [← PySem.W.sort_maps (r := fun a b : Str => decide (a.cps.toList ≤ b.cps.toList)) PyData.str (fun a _ b _ => ?_)]
          · refine congrArg (List.map PyData.str) (sorted_uniq ((List.mergeSort_perm _ _).trans hp.symm) ?_ (sortedS_pw hs))
            have := List.pairwise_mergeSort (le := fun a b : Str => decide (a.cps.toList ≤ b.cps.toList)) (fun a b c h1 h2 => decide_eq_true (List.le_trans (of_decide_eq_true h1) (of_decide_eq_true h2)))
              (fun a b => by rw [Bool.or_eq_true]; rcases List.le_total a.cps.toList b.cps.toList with h | h <;> simp [h]) ks
            exact this.imp fun h => of_decide_eq_true h
          · show decide _ = (!PySem.W.dataLt (.str b) (.str a))
            rw [PySem.W.dataLt_str, PySem.W.not_lt_str]
        rw [e1] at q
        refine q.list sb n ?_
        have key : ∀ ys : List Str, RpA X.K R (ys.map PyData.str) (ys.map V.str) := by
          intro ys
          induction ys with
          | nil => exact .nil
          | cons y ys ih => exact .cons (.str _) ih
        exact key ys
      · cases hz
    · cases hz
  · cases hz

theorem cr_blt (hc : X.calm = true) (hu : X.A.units + 65 < cLine) (b : Blt) (hb : b ≠ .lenset ∧ b ≠ .sortedset ∧ b ≠ .sorted ∧ ∀ t, b ≠ .isi t) : CallR X (fnB b) (rBlt X.K b) := by
  intro pins s σ H xs us Q I r h
  obtain ⟨wa, R, ds, z, sb, rd, hz, q⟩ := h
  unfold bltD at hz
  split at hz
  · exact absurd rfl (hb.2.2.2 _)
  · cases hz
    obtain ⟨v, rfl, rv⟩ := rd.one
    obtain ⟨a, vs, rfl, ha, ra⟩ := rv.list sb
    exact call_len_seq pins s σ H _ us Q I r ⟨a, vs, rfl, .inl ha, by rw [← ra.length]; exact q.same sb (.int _)⟩
  · cases hz
    obtain ⟨v, rfl, rv⟩ := rd.one
    obtain ⟨a, vs, rfl, ha, ra⟩ := rv.tuple sb
    exact call_len_seq pins s σ H _ us Q I r ⟨a, vs, rfl, .inr ha, by rw [← ra.length]; exact q.same sb (.int _)⟩
  · cases hz
    obtain ⟨v, rfl, rv⟩ := rd.one
    obtain ⟨a, vs, rfl, ha, ra⟩ := rv.dict sb
    obtain ⟨u, rfl, ru⟩ := vals1 r
    cases ru
    refine d_len I ha fun t s' I' => ⟨.int vs.length, H, I', ⟨t, rfl⟩, ?_⟩
    rw [← ra.length]; exact q.same sb (.int _)
  · cases hz
    obtain ⟨v, rfl, rv⟩ := rd.one
    cases rv.int
    exact call_abs pins s σ H _ us Q I r ⟨_, rfl, q.same sb (.int _)⟩
  · cases hz
    obtain ⟨v, rfl, rv⟩ := rd.one
    cases rv.int
    exact call_int1 pins s σ H _ us Q I r (.inl ⟨_, rfl, q.same sb (.int _)⟩)
  · cases hz
    obtain ⟨v, rfl, rv⟩ := rd.one
    cases rv.bl
    exact call_int1 pins s σ H _ us Q I r (.inr ⟨_, rfl, q.same sb (.int _)⟩)
  · obtain ⟨v, rfl, rv⟩ := rd.one
    obtain ⟨a, vs, rfl, ha, ra⟩ := rv.list sb
    simp only [Option.map_eq_some_iff, Option.bind_eq_some_iff] at hz
    obtain ⟨m, ⟨ns, e1, e2⟩, rfl⟩ := hz
    have ev := ints_of ra e1
    subst ev
    refine cr_max hc pins s σ H _ us Q I r ⟨a, ns, rfl, ha, ?_, fun k hk hm => ?_⟩
    · cases ns with
      | nil => cases e2
      | cons _ _ => simp
    · have := max_is e2 hk hm
      subst this
      exact q.same sb (.int _)
  · cases hz
    obtain ⟨v, w, rfl, rv, rw'⟩ := rd.two
    cases rv.int; cases rw'.int
    exact call_max2 hc pins s σ H _ us Q I r ⟨_, _, rfl, q.same sb (.int _)⟩
  · cases hz
    obtain ⟨v, w, rfl, rv, rw'⟩ := rd.two
    cases rv.int; cases rw'.int
    exact call_min2 hc pins s σ H _ us Q I r ⟨_, _, rfl, q.same sb (.int _)⟩
  · exact absurd rfl hb.2.2.1
  · cases hz
    obtain ⟨v, rfl, rv⟩ := rd.one
    obtain ⟨a, vs, rfl, ha, ra⟩ := rv.list sb
    exact call_tuple_of pins s σ H _ us Q I r ⟨a, vs, rfl, .inl ⟨ha, fun p n => q.tuple sb n ra⟩⟩
  · cases hz
    obtain ⟨v, rfl, rv⟩ := rd.one
    have hd' := rv.tupleR
    obtain ⟨a, vs, rfl, ha, ra⟩ := rv.tuple sb
    exact call_tuple_of pins s σ H _ us Q I r ⟨a, vs, rfl, .inr ⟨ha, q.same sb hd'⟩⟩
  · cases hz
    obtain ⟨v, rfl, rv⟩ := rd.one
    obtain ⟨a, vs, rfl, ha, ra⟩ := rv.list sb
    exact call_list_of pins s σ H _ us Q I r ⟨a, vs, rfl, .inl ha, fun p n => q.list sb n ra⟩
  · cases hz
    obtain ⟨v, rfl, rv⟩ := rd.one
    obtain ⟨a, vs, rfl, ha, ra⟩ := rv.tuple sb
    exact call_list_of pins s σ H _ us Q I r ⟨a, vs, rfl, .inr ha, fun p n => q.list sb n ra⟩
  · obtain ⟨v, rfl, rv⟩ := rd.one
    obtain ⟨a, vs, rfl, ha, ra⟩ := rv.list sb
    simp only [Option.map_eq_some_iff] at hz
    obtain ⟨ps, e1, rfl⟩ := hz
    obtain ⟨as, kvs, rfl, h1, h2⟩ := pairs_is ra e1 sb
    exact call_dictP hc pins s σ H _ us Q I r ⟨a, as, kvs, rfl, ha, h1, fun p n => q.dict sb n (h2.merge .nil)⟩
  · cases hz
    obtain ⟨v, rfl, rv⟩ := rd.one
    obtain ⟨a, vs, rfl, ha, ra⟩ := rv.dict sb
    obtain ⟨u, rfl, ru⟩ := vals1 r
    cases ru
    exact d_copyOf I ha fun p s' n I' => ⟨.ref p, _, I', rfl, q.dict sb n ra⟩
  · obtain ⟨v, rfl, rv⟩ := rd.one
    obtain ⟨a, vs, rfl, ha, ra⟩ := rv.list sb
    simp only [Option.map_eq_some_iff] at hz
    obtain ⟨ns, e1, rfl⟩ := hz
    have ev := ints_of ra e1
    subst ev
    exact cr_sum hc pins s σ H _ us Q I r ⟨a, ns, rfl, ha, q.same sb (.int _)⟩
  · obtain ⟨v, rfl, rv⟩ := rd.one
    obtain ⟨a, vs, rfl, ha, ra⟩ := rv.list sb
    simp only [Option.map_eq_some_iff] at hz
    obtain ⟨ns, e1, rfl⟩ := hz
    have ev := bools_of ra e1
    subst ev
    exact cr_all hc pins s σ H _ us Q I r ⟨a, ns, rfl, ha, q.same sb (.bl _)⟩
  · obtain ⟨v, rfl, rv⟩ := rd.one
    obtain ⟨a, vs, rfl, ha, ra⟩ := rv.list sb
    simp only [Option.map_eq_some_iff] at hz
    obtain ⟨ns, e1, rfl⟩ := hz
    have ev := bools_of ra e1
    subst ev
    exact cr_any hc pins s σ H _ us Q I r ⟨a, ns, rfl, ha, q.same sb (.bl _)⟩
  · exact absurd rfl hb.1
  · exact absurd rfl hb.2.1
  · cases hz
end
end PL

set_option Elab.async false
set_option linter.all false
set_option maxRecDepth 100000
set_option maxHeartbeats 2000000
set_option autoImplicit false
/-! PL4: expressions: what the evaluator says of them, by the layer's rules (one lemma a construct). -/
namespace PL
open PySem L2 PySem.Spec PyProof.Rows

/-! ### isinstance -/
def tyN : Ty → String
  | .int => "int" | .str => "str" | .bool => "bool" | .tuple => "tuple" | .list => "list" | .dict => "dict"
def kdN : D → String
  | .none => "NoneType" | .bool _ => "bool" | .int _ => "int" | .str _ => "str" | .list _ => "list" | .tuple _ => "tuple" | .dict _ => "dict"
theorem kit_all (t : Ty) (d : D) : kitB (kdN d) (tyN t) = some (isiD t d) := by
  cases d <;> cases t <;> (simp only [kdN, tyN, isiD]; decide +kernel)
section
variable {X : Cx} {pins : List (Addr × Obj)} {σ : L2.St} {H R : Hp} {wa : Option Addr} {s : Shared} {Q : VK}
theorem tyX_of {d : D} {x : V} (sb : Sub R H) (h : Rr X.K wa R H d x) : TyX X.K H x (.type (kdN d)) := by
  cases d with
  | none => cases h.non; exact .base .non
  | bool b => cases h.bl; exact .base (.bl _)
  | int b => cases h.int; exact .base (.int _)
  | str b => cases h.str; exact .base (.str _)
  | list xs =>
    obtain ⟨a, vs, rfl, (ha | ⟨o, ha⟩) | ⟨o, its, n, ha, hc, _⟩, _⟩ := h.list sb
    · exact .base (.lst ha)
    · exact .base (.frz ha)
    · exact .kList ha hc
  | tuple xs =>
    obtain ⟨a, vs, rfl, (ha | ⟨o, ha⟩) | ⟨o, its, n, ha, hc, _⟩, _⟩ := h.tuple sb
    · exact .base (.tup ha)
    · exact .fTuple ha
    · exact .kTuple ha hc
  | dict xs =>
    obtain ⟨a, vs, rfl, ha | ⟨o, ha⟩, _⟩ := h.dict sb
    · exact .base (.dK ha)
    · exact .fDict ha
theorem cr_isi (t : Ty) : CallR X (.builtin "isinstance") (fun xs H Q => ∃ wa R d x, Sub R H ∧ xs = [x, .ty (tyN t)] ∧ Rr X.K wa R H d x ∧ Q (.bl (isiD t d)) H) := by
  intro pins s σ H xs us Q I r h
  obtain ⟨wa, R, d, x, sb, rfl, hd, q⟩ := h
  exact call_isi pins s σ H _ us Q I r ⟨x, .ty (tyN t), _, _, _, rfl, .ty _, tyX_of sb hd, kit_ty (kit_all t d), q⟩
end

/-! ### judgements -/
section
variable (Φ : Fn) (G : Str → Option D) (K : PySem.W.Frag)
/-- wanted behind an expression that gives x -/
def Post (wa : Option Addr) (H R : Hp) (s' : W) (x : D) (Q : VK) : Prop := ∀ v H' R', Ex wa H R H' R' → Ws K R' H' wa s' → Rp K R' x v → Q v H'
def tEv (r : RE) : TE := fun σ H Q => ∃ ρ R wa s x s', Pre K σ H ρ R wa s ∧ ev Φ G ρ r s = some (x, s') ∧ Post K wa H R s' x Q
def tRd (r : RE) : TE := fun σ H Q => ∃ ρ R wa s x s', Pre K σ H ρ R wa s ∧ rdE ρ r (ev Φ G ρ r) s = some (x, s') ∧ ∀ v H' R', Ex wa H R H' R' → Ws K R' H' wa s' → Rr K wa R' H' x v → Q v H'
def tEvs (r : REs) : TA := fun σ H Q => ∃ ρ R wa s x s', Pre K σ H ρ R wa s ∧ evs Φ G ρ r s = some (x, s') ∧ ∀ v H' R', Ex wa H R H' R' → Ws K R' H' wa s' → RpA K R' x v → Q v H'
def tRds (r : REs) : TA := fun σ H Q => ∃ ρ R wa s x s', Pre K σ H ρ R wa s ∧ evRs Φ G ρ r s = some (x, s') ∧ ∀ v H' R', Ex wa H R H' R' → Ws K R' H' wa s' → RrA K wa R' H' x v → Q v H'
def tEvO (r : RO) : TO := fun σ H Q => ∃ ρ R wa s x s', Pre K σ H ρ R wa s ∧ evO Φ G ρ r s = some (x, s') ∧ ∀ H' R', Ex wa H R H' R' → Ws K R' H' wa s' → Q x H'
def tTr (r : RE) : TT := fun σ H Q => ∃ ρ R wa s b s', Pre K σ H ρ R wa s ∧ ev Φ G ρ r s = some (.bool b, s') ∧ ∀ H' R', Ex wa H R H' R' → Ws K R' H' wa s' → Q b H'
end
theorem PE.imp {X : Cx} {e : Expr} {t t' : TE} (h : PE X e t) (i : ∀ σ H Q, t' σ H Q → t σ H Q) : PE X e t' := ⟨fun pins s σ H Q I q => h.run pins s σ H Q I (i σ H Q q)⟩
theorem PT.imp {X : Cx} {e : Expr} {t t' : TT} (h : PT X e t) (i : ∀ σ H Q, t' σ H Q → t σ H Q) : PT X e t' := ⟨fun pins s σ H Q I q => h.run pins s σ H Q I (i σ H Q q)⟩
theorem PA.imp {X : Cx} {e : List Expr} {t t' : TA} (h : PA X e t) (i : ∀ σ H Q, t' σ H Q → t σ H Q) : PA X e t' := ⟨fun pos pins s σ H Q I q => h.run pos pins s σ H Q I (i σ H Q q)⟩
theorem PO.imp {X : Cx} {e : Option Expr} {t t' : TO} (h : PO X e t) (i : ∀ σ H Q, t' σ H Q → t σ H Q) : PO X e t' := ⟨fun pins s σ H Q I q => h.run pins s σ H Q I (i σ H Q q)⟩

section
variable {X : Cx} {Φ : Fn} {G : Str → Option D} {pos : Pos}

/-! ### constants, names -/
theorem sd_const {e : Expr} {r : RE} {x : D} {v : V} (he : PE X e (tC v)) (hr : ∀ ρ s, ev Φ G ρ r s = some (x, s)) (rv : ∀ R, Rp X.K R x v) : PE X e (tEv Φ G X.K r) :=
  PE.imp he fun σ H Q ⟨ρ, R, wa, s, x', s', p, h, q⟩ => by
    rw [hr] at h
    cases h
    exact q v H R (Ex.refl p.sub p.ws) p.ws (rv R)
theorem sd_v {e : Expr} {i : Nat} (he : PE X e (tVar i)) : PE X e (tEv Φ G X.K (.v i)) :=
  PE.imp he fun σ H Q ⟨ρ, R, wa, s, x, s', p, h, q⟩ => by
    unfold ev at h
    split at h
    · rename_i x' hx
      cases h
      obtain ⟨v, h1, h2⟩ := p.fz hx
      exact ⟨v, h1, q v H R (Ex.refl p.sub p.ws) p.ws h2⟩
    · cases h
theorem sr_v {e : Expr} {i : Nat} (he : PE X e (tVar i)) : PE X e (tRd Φ G X.K (.v i)) :=
  PE.imp he fun σ H Q ⟨ρ, R, wa, s, x, s', p, h, q⟩ => by
    unfold rdE at h
    simp only at h
    split at h
    · rename_i x' hx
      cases h
      obtain ⟨v, h1, h2⟩ := p.rd hx
      exact ⟨v, h1, q v H R (Ex.refl p.sub p.ws) p.ws h2⟩
    · cases h
theorem rdE_ne {ρ : Env} {r : RE} {k : W → Option (D × W)} {s : W} (h : ∀ i, r ≠ .v i) : rdE ρ r k s = k s := by
  unfold rdE
  split
  · exact absurd rfl (h _)
  · rfl
/-- any other expression, read -/
theorem sr_of {e : Expr} {r : RE} (n : ∀ i, r ≠ .v i) (he : PE X e (tEv Φ G X.K r)) : PE X e (tRd Φ G X.K r) :=
  PE.imp he fun σ H Q ⟨ρ, R, wa, s, x, s', p, h, q⟩ => by
    rw [rdE_ne n] at h
    exact ⟨ρ, R, wa, s, x, s', p, h, fun v H' R' e w r => q v H' R' e w (.rp r)⟩

/-! ### two operands -/
theorem sd_bin {a b : Expr} {ra rb : RE} {o : BOp} (ha : PE X a (tRd Φ G X.K ra)) (hb : PE X b (tRd Φ G X.K rb)) : PE X (.BinOp a (opB o) b pos) (tEv Φ G X.K (.bin o ra rb)) :=
  PE.imp (pe_op (op_bin o) ha hb) fun σ H Q ⟨ρ, R, wa, s, x, s', p, h, q⟩ => by
    unfold ev at h
    split at h
    · rename_i x1 s1 e1
      split at h
      · rename_i x2 s2 e2
        split at h
        · rename_i z ez
          cases h
          refine ⟨ρ, R, wa, s, x1, s1, p, e1, fun v1 H1 R1 E1 w1 r1 => ⟨ρ, R1, wa, s1, x2, _, p.ex E1 w1, e2, fun v2 H2 R2 E2 w2 r2 => ⟨wa, R2, x1, x2, _, E2.sub, r1.ex E2, r2, ez, fun v H' R' N r => ?_⟩⟩⟩
          exact q v H' R' ((E1.trans E2).trans (N.ex w2)) (w2.nw N) r
        · cases h
      · cases h
    · cases h
theorem sd_cmp (hu : X.A.units + 65 < cLine) {a b : Expr} {ra rb : RE} {o : COp} (hm : behindInMarks (opC o) b = false) (ha : PE X a (tRd Φ G X.K ra)) (hb : PE X b (tRd Φ G X.K rb)) : PE X (.Compare a [opC o] [b] pos) (tEv Φ G X.K (.cmp o ra rb)) :=
  PE.imp (pe_cmpR (op_cmp hu o) ha hb hm) fun σ H Q ⟨ρ, R, wa, s, x, s', p, h, q⟩ => by
    unfold ev at h
    split at h
    · rename_i x1 s1 e1
      split at h
      · rename_i x2 s2 e2
        split at h
        · rename_i z ez
          cases h
          refine ⟨ρ, R, wa, s, x1, s1, p, e1, fun v1 H1 R1 E1 w1 r1 => ⟨ρ, R1, wa, s1, x2, _, p.ex E1 w1, e2, fun v2 H2 R2 E2 w2 r2 => ⟨wa, R2, x1, x2, _, E2.sub, r1.ex E2, r2, ez, ?_⟩⟩⟩
          exact q _ _ _ (E1.trans E2) w2 (.bl _)
        · cases h
      · cases h
    · cases h
theorem st_cmp (hu : X.A.units + 65 < cLine) {a b : Expr} {ra rb : RE} {o : COp} (hm : behindInMarks (opC o) b = false) (ha : PE X a (tRd Φ G X.K ra)) (hb : PE X b (tRd Φ G X.K rb)) : PT X (.Compare a [opC o] [b] pos) (tTr Φ G X.K (.cmp o ra rb)) :=
  PT.imp (pt_cmpR (op_cmp hu o) ha hb hm) fun σ H Q ⟨ρ, R, wa, s, x, s', p, h, q⟩ => by
    unfold ev at h
    split at h
    · rename_i x1 s1 e1
      split at h
      · rename_i x2 s2 e2
        split at h
        · rename_i z ez
          cases h
          refine ⟨ρ, R, wa, s, x1, s1, p, e1, fun v1 H1 R1 E1 w1 r1 => ⟨ρ, R1, wa, s1, x2, _, p.ex E1 w1, e2, fun v2 H2 R2 E2 w2 r2 => ⟨wa, R2, x1, x2, _, E2.sub, r1.ex E2, r2, ez, ?_⟩⟩⟩
          exact ⟨_, rfl, q _ _ (E1.trans E2) w2⟩
        · cases h
      · cases h
    · cases h
theorem chain_read (hu : X.A.units + 65 < cLine) {ra rb rc : RE} {o o' : COp} {σ : L2.St} {H : Hp} {Q : VK} {ρ : Env} {R : Hp} {wa : Option Addr} {s s' : W} {b : Bool} (p : Pre X.K σ H ρ R wa s)
    (h : ev Φ G ρ (.cmp2 o o' ra rb rc) s = some (.bool b, s')) (q : ∀ H' R', Ex wa H R H' R' → Ws X.K R' H' wa s' → Q (.bl b) H') :
    tChain (rCmp X.K o) (rCmp X.K o') (tRd Φ G X.K ra) (tRd Φ G X.K rb) (tRd Φ G X.K rc) σ H Q := by
  unfold ev at h
  split at h
  · rename_i x1 s1 e1
    split at h
    · rename_i x2 s2 e2
      refine ⟨ρ, R, wa, s, x1, s1, p, e1, fun v1 H1 R1 E1 w1 r1 => ⟨ρ, R1, wa, s1, x2, s2, p.ex E1 w1, e2, fun v2 H2 R2 E2 w2 r2 => ?_⟩⟩
      split at h
      · rename_i ez
        refine ⟨wa, R2, x1, x2, true, E2.sub, r1.ex E2, r2, ez, true, rfl, ?_⟩
        split at h
        · rename_i x3 s3 e3
          show (if true = true then _ else _)
          rw [if_pos rfl]
          split at h
          · rename_i t et
            cases h
            exact ⟨ρ, R2, wa, s2, x3, _, (p.ex E1 w1).ex E2 w2, e3, fun v3 H3 R3 E3 w3 r3 => ⟨wa, R3, x2, x3, b, E3.sub, r2.ex E3, r3, et, q _ _ ((E1.trans E2).trans E3) w3⟩⟩
          · cases h
        · cases h
      · rename_i ez
        cases h
        refine ⟨wa, R2, x1, x2, false, E2.sub, r1.ex E2, r2, ez, false, rfl, ?_⟩
        show (if false = true then _ else _)
        rw [if_neg Bool.false_ne_true]
        exact q _ _ (E1.trans E2) w2
      · cases h
    · cases h
  · cases h
theorem cmp2_bool {ra rb rc : RE} {o o' : COp} {ρ : Env} {s s' : W} {x : D} (h : ev Φ G ρ (.cmp2 o o' ra rb rc) s = some (x, s')) : ∃ b, x = .bool b := by
  unfold ev at h
  split at h
  · split at h
    · split at h
      · split at h
        · split at h
          · cases h; exact ⟨_, rfl⟩
          · cases h
        · cases h
      · cases h; exact ⟨_, rfl⟩
      · cases h
    · cases h
  · cases h
theorem sd_cmp2 (hu : X.A.units + 65 < cLine) {a b c : Expr} {ra rb rc : RE} {o o' : COp} (hm : lastMarks [opC o, opC o'] [b, c] = false) (ha : PE X a (tRd Φ G X.K ra)) (hb : PE X b (tRd Φ G X.K rb)) (hc : PE X c (tRd Φ G X.K rc)) :
    PE X (.Compare a [opC o, opC o'] [b, c] pos) (tEv Φ G X.K (.cmp2 o o' ra rb rc)) :=
  PE.imp (pe_chain (op_cmp hu o) (op_cmp hu o') ha hb hc hm) fun σ H Q ⟨ρ, R, wa, s, x, s', p, h, q⟩ => by
    obtain ⟨b, rfl⟩ := cmp2_bool h
    exact chain_read hu p h fun H' R' E w => q _ _ _ E w (.bl _)
theorem st_cmp2 (hu : X.A.units + 65 < cLine) {a b c : Expr} {ra rb rc : RE} {o o' : COp} (hm : lastMarks [opC o, opC o'] [b, c] = false) (ha : PE X a (tRd Φ G X.K ra)) (hb : PE X b (tRd Φ G X.K rb)) (hc : PE X c (tRd Φ G X.K rc)) :
    PT X (.Compare a [opC o, opC o'] [b, c] pos) (tTr Φ G X.K (.cmp2 o o' ra rb rc)) :=
  PT.imp (pt_chain (op_cmp hu o) (op_cmp hu o') ha hb hc hm) fun σ H Q ⟨ρ, R, wa, s, b, s', p, h, q⟩ => chain_read hu p h fun H' R' E w => ⟨b, rfl, q _ _ E w⟩

/-! ### one operand, truth, choice -/
theorem sd_neg {a : Expr} {ra : RE} (ha : PE X a (tEv Φ G X.K ra)) : PE X (.UnaryOp .USub a pos) (tEv Φ G X.K (.neg ra)) :=
  PE.imp (pe_un un_neg ha) fun σ H Q ⟨ρ, R, wa, s, x, s', p, h, q⟩ => by
    unfold ev at h
    split at h
    · rename_i i s1 e1
      cases h
      refine ⟨ρ, R, wa, s, _, _, p, e1, fun v H' R' E w r => ?_⟩
      cases r
      exact ⟨i, rfl, q _ _ _ E w (.int _)⟩
    · cases h
theorem sd_and {a b : Expr} {rest : List Expr} {ra rb : RE} (ha : PE X a (tEv Φ G X.K ra)) (hb : PE X (.BoolOp .And (b :: rest) pos) (tEv Φ G X.K rb)) : PE X (.BoolOp .And (a :: b :: rest) pos) (tEv Φ G X.K (.and ra rb)) :=
  PE.imp (pe_and ha hb) fun σ H Q ⟨ρ, R, wa, s, x, s', p, h, q⟩ => by
    unfold ev at h
    split at h
    · rename_i s1 e1
      refine ⟨ρ, R, wa, s, _, _, p, e1, fun v H' R' E w r => ?_⟩
      cases r
      refine ⟨true, rfl, ?_⟩
      show (if true = true then _ else _)
      rw [if_pos rfl]
      exact ⟨ρ, R', wa, s1, x, s', p.ex E w, h, fun v2 H2 R2 E2 w2 r2 => q _ _ _ (E.trans E2) w2 r2⟩
    · rename_i s1 e1
      cases h
      refine ⟨ρ, R, wa, s, _, _, p, e1, fun v H' R' E w r => ?_⟩
      cases r
      refine ⟨false, rfl, ?_⟩
      show (if false = true then _ else _)
      rw [if_neg Bool.false_ne_true]
      exact q _ _ _ E w (.bl _)
    · cases h
theorem sd_or {a b : Expr} {rest : List Expr} {ra rb : RE} (ha : PE X a (tEv Φ G X.K ra)) (hb : PE X (.BoolOp .Or (b :: rest) pos) (tEv Φ G X.K rb)) : PE X (.BoolOp .Or (a :: b :: rest) pos) (tEv Φ G X.K (.or ra rb)) :=
  PE.imp (pe_or ha hb) fun σ H Q ⟨ρ, R, wa, s, x, s', p, h, q⟩ => by
    unfold ev at h
    split at h
    · rename_i s1 e1
      cases h
      refine ⟨ρ, R, wa, s, _, _, p, e1, fun v H' R' E w r => ?_⟩
      cases r
      refine ⟨true, rfl, ?_⟩
      show (if true = true then _ else _)
      rw [if_pos rfl]
      exact q _ _ _ E w (.bl _)
    · rename_i s1 e1
      refine ⟨ρ, R, wa, s, _, _, p, e1, fun v H' R' E w r => ?_⟩
      cases r
      refine ⟨false, rfl, ?_⟩
      show (if false = true then _ else _)
      rw [if_neg Bool.false_ne_true]
      exact ⟨ρ, R', wa, s1, x, s', p.ex E w, h, fun v2 H2 R2 E2 w2 r2 => q _ _ _ (E.trans E2) w2 r2⟩
    · cases h
theorem sd_not {a : Expr} {ra : RE} (ha : PE X a (tEv Φ G X.K ra)) : PE X (.UnaryOp .Not a pos) (tEv Φ G X.K (.not ra)) :=
  PE.imp (pe_not ha) fun σ H Q ⟨ρ, R, wa, s, x, s', p, h, q⟩ => by
    unfold ev at h
    split at h
    · rename_i t s1 e1
      cases h
      refine ⟨ρ, R, wa, s, _, _, p, e1, fun v H' R' E w r => ?_⟩
      cases r
      exact ⟨t, rfl, q _ _ _ E w (.bl _)⟩
    · cases h
theorem sd_ite {c a b : Expr} {rc ra rb : RE} (hc : PT X c (tTr Φ G X.K rc)) (ha : PE X a (tEv Φ G X.K ra)) (hb : PE X b (tEv Φ G X.K rb)) : PE X (.IfExp c a b pos) (tEv Φ G X.K (.ite rc ra rb)) :=
  PE.imp (pe_ifExp hc ha hb) fun σ H Q ⟨ρ, R, wa, s, x, s', p, h, q⟩ => by
    unfold ev at h
    split at h
    · rename_i s1 e1
      refine ⟨ρ, R, wa, s, true, _, p, e1, fun H' R' E w => ?_⟩
      show (if true = true then _ else _)
      rw [if_pos rfl]
      exact ⟨ρ, R', wa, s1, x, s', p.ex E w, h, fun v2 H2 R2 E2 w2 r2 => q _ _ _ (E.trans E2) w2 r2⟩
    · rename_i s1 e1
      refine ⟨ρ, R, wa, s, false, _, p, e1, fun H' R' E w => ?_⟩
      show (if false = true then _ else _)
      rw [if_neg Bool.false_ne_true]
      exact ⟨ρ, R', wa, s1, x, s', p.ex E w, h, fun v2 H2 R2 E2 w2 r2 => q _ _ _ (E.trans E2) w2 r2⟩
    · cases h
/-- a test of a plain form -/
theorem st_val {a : Expr} {ra : RE} (ha : PE X a (tEv Φ G X.K ra)) (he : ∀ whole, isTrue a X.env whole = (do let v ← whole; standAt a.pos; holding [v] (truthy v))) : PT X a (tTr Φ G X.K ra) :=
  PT.imp (pt_val ha he) fun σ H Q ⟨ρ, R, wa, s, b, s', p, h, q⟩ => ⟨ρ, R, wa, s, _, s', p, h, fun v H' R' E w r => by cases r; exact ⟨b, rfl, q _ _ E w⟩⟩
theorem st_not {a : Expr} {ra : RE} (ha : PT X a (tTr Φ G X.K ra)) : PT X (.UnaryOp .Not a pos) (tTr Φ G X.K (.not ra)) :=
  PT.imp (pt_not ha) fun σ H Q ⟨ρ, R, wa, s, b, s', p, h, q⟩ => by
    unfold ev at h
    split at h
    · rename_i t s1 e1
      cases h
      exact ⟨ρ, R, wa, s, t, _, p, e1, fun H' R' E w => q _ _ E w⟩
    · cases h
theorem sw_and {a b : Expr} {rest : List Expr} {ra rb : RE} (ha : PT X a (tTr Φ G X.K ra)) (hb : PW X (.BoolOp .And (b :: rest) pos) (tTr Φ G X.K rb)) : PW X (.BoolOp .And (a :: b :: rest) pos) (tTr Φ G X.K (.and ra rb)) := by
  refine ⟨fun wh pins s0 σ H Q I hh => (pw_and ha hb).run wh pins s0 σ H Q I ?_⟩
  obtain ⟨ρ, R, wa, s, b, s', p, h, q⟩ := hh
  unfold ev at h
  split at h
  · rename_i s1 e1
    refine ⟨ρ, R, wa, s, true, s1, p, e1, fun H' R' E w => ?_⟩
    show (if true = true then _ else _)
    rw [if_pos rfl]
    exact ⟨ρ, R', wa, s1, b, s', p.ex E w, h, fun H2 R2 E2 w2 => q _ _ (E.trans E2) w2⟩
  · rename_i s1 e1
    cases h
    refine ⟨ρ, R, wa, s, false, _, p, e1, fun H' R' E w => ?_⟩
    show (if false = true then _ else _)
    rw [if_neg Bool.false_ne_true]
    exact q _ _ E w
  · cases h
theorem sw_or {a b : Expr} {rest : List Expr} {ra rb : RE} (ha : PT X a (tTr Φ G X.K ra)) (hb : PW X (.BoolOp .Or (b :: rest) pos) (tTr Φ G X.K rb)) : PW X (.BoolOp .Or (a :: b :: rest) pos) (tTr Φ G X.K (.or ra rb)) := by
  refine ⟨fun wh pins s0 σ H Q I hh => (pw_or ha hb).run wh pins s0 σ H Q I ?_⟩
  obtain ⟨ρ, R, wa, s, b, s', p, h, q⟩ := hh
  unfold ev at h
  split at h
  · rename_i s1 e1
    cases h
    refine ⟨ρ, R, wa, s, true, _, p, e1, fun H' R' E w => ?_⟩
    show (if true = true then _ else _)
    rw [if_pos rfl]
    exact q _ _ E w
  · rename_i s1 e1
    refine ⟨ρ, R, wa, s, false, s1, p, e1, fun H' R' E w => ?_⟩
    show (if false = true then _ else _)
    rw [if_neg Bool.false_ne_true]
    exact ⟨ρ, R', wa, s1, b, s', p.ex E w, h, fun H2 R2 E2 w2 => q _ _ (E.trans E2) w2⟩
  · cases h
end
end PL

set_option Elab.async false
set_option linter.all false
set_option maxRecDepth 100000
set_option maxHeartbeats 2000000
set_option autoImplicit false
/-! PL5: expressions, second half: displays, indices, calls, comprehensions. -/
namespace PL
open PySem L2 PySem.Spec PyProof.Rows

/-! ### an object of one's own within an expression -/
section
variable {K : PySem.W.Frag} {wa : Option Addr} {H R H1 R1 H2 R2 : Hp} {s s1 : W} {p : Addr} {u o : HO}
theorem Ws.there {ds : KV} (w : Ws K R H wa (some ds)) : ∃ a kvs, wa = some a ∧ H a = some (.dK kvs) := by
  cases wa with
  | none => exact w.elim
  | some a => obtain ⟨_, kvs, h, _⟩ := w; exact ⟨a, kvs, rfl, h⟩
theorem Ws.ne (w : Ws K R H wa s) (n : H p = none) : wa ≠ some p := by
  intro e
  subst e
  cases s with
  | none => exact w.elim
  | some ds => obtain ⟨_, kvs, h, _⟩ := w; rw [n] at h; cases h
theorem sub_upd (h : Sub R H) (n : R p = none) : Sub R (upd H p u) := fun a v e => by
  have q : a ≠ p := fun z => by subst z; rw [n] at e; cases e
  rcases h a v e with z | ⟨o', z⟩
  · exact .inl (by rw [upd_ne q]; exact z)
  · exact .inr ⟨o', by rw [upd_ne q]; exact z⟩
/-- a store into a new object of one's own -/
theorem Ex.wr (a : Ex wa H R H1 R1) (n : H p = none) (m : R1 p = none) : Ex wa H R (upd H1 p u) R1 :=
  ⟨a.le, sub_upd a.sub m, fun b o' e w => by rw [upd_ne (ne_of_none e n)]; exact a.keep b o' e w, a.new, a.st⟩
theorem Ws.wr (w : Ws K R H wa s) (n : wa ≠ some p) : Ws K R (upd H p u) wa s := by
  cases wa with
  | none => cases s with
    | none => exact w
    | some _ => exact w
  | some q => cases s with
    | none => exact w
    | some ds =>
      obtain ⟨h1, kvs, h2, h3⟩ := w
      have z : q ≠ p := fun e => n (by rw [e])
      exact ⟨h1, kvs, by rw [upd_ne z]; exact h2, h3⟩
theorem le_upd (n : R p = none) : Le R (upd R p u) := fun a v e => by
  rw [upd_ne (fun z => by subst z; rw [n] at e; cases e)]
  exact e
/-- from now on it is never written -/
theorem Ex.done (a : Ex wa H R H1 R1) (n : H p = none) (m : R1 p = none) (h : H1 p = some u) (w : wa ≠ some p) : Ex wa H R H1 (upd R1 p u) := by
  refine ⟨a.le.trans (le_upd m), fun b v e => ?_, a.keep, fun b v e => ?_, fun q e => ?_⟩
  · by_cases z : b = p
    · subst z; rw [upd_same] at e; cases e; exact .inl h
    · rw [upd_ne z] at e; exact a.sub b v e
  · by_cases z : b = p
    · subst z; exact .inr n
    · rw [upd_ne z] at e; exact a.new b v e
  · have z : q ≠ p := fun z => w (by rw [← z]; exact e)
    rw [upd_ne z]
    exact a.st q e
theorem Ws.done (w : Ws K R H wa s) (n : wa ≠ some p) (m : R p = none) : Ws K (upd R p u) H wa s := by
  cases wa with
  | none => cases s with
    | none => exact w
    | some _ => exact w
  | some q => cases s with
    | none => exact w
    | some ds =>
      obtain ⟨h1, kvs, h2, h3⟩ := w
      have z : q ≠ p := fun e => n (by rw [e])
      exact ⟨by rw [upd_ne z]; exact h1, kvs, h2, h3.mono (le_upd m)⟩
/-- what an expression that makes an object p first may do -/
theorem Ex.from_new (a : Ex wa (upd H p o) R H1 R1) (n : H p = none) (rn : R p = none) : Ex wa H R H1 R1 ∧ R1 p = none :=
  ⟨⟨a.le, a.sub, fun b o' e w => a.keep b o' (by rw [upd_ne (ne_of_none e n)]; exact e) w, fun b v e => by
      rcases a.new b v e with z | z
      · exact .inl z
      · refine .inr ?_
        by_cases q : b = p
        · subst q; exact n
        · rw [upd_ne q] at z; exact z, a.st⟩, a.out rn upd_same⟩
theorem rn_of (h : Sub R H) (n : H p = none) : R p = none := by
  cases e : R p with
  | none => rfl
  | some v => rcases h p v e with q | ⟨_, q⟩ <;> (rw [n] at q; cases q)
end

section
variable {X : Cx} {Φ : Fn} {G : Str → Option D} {pos : Pos}
def REs.len : REs → Nat
  | .nil => 0
  | .cons _ r => r.len + 1
theorem evs_len {ρ : Env} : ∀ {r : REs} {s s' : W} {xs : List D}, evs Φ G ρ r s = some (xs, s') → xs.length = r.len
  | .nil, _, _, _, h => by unfold evs at h; cases h; rfl
  | .cons e r, s, s', xs, h => by
    unfold evs at h
    split at h
    · split at h
      · rename_i e2
        cases h
        rw [List.length_cons, evs_len e2]; rfl
      · cases h
    · cases h

/-! ### lists of expressions -/
theorem sa_nil : PA X [] (tEvs Φ G X.K .nil) :=
  PA.imp pa_nil fun σ H Q ⟨ρ, R, wa, s, x, s', p, h, q⟩ => by
    unfold evs at h
    cases h
    exact q _ H R (Ex.refl p.sub p.ws) p.ws .nil
theorem sa_cons {e : Expr} {es : List Expr} {r : RE} {rs : REs} (he : PE X e (tEv Φ G X.K r)) (hs : PA X es (tEvs Φ G X.K rs)) (st : starEach (e :: es) X.env = (false, eval e X.env) :: starEach es X.env) : PA X (e :: es) (tEvs Φ G X.K (.cons r rs)) :=
  PA.imp (pa_cons he hs st) fun σ H Q ⟨ρ, R, wa, s, x, s', p, h, q⟩ => by
    unfold evs at h
    split at h
    · rename_i x1 s1 e1
      split at h
      · rename_i xs s2 e2
        cases h
        exact ⟨ρ, R, wa, s, x1, s1, p, e1, fun v1 H1 R1 E1 w1 r1 => ⟨ρ, R1, wa, s1, xs, _, p.ex E1 w1, e2, fun v2 H2 R2 E2 w2 r2 => q _ _ _ (E1.trans E2) w2 (.cons (r1.mono E2.le) r2)⟩⟩
      · cases h
    · cases h
theorem RrA.ex {K : PySem.W.Frag} {wa : Option Addr} {H R H1 R1 : Hp} (a : Ex wa H R H1 R1) : ∀ {xs : List D} {vs : List V}, RrA K wa R H xs vs → RrA K wa R1 H1 xs vs
  | _, _, .nil => .nil
  | _, _, .cons h t => .cons (h.ex a) (RrA.ex a t)
theorem sar_nil : PA X [] (tRds Φ G X.K .nil) :=
  PA.imp pa_nil fun σ H Q ⟨ρ, R, wa, s, x, s', p, h, q⟩ => by
    unfold evRs at h
    cases h
    exact q _ H R (Ex.refl p.sub p.ws) p.ws .nil
theorem sar_cons {e : Expr} {es : List Expr} {r : RE} {rs : REs} (he : PE X e (tRd Φ G X.K r)) (hs : PA X es (tRds Φ G X.K rs)) (st : starEach (e :: es) X.env = (false, eval e X.env) :: starEach es X.env) : PA X (e :: es) (tRds Φ G X.K (.cons r rs)) :=
  PA.imp (pa_cons he hs st) fun σ H Q ⟨ρ, R, wa, s, x, s', p, h, q⟩ => by
    unfold evRs at h
    split at h
    · rename_i x1 s1 e1
      split at h
      · rename_i xs s2 e2
        cases h
        exact ⟨ρ, R, wa, s, x1, s1, p, e1, fun v1 H1 R1 E1 w1 r1 => ⟨ρ, R1, wa, s1, xs, _, p.ex E1 w1, e2, fun v2 H2 R2 E2 w2 r2 => q _ _ _ (E1.trans E2) w2 (.cons (r1.ex E2) r2)⟩⟩
      · cases h
    · cases h

/-! ### displays -/
theorem sd_tup {es : List Expr} {k : Nat} {rs : REs} (hn : rs.len ≤ 1000) (h : PA X es (tEvs Φ G X.K rs)) : PE X (.Tuple es k pos) (tEv Φ G X.K (.tup rs)) :=
  PE.imp (pe_tup h) fun σ H Q ⟨ρ, R, wa, s, x, s', p, h, q⟩ => by
    unfold ev at h
    split at h
    · rename_i xs s1 e1
      cases h
      refine ⟨ρ, R, wa, s, xs, _, p, e1, fun vs H1 R1 E1 w1 r1 => ⟨?_, fun a ha => ?_⟩⟩
      · rw [← r1.length, evs_len e1, sizeLine_eq]; omega
      · have nw := Nw.one (o := .tup vs) E1.sub ha
        exact q _ _ _ (E1.trans (nw.ex w1)) (w1.nw nw) (.tup (.inl upd_same) (r1.mono nw.le))
    · cases h
theorem sd_lst {es : List Expr} {rs : REs} (hn : rs.len ≤ 1000) (h : PA X es (tEvs Φ G X.K rs)) : PE X (.List es pos) (tEv Φ G X.K (.lst rs)) :=
  PE.imp (pe_lst h) fun σ H Q ⟨ρ, R, wa, s, x, s', p, h, q⟩ => by
    unfold ev at h
    split at h
    · rename_i xs s1 e1
      cases h
      refine ⟨ρ, R, wa, s, xs, _, p, e1, fun vs H1 R1 E1 w1 r1 => ⟨?_, fun a ha => ?_⟩⟩
      · rw [← r1.length, evs_len e1, sizeLine_eq]; omega
      · have nw := Nw.one (o := .lst vs) E1.sub ha
        exact q _ _ _ (E1.trans (nw.ex w1)) (w1.nw nw) (.lst (.inl upd_same) (r1.mono nw.le))
    · cases h
/-! ### a dict display: its keys are written texts -/
def tKvs (Φ : Fn) (G : Str → Option D) (K : PySem.W.Frag) : List Str → REs → List (TE × TE)
  | k :: ks, .cons e es => (tC (.str k), tEv Φ G K e) :: tKvs Φ G K ks es
  | _, _ => []
theorem kvs_read {K : PySem.W.Frag} {ρ : Env} {wa : Option Addr} {σ : L2.St} : ∀ {ks : List Str} {rs : REs} {H R : Hp} {s s' : W} {xs : List D} {Q : List (V × V) → Hp → Prop},
    ks.length = rs.len → Pre K σ H ρ R wa s → evs Φ G ρ rs s = some (xs, s') →
    (∀ vs H' R', Ex wa H R H' R' → Ws K R' H' wa s' → RpA K R' xs vs → Q ((ks.zip vs).map fun q => (V.str q.1, q.2)) H') → tPairs (tKvs Φ G K ks rs) σ H Q
  | [], .nil, H, R, s, s', xs, Q, _, p, h, q => by
    unfold evs at h
    cases h
    exact q [] H R (Ex.refl p.sub p.ws) p.ws .nil
  | k :: ks, .cons e es, H, R, s, s', xs, Q, hl, p, h, q => by
    unfold evs at h
    split at h
    · rename_i x1 s1 e1
      split at h
      · rename_i xs2 s2 e2
        cases h
        refine ⟨ρ, R, wa, s, x1, s1, p, e1, fun v1 H1 R1 E1 w1 r1 => ?_⟩
        refine kvs_read (by simp only [List.length_cons, REs.len] at hl; omega) (p.ex E1 w1) e2 fun vs H2 R2 E2 w2 r2 => ?_
        exact q (v1 :: vs) H2 R2 (E1.trans E2) w2 (.cons (r1.mono E2.le) r2)
      · cases h
    · cases h
  | [], .cons _ _, _, _, _, _, _, _, hl, _, _, _ => by simp [REs.len] at hl
  | _ :: _, .nil, _, _, _, _, _, _, hl, _, _, _ => by simp [REs.len] at hl
theorem sd_dct {keys : List (Option Expr)} {values : List Expr} {ks : List Str} {rs : REs} (h : PPs X pos keys values (tKvs Φ G X.K ks rs)) (hall : keys.all (·.isSome) = true) (hl : keys.length = values.length) (h0 : keys ≠ []) (h15 : keys.length ≤ 15)
    (hk : ks.length = rs.len) (hks : ks.length ≤ 15) : PE X (.Dict keys values pos) (tEv Φ G X.K (.dct ks rs)) :=
  PE.imp (pe_disp h hall hl h0 h15) fun σ H Q ⟨ρ, R, wa, s, x, s', p, h, q⟩ => by
    unfold ev at h
    split at h
    · rename_i xs s1 e1
      cases h
      intro a ha
      have rn := rn_of p.sub ha
      have nw := Nw.mut (o := .dK []) p.sub ha
      refine kvs_read hk (p.ex (nw.ex p.ws) (p.ws.nw nw)) e1 fun vs H1 R1 E1 w1 r1 => ?_
      have wn := p.ws.ne ha
      obtain ⟨E2, rn2⟩ := E1.from_new ha rn
      refine ⟨E1.keep _ _ upd_same wn, (ks.map Sum.inr).zip vs, ?_, ?_, ?_⟩
      · rw [List.zip_map_left, List.map_map]; rfl
      · rw [List.length_zip, List.length_map]; omega
      · have m := RpP.merge (RpP.zip (ks.map Sum.inr) r1) (ds := []) (kvs := []) .nil
        have E3 := (E2.wr (u := .dK (mergeK [] ((ks.map Sum.inr).zip vs))) ha rn2)
        have w3 := w1.wr (u := .dK (mergeK [] ((ks.map Sum.inr).zip vs))) wn
        have E4 := E3.done ha rn2 upd_same wn
        exact q _ _ _ E4 (w3.done wn rn2) (.dct upd_same (m.mono (le_upd rn2)))
    · cases h
theorem sd_dct0 : PE X (.Dict [] [] pos) (tEv Φ G X.K (.dct [] .nil)) :=
  PE.imp pe_dnewK fun σ H Q ⟨ρ, R, wa, s, x, s', p, h, q⟩ => by
    unfold ev evs at h
    cases h
    intro a ha
    have nw := Nw.one (o := .dK []) p.sub ha
    exact q _ _ _ (nw.ex p.ws) (p.ws.nw nw) (.dct upd_same .nil)

/-! ### indices, slices -/
theorem To.fin {K : PySem.W.Frag} {wa : Option Addr} {H R H1 R1 : Hp} {s : W} {z : D} {Q : VK} (E : Ex wa H R H1 R1) (w : Ws K R1 H1 wa s) (q : ∀ v H' R', Ex wa H R H' R' → Ws K R' H' wa s → Rp K R' z v → Q v H') : To K H1 R1 z Q :=
  fun v H' R' nw r => q v H' R' (E.trans (nw.ex w)) (w.nw nw) r
theorem sd_ix (hu : X.A.units + 1 < cLine) {a b : Expr} {ra rb : RE} (ha : PE X a (tRd Φ G X.K ra)) (hb : PE X b (tEv Φ G X.K rb)) (hs : PlainIx b) : PE X (.Subscript a b pos) (tEv Φ G X.K (.ix ra rb)) :=
  PE.imp (pe_ix (ix_any hu) ha hb hs) fun σ H Q ⟨ρ, R, wa, s, x, s', p, h, q⟩ => by
    unfold ev at h
    split at h
    · rename_i x1 s1 e1
      split at h
      · rename_i x2 s2 e2
        split at h
        · rename_i z ez
          cases h
          exact ⟨ρ, R, wa, s, x1, s1, p, e1, fun v1 H1 R1 E1 w1 r1 => ⟨ρ, R1, wa, s1, x2, _, p.ex E1 w1, e2, fun v2 H2 R2 E2 w2 r2 => ⟨wa, R2, x1, x2, _, E2.sub, r1.ex E2, .rp r2, ez, To.fin (E1.trans E2) w2 q⟩⟩⟩
        · cases h
      · cases h
    · cases h
theorem so_no : PO X none (tEvO Φ G X.K .no) :=
  PO.imp po_none fun σ H Q ⟨ρ, R, wa, s, x, s', p, h, q⟩ => by
    unfold evO at h
    cases h
    exact q H R (Ex.refl p.sub p.ws) p.ws
theorem so_yes {e : Expr} {r : RE} (he : PE X e (tEv Φ G X.K r)) : PO X (some e) (tEvO Φ G X.K (.yes r)) :=
  PO.imp (po_some he) fun σ H Q ⟨ρ, R, wa, s, x, s', p, h, q⟩ => by
    unfold evO at h
    split at h
    · rename_i i s1 e1
      cases h
      exact ⟨ρ, R, wa, s, _, _, p, e1, fun v H' R' E w r => by cases r; exact ⟨i, rfl, q _ _ E w⟩⟩
    · cases h
theorem sd_sl {a : Expr} {lo hi : Option Expr} {ra : RE} {rl rh : RO} {p2 : Pos} (ha : PE X a (tRd Φ G X.K ra)) (hl : PO X lo (tEvO Φ G X.K rl)) (hh : PO X hi (tEvO Φ G X.K rh)) : PE X (.Subscript a (.Slice lo hi none p2) pos) (tEv Φ G X.K (.sl ra rl rh)) :=
  PE.imp (pe_slice sl_any ha hl hh) fun σ H Q ⟨ρ, R, wa, s, x, s', p, h, q⟩ => by
    unfold ev at h
    split at h
    · rename_i x1 s1 e1
      split at h
      · rename_i l s2 e2
        split at h
        · rename_i u s3 e3
          split at h
          · rename_i z ez
            cases h
            exact ⟨ρ, R, wa, s, x1, s1, p, e1, fun v1 H1 R1 E1 w1 r1 => ⟨ρ, R1, wa, s1, l, s2, p.ex E1 w1, e2, fun H2 R2 E2 w2 => ⟨ρ, R2, wa, s2, u, _, (p.ex E1 w1).ex E2 w2, e3, fun H3 R3 E3 w3 =>
              ⟨wa, R3, x1, _, E3.sub, (r1.ex E2).ex E3, ez, To.fin ((E1.trans E2).trans E3) w3 q⟩⟩⟩⟩
          · cases h
        · cases h
      · cases h
    · cases h

/-! ### calls -/
/-- what a def's call asks: its arguments, what it computes, its way out -/
def ArgsR (K : PySem.W.Frag) (usesW : Bool) (wa : Option Addr) (R : Hp) (xs : List D) (vs : List V) : Prop :=
  if usesW then ∃ a vs', vs = .ref a :: vs' ∧ wa = some a ∧ RpA K R xs vs' else RpA K R xs vs
def spF (K : PySem.W.Frag) (Φ : Fn) (f : Str) (usesW : Bool) (n : Nat) : Sp := fun vs H Q _ => vs.length = n ∧ ∃ R wa s xs x s', Sub R H ∧ Ws K R H wa s ∧ ArgsR K usesW wa R xs vs ∧ Φ f xs s = some (x, s') ∧
  ∀ v H' R', Ex wa H R H' R' → Ws K R' H' wa s' → Rp K R' x v → Q v H'
theorem sd_call {CX : CXT} {k : Nat} {fa : Addr} {fd : FuncData} {ps : List Str} {f : Str} {e : Expr} {es : List Expr} {rs : REs} {p : Pos} (F : FnOk X.prog X.w X.K X.mg X.base CX0 k fa fd ps (spF X.K Φ f false ps.length)) (hr : Room k X.A) (hg : Gl X f) (hm : X.mg f = some (.ref fa)) (hk : PySem.W.keepIn X.K (.ref fa) = true)
    (hb : Binds X.K fd ps []) (ha : PA X (e :: es) (tEvs Φ G X.K rs)) (hl : rs.len = ps.length) (hdb : (f == ("__debug__" : Str)) = false) (he : starEach (e :: es) X.env = (false, eval e X.env) :: starEach es X.env) (hpl : (backTo pos (starEach es X.env)).any (·.1) = false) :
    PE X (.Call (.Name f p) (e :: es) [] pos) (tEv Φ G X.K (.call f rs)) :=
  PE.imp (pe_call (E := fun _ _ _ => False) F hr hg hm hk hb .nil pass0 ha hdb he hpl) fun σ H Q ⟨ρ, R, wa, s, x, s', p, h, q⟩ => by
    unfold ev at h
    split at h
    · rename_i xs s1 e1
      refine ⟨ρ, R, wa, s, xs, s1, p, e1, fun vs H1 R1 E1 w1 r1 => ?_⟩
      show spF X.K Φ f false ps.length (vs ++ []) H1 Q _
      rw [List.append_nil]
      refine ⟨by rw [← r1.length, evs_len e1, hl], R1, wa, s1, xs, x, s', E1.sub, w1, r1, h, fun v H' R' E w r => q v H' R' (E1.trans E) w r⟩
    · cases h
end
end PL

set_option Elab.async false
set_option linter.all false
set_option maxRecDepth 100000
set_option maxHeartbeats 2000000
set_option autoImplicit false
/-! PL6: expressions: calls of builtins and methods, the state's dict, iteration, comprehensions. -/
namespace PL
open PySem L2 PySem.Spec PyProof.Rows
section
variable {X : Cx} {Φ : Fn} {G : Str → Option D} {pos : Pos}
theorem sd_call0 {k : Nat} {fa : Addr} {fd : FuncData} {ps : List Str} {f : Str} {p : Pos} (F : FnOk X.prog X.w X.K X.mg X.base CX0 k fa fd ps (spF X.K Φ f false ps.length)) (hr : Room k X.A) (hg : Gl X f) (hm : X.mg f = some (.ref fa)) (hk : PySem.W.keepIn X.K (.ref fa) = true)
    (hb : Binds X.K fd ps []) (hl : 0 = ps.length) (hdb : (f == ("__debug__" : Str)) = false) : PE X (.Call (.Name f p) [] [] pos) (tEv Φ G X.K (.call f .nil)) :=
  PE.imp (pe_call0 (E := fun _ _ _ => False) F hr hg hm hk hb .nil pass0 hdb) fun σ H Q ⟨ρ, R, wa, s, x, s', p, h, q⟩ => by
    unfold ev evs at h
    exact ⟨hl, R, wa, s, [], x, s', p.sub, p.ws, .nil, h, q⟩
theorem sd_wcall {k : Nat} {fa : Addr} {fd : FuncData} {ps : List Str} {f : Str} {i : Nat} {e : Expr} {es : List Expr} {rs : REs} {p : Pos} (F : FnOk X.prog X.w X.K X.mg X.base CX0 k fa fd ps (spF X.K Φ f true ps.length)) (hr : Room k X.A) (hg : Gl X f) (hm : X.mg f = some (.ref fa)) (hk : PySem.W.keepIn X.K (.ref fa) = true)
    (hb : Binds X.K fd ps []) (hi : PE X e (tVar i)) (ha : PA X es (tEvs Φ G X.K rs)) (hl : rs.len + 1 = ps.length) (hdb : (f == ("__debug__" : Str)) = false) (he : starEach (e :: es) X.env = (false, eval e X.env) :: starEach es X.env) (hpl : (backTo pos (starEach es X.env)).any (·.1) = false) :
    PE X (.Call (.Name f p) (e :: es) [] pos) (tEv Φ G X.K (.wcall f i rs)) :=
  PE.imp (pe_call (E := fun _ _ _ => False) F hr hg hm hk hb .nil pass0 (pa_cons hi ha he) hdb he hpl) fun σ H Q ⟨ρ, R, wa, s, x, s', p, h, q⟩ => by
    unfold ev at h
    split at h
    · rename_i hst
      split at h
      · rename_i xs s1 e1
        obtain ⟨a, h1, h2, _⟩ := p.wst hst
        refine ⟨.ref a, h1, ρ, R, wa, s, xs, s1, p, e1, fun vs H1 R1 E1 w1 r1 => ?_⟩
        show spF X.K Φ f true ps.length ((.ref a :: vs) ++ []) H1 Q _
        rw [List.append_nil]
        refine ⟨by rw [List.length_cons, ← r1.length, evs_len e1, hl], R1, wa, s1, xs, x, s', E1.sub, w1, ⟨a, vs, rfl, h2, r1⟩, h, fun v H' R' E w r => q v H' R' (E1.trans E) w r⟩
      · cases h
    · cases h

/-! ### builtins -/
theorem blt_read {b : Blt} {rs : REs} {σ : L2.St} {H : Hp} {Q : VK} (h : tEv Φ G X.K (.blt b rs) σ H Q) : tCB (rBlt X.K b) (tRds Φ G X.K rs) σ H Q := by
  obtain ⟨ρ, R, wa, s, x, s', p, h, q⟩ := h
  unfold ev at h
  split at h
  · rename_i xs s1 e1
    split at h
    · rename_i z ez
      cases h
      exact ⟨ρ, R, wa, s, xs, _, p, e1, fun vs H1 R1 E1 w1 r1 => ⟨wa, R1, xs, _, E1.sub, r1, ez, To.fin E1 w1 q⟩⟩
    · cases h
  · cases h
/-- a builtin's name, as the table keeps it -/
def bltOk (X : Cx) (b : Blt) (x : Str) : Prop := bootBuiltins x = some (fnB b) ∧ CallR X (fnB b) (rBlt X.K b)
theorem sd_blt {b : Blt} {x : Str} {e : Expr} {es : List Expr} {rs : REs} {p : Pos} (hc : CallR X (fnB b) (rBlt X.K b)) (hg : Gl X x) (hm : X.mg x = none) (hv : bootBuiltins x = some (fnB b)) (ha : PA X (e :: es) (tRds Φ G X.K rs)) (hn : x ≠ "__name__") (hdb : (x == ("__debug__" : Str)) = false)
    (he : starEach (e :: es) X.env = (false, eval e X.env) :: starEach es X.env) (hpl : (backTo pos (starEach es X.env)).any (·.1) = false) : PE X (.Call (.Name x p) (e :: es) [] pos) (tEv Φ G X.K (.blt b rs)) := by
  cases e' : fnB b with
  | builtin id => rw [e'] at hc hv; exact PE.imp (pe_callB hc hg hm hv ha hn hdb he hpl) fun σ H Q h => blt_read h
  | type T => rw [e'] at hc hv; exact PE.imp (pe_callTy hc hg hm hv ha hn hdb he hpl) fun σ H Q h => blt_read h
  | _ => cases b <;> cases e'
theorem sd_isi {t : Ty} {e e2 : Expr} {r : RE} {p : Pos} (hg : Gl X "isinstance") (hm : X.mg "isinstance" = none) (h1 : PE X e (tRd Φ G X.K r)) (h2 : PE X e2 (tC (.ty (tyN t))))
    (he : starEach [e, e2] X.env = (false, eval e X.env) :: starEach [e2] X.env) (he2 : starEach [e2] X.env = (false, eval e2 X.env) :: starEach [] X.env) (hpl : (backTo pos (starEach [e2] X.env)).any (·.1) = false) :
    PE X (.Call (.Name "isinstance" p) [e, e2] [] pos) (tEv Φ G X.K (.blt (.isi t) (.cons r .nil))) :=
  PE.imp (pe_callB (cr_isi t) hg hm (by rfl) (pa_cons h1 (pa_cons h2 pa_nil he2) he) (by decide) (by decide) he hpl) fun σ H Q ⟨ρ, R, wa, s, x, s', p, h, q⟩ => by
    unfold ev at h
    split at h
    · rename_i xs s1 e1
      split at h
      · rename_i z ez
        cases h
        unfold evRs at e1
        split at e1
        · rename_i x1 s2 e2'
          unfold evRs at e1
          cases e1
          refine ⟨ρ, R, wa, s, x1, _, p, e2', fun v1 H1 R1 E1 w1 r1 => ?_⟩
          refine ⟨wa, R1, x1, v1, E1.sub, rfl, r1, ?_⟩
          cases ez
          exact q _ _ _ E1 w1 (.bl _)
        · cases e1
      · cases h
    · cases h

/-! ### methods -/
theorem rpA_strs {K : PySem.W.Frag} {R : Hp} : ∀ ys : List Str, RpA K R (ys.map .str) (ys.map V.str)
  | [] => .nil
  | _ :: ys => .cons (.str _) (rpA_strs ys)
theorem sd_split {a b : Expr} {ra rb : RE} {apos : Pos} (ha : PE X a (tEv Φ G X.K ra)) (hb : PE X b (tEv Φ G X.K rb)) (hs : starEach [b] X.env = [(false, eval b X.env)]) (hbase : attributeBase a "split" X.env (eval a X.env) = eval a X.env) (hline : (apos.endLine == pos.line) = true) :
    PE X (.Call (.Attribute a "split" apos) [b] [] pos) (tEv Φ G X.K (.split ra rb)) :=
  PE.imp (pe_split ha hb hs hbase hline) fun σ H Q ⟨ρ, R, wa, s, x, s', p, h, q⟩ => by
    unfold ev at h
    split at h
    · rename_i x1 s1 e1
      split at h
      · rename_i x2 s2 e2
        split at h
        · rename_i hc
          cases h
          rw [Bool.and_eq_true] at hc
          refine ⟨ρ, R, wa, s, _, s1, p, e1, fun v1 H1 R1 E1 w1 r1 => ?_⟩
          cases r1
          refine ⟨⟨_, rfl⟩, ρ, R1, wa, s1, _, _, p.ex E1 w1, e2, fun v2 H2 R2 E2 w2 r2 => ?_⟩
          cases r2
          refine ⟨x1, x2, rfl, rfl, ?_, lineOk_le hc.2, fun a ha => ?_⟩
          · simpa using hc.1
          · have nw := Nw.one (o := .lst ((Txt.split x1 x2).map V.str)) E2.sub ha
            exact q _ _ _ ((E1.trans E2).trans (nw.ex w2)) (w2.nw nw) (.lst (.inl upd_same) (rpA_strs _))
        · cases h
      · cases h
    · cases h
theorem get_read {K : PySem.W.Frag} {R H : Hp} {a : Addr} {kvs : List (Key × V)} {ds : KV} {k : Key} (hd : Rd H a (.dK kvs)) (r : RpK K R ds kvs) :
    DGet H a (kV k) (valV kvs k) ∧ ((dGet ds k = none ∧ valV kvs k = none) ∨ ∃ x v, dGet ds k = some x ∧ valV kvs k = some v ∧ Rp K R x v) := ⟨.inl ⟨kvs, k, hd, rfl, rfl⟩, r.get k⟩
theorem sd_get (hu : X.A.units + 1 < cLine) {a k d : Expr} {ra rk rd : RE} {apos : Pos} (ha : PE X a (tRd Φ G X.K ra)) (hk : PE X k (tEv Φ G X.K rk)) (hd : PE X d (tEv Φ G X.K rd)) (m : M2 X a "get" apos k d pos) :
    PE X (.Call (.Attribute a "get" apos) [k, d] [] pos) (tEv Φ G X.K (.get ra rk rd)) :=
  PE.imp (pe_dget2 hu ha hk hd m) fun σ H Q ⟨ρ, R, wa, s, x, s', p, h, q⟩ => by
    unfold ev at h
    split at h
    · rename_i ds s1 e1
      split at h
      · rename_i y s2 e2
        split at h
        · rename_i z s3 e3
          split at h
          · rename_i k' ek
            cases h
            refine ⟨ρ, R, wa, s, _, s1, p, e1, fun v1 H1 R1 E1 w1 r1 => ?_⟩
            obtain ⟨b, kvs, rfl, hb, rk'⟩ := r1.dict E1.sub
            refine ⟨b, rfl, .inl ⟨kvs, hb⟩, ρ, R1, wa, s1, y, s2, p.ex E1 w1, e2, fun v2 H2 R2 E2 w2 r2 => ⟨ρ, R2, wa, s2, z, _, (p.ex E1 w1).ex E2 w2, e3, fun v3 H3 R3 E3 w3 r3 => ?_⟩⟩
            have r1' := (r1.ex E2).ex E3
            obtain ⟨b', kvs', eb, hb', rk''⟩ := r1'.dict E3.sub
            cases eb
            rw [kOf_some ek] at r2
            have ey := rp_key r2
            subst ey
            obtain ⟨g1, g2⟩ := get_read (k := k') hb' rk''
            refine ⟨_, g1, ?_⟩
            rcases g2 with ⟨h1, h2⟩ | ⟨x', v', h1, h2, h3⟩
            · rw [h2]
              exact q _ _ _ ((E1.trans E2).trans E3) w3 (by rw [h1]; exact r3)
            · rw [h2]
              exact q _ _ _ ((E1.trans E2).trans E3) w3 (by rw [h1]; exact h3)
          · cases h
        · cases h
      · cases h
    · cases h
/-! ### the state's dict -/
theorem sd_wix (hu : X.A.units + 1 < cLine) {o k : Expr} {i : Nat} {ks : Str} (ho : PE X o (tVar i)) (hk : PE X k (tC (.str ks))) (hs : NoSl k) : PE X (.Subscript o k pos) (tEv Φ G X.K (.wix i ks)) :=
  PE.imp (pe_dget hu ho hk hs) fun σ H Q ⟨ρ, R, wa, s, x, s', p, h, q⟩ => by
    unfold ev at h
    split at h
    · rename_i hst
      split at h
      · rename_i ds
        split at h
        · rename_i z ez
          cases h
          obtain ⟨a, h1, h2, ds', kvs, h3, h4, h5⟩ := p.wst hst
          cases h3
          obtain ⟨g1, g2⟩ := get_read (k := .inr ks) (.inl h4) h5
          rcases g2 with ⟨z1, z2⟩ | ⟨x', v', z1, z2, z3⟩
          · rw [z1] at ez; cases ez
          · rw [z1] at ez
            cases ez
            rw [z2] at g1
            exact ⟨_, h1, a, v', rfl, g1, q v' H R (Ex.refl p.sub p.ws) p.ws z3⟩
        · cases h
      · cases h
    · cases h
theorem sd_wget (hu : X.A.units + 1 < cLine) {o k d : Expr} {i : Nat} {ks : Str} {rd : RE} {apos : Pos} (ho : PE X o (tVar i)) (hk : PE X k (tC (.str ks))) (hd : PE X d (tEv Φ G X.K rd)) (m : M2 X o "get" apos k d pos) :
    PE X (.Call (.Attribute o "get" apos) [k, d] [] pos) (tEv Φ G X.K (.wget i ks rd)) :=
  PE.imp (pe_dget2 hu ho hk hd m) fun σ H Q ⟨ρ, R, wa, s, x, s', p, h, q⟩ => by
    unfold ev at h
    split at h
    · rename_i hst
      split at h
      · rename_i z ds e1
        cases h
        obtain ⟨a, h1, h2, ds0, kvs0, _, h40, _⟩ := p.wst hst
        refine ⟨_, h1, a, rfl, .inl ⟨kvs0, .inl h40⟩, ρ, R, wa, s, z, _, p, e1, fun v1 H1 R1 E1 w1 r1 => ?_⟩
        obtain ⟨a', h1', h2', ds', kvs, h3, h4, h5⟩ := (p.ex E1 w1).wst hst
        rw [h1] at h1'
        cases h1'
        cases h3
        obtain ⟨g1, g2⟩ := get_read (k := .inr ks) (.inl h4) h5
        refine ⟨_, g1, ?_⟩
        rcases g2 with ⟨z1, z2⟩ | ⟨x', v', z1, z2, z3⟩
        · rw [z2]
          exact q _ _ _ E1 w1 (by rw [z1]; exact r1)
        · rw [z2]
          exact q _ _ _ E1 w1 (by rw [z1]; exact z3)
      · cases h
    · cases h
end

/-! ### iteration -/
def Lk (lk : Option (Addr × HO)) (H : Hp) : Prop := ∀ d o, lk = some (d, o) → H d = some o
theorem Lk.nil {H : Hp} : Lk none H := fun _ _ e => by cases e
/-- an iterator gives these data, one behind another -/
structure JOk (K : PySem.W.Frag) (lk : Option (Addr × HO)) (R1 : Hp) (J : It) (xs : List D) : Prop where
  len : xs.length ≤ sizeLine
  go : ∀ (i : Nat) (x : D) (H R : Hp), xs[i]? = some x → Le R1 R → Sub R H → Lk lk H → J.go i H ∧ ∀ v H', J.yld i H v H' → ∃ R', Nw H R H' R' ∧ Rp K R' x v
  stop : ∀ (H R : Hp), Le R1 R → Sub R H → Lk lk H → J.stop xs.length H
theorem JOk.mono {K : PySem.W.Frag} {lk : Option (Addr × HO)} {R1 R2 : Hp} {J : It} {xs : List D} (h : JOk K lk R1 J xs) (l : Le R1 R2) : JOk K lk R2 J xs := ⟨h.len, fun i x H R e l' => h.go i x H R e (l.trans l'), fun H R l' => h.stop H R (l.trans l')⟩
section
variable {K : PySem.W.Frag} {R : Hp}
theorem jok_list {a : Addr} {vs : List V} {xs : List D} (h : LiR K R a vs) (r : RpA K R xs vs) (l : vs.length ≤ sizeLine) : JOk K none R (Itl K a) xs := by
  refine ⟨by rw [r.length]; exact l, fun i x H R' e le sb _ => ?_, fun H R' le sb _ => ?_⟩
  · obtain ⟨v, h1, h2⟩ := r.get e
    have sq := (h.mono le).sq sb
    refine ⟨⟨vs, v, sq, h1⟩, fun v' H' ⟨e1, e2⟩ => ⟨R', ?_, ?_⟩⟩
    · rw [e1]; exact Nw.refl sb
    · have := e2 vs sq
      rw [h1] at this
      cases this
      exact h2.mono le
  · exact ⟨vs, (h.mono le).sq sb, by rw [r.length]; exact Nat.le_refl _⟩
theorem jok_tup {a : Addr} {vs : List V} {xs : List D} (h : TuR K R a vs) (r : RpA K R xs vs) (l : vs.length ≤ sizeLine) : JOk K none R (Itt K a) xs := by
  refine ⟨by rw [r.length]; exact l, fun i x H R' e le sb _ => ?_, fun H R' le sb _ => ?_⟩
  · obtain ⟨v, h1, h2⟩ := r.get e
    have sq := (h.mono le).sq sb
    refine ⟨⟨vs, v, sq, h1⟩, fun v' H' ⟨e1, e2⟩ => ⟨R', ?_, ?_⟩⟩
    · rw [e1]; exact Nw.refl sb
    · have := e2 vs sq
      rw [h1] at this
      cases this
      exact h2.mono le
  · exact ⟨vs, (h.mono le).sq sb, by rw [r.length]; exact Nat.le_refl _⟩
theorem rngD_len : ∀ (n : Nat) (lo : Int), (rngD lo n).length = n
  | 0, _ => rfl
  | n + 1, lo => by rw [rngD, List.length_cons, rngD_len n]
theorem rngD_get : ∀ (n : Nat) (lo : Int) (i : Nat) (x : D), (rngD lo n)[i]? = some x → i < n ∧ x = .int (lo + i)
  | 0, _, i, x, h => by simp [rngD] at h
  | n + 1, lo, 0, x, h => by simp [rngD] at h; exact ⟨Nat.succ_pos _, by rw [← h]; simp⟩
  | n + 1, lo, i + 1, x, h => by
    obtain ⟨h1, h2⟩ := rngD_get n (lo + 1) i x (by simpa [rngD] using h)
    refine ⟨Nat.succ_lt_succ h1, ?_⟩
    rw [h2]
    congr 1
    omega
theorem jok_rng (lo : Int) (n : Nat) (l : n ≤ 16777216) : JOk K none R (Itr lo n) (rngD lo n) := by
  refine ⟨by rw [rngD_len, sizeLine_eq]; exact l, fun i x H R' e le sb _ => ?_, fun H R' le sb _ => ?_⟩
  · obtain ⟨h1, h2⟩ := rngD_get _ _ _ _ e
    refine ⟨h1, fun v H' ⟨e1, e2⟩ => ⟨R', ?_, ?_⟩⟩
    · rw [e1]; exact Nw.refl sb
    · rw [h2, e2]; exact .int _
  · show n ≤ _
    rw [rngD_len]
    exact Nat.le_refl _
theorem enmD_len : ∀ (xs : List D) (k : Int), (enmD k xs).length = xs.length
  | [], _ => rfl
  | _ :: xs, k => by rw [enmD, List.length_cons, enmD_len xs, List.length_cons]
theorem enmD_get : ∀ (xs : List D) (k : Int) (i : Nat) (x : D), (enmD k xs)[i]? = some x → ∃ y, xs[i]? = some y ∧ x = .tuple [.int (k + i), y]
  | [], _, i, x, h => by simp [enmD] at h
  | y :: xs, k, 0, x, h => by simp [enmD] at h; exact ⟨y, rfl, by rw [← h]; simp⟩
  | y :: xs, k, i + 1, x, h => by
    obtain ⟨z, h1, h2⟩ := enmD_get xs (k + 1) i x (by simpa [enmD] using h)
    refine ⟨z, by simpa using h1, ?_⟩
    rw [h2]
    have : k + 1 + (i : Int) = k + ((i + 1 : Nat) : Int) := by omega
    rw [this]
theorem jok_enm {a : Addr} {vs : List V} {xs : List D} (h : LiR K R a vs) (r : RpA K R xs vs) (l : vs.length ≤ sizeLine) : JOk K none R (Ite K a) (enmD 0 xs) := by
  refine ⟨by rw [enmD_len, r.length]; exact l, fun i x H R' e le sb _ => ?_, fun H R' le sb _ => ?_⟩
  · obtain ⟨y, h1, h2⟩ := enmD_get _ _ _ _ e
    obtain ⟨v, h3, h4⟩ := r.get h1
    have sq := (h.mono le).sq sb
    refine ⟨⟨vs, v, sq, h3⟩, fun v' H' ⟨T, x', e1, e2, e3, e4⟩ => ?_⟩
    have := e4 vs sq
    rw [h3] at this
    cases this
    have nw := Nw.one (o := .tup [.int (i : Nat), v]) sb e2
    refine ⟨upd R' T (.tup [.int (i : Nat), v]), by rw [e3]; exact nw, ?_⟩
    rw [h2, e1]
    refine .tup (.inl upd_same) (.cons ?_ (.cons ((h4.mono le).mono nw.le) .nil))
    have : (0 : Int) + (i : Int) = ((i : Nat) : Int) := by omega
    rw [this]
    exact .int _
  · exact ⟨vs, (h.mono le).sq sb, by rw [enmD_len, r.length]; exact Nat.le_refl _⟩
theorem rpK_keys : ∀ {ds : KV} {kvs : List (Key × V)} {i : Nat} {x : D}, RpK K R ds kvs → (ds.map (·.1))[i]? = some x → ∃ k v, kvs[i]? = some (k, v) ∧ x = kD k
  | _, _, _, _, .nil, h => by simp at h
  | _, _, 0, _, .cons (k := k) (v := v) _ _, e => by simp at e; exact ⟨k, v, rfl, e.symm⟩
  | _, _, i + 1, x, .cons _ t, e => by
    obtain ⟨k', v', h1, h2⟩ := rpK_keys (i := i) (x := x) t (by simpa using e)
    exact ⟨k', v', by simpa using h1, h2⟩
theorem jok_keys {d : Addr} {o : Obj} {kvs : List (Key × V)} {ds : KV} (r : RpK K R ds kvs) (l : kvs.length ≤ sizeLine) : JOk K (some (d, .frz o (.dK kvs))) R (Itk d o kvs) (ds.map (·.1)) := by
  refine ⟨by rw [List.length_map, r.length]; exact l, fun i x H R' e le sb lk => ?_, fun H R' le sb lk => ?_⟩
  · obtain ⟨k, v, h1, h2⟩ := rpK_keys r e
    have hl : i < kvs.length := by
      have := List.getElem?_eq_some_iff.mp h1
      exact this.1
    refine ⟨⟨lk _ _ rfl, hl⟩, fun v' H' ⟨e1, k', v'', e2, e3⟩ => ⟨R', ?_, ?_⟩⟩
    · rw [e1]; exact Nw.refl sb
    · rw [h1] at e2
      cases e2
      rw [h2, e3]
      exact rp_kD k
  · exact ⟨lk _ _ rfl, by rw [List.length_map, r.length]; exact Nat.le_refl _⟩
end

/-! ### what is walked over -/
section
variable {X : Cx} {Φ : Fn} {G : Str → Option D} {pos : Pos} {tg : Expr}
/-- how long lists, tuples and dicts may be -/
def Len (K : PySem.W.Frag) (H : Hp) : Prop := (∀ a vs, SqL K H a vs → vs.length ≤ sizeLine) ∧ (∀ a vs, SqT K H a vs → vs.length ≤ sizeLine) ∧ ∀ a kvs, Rd H a (.dK kvs) → kvs.length ≤ sizeLine
theorem PE.len {e : Expr} {t : TE} (h : PE X e t) : PE X e (fun σ H Q => t σ H fun v H' => Len X.K H' → Q v H') := by
  refine ⟨fun pins s σ H Q I q => thn (h.run pins s σ H _ I q) fun v s1 ⟨x, H1, I1, r1, q1⟩ => ⟨x, H1, I1, r1, q1 ⟨fun a vs h => ?_, fun a vs h => ?_, fun a kvs h => ?_⟩⟩⟩
  · exact (I1.list h).choose_spec.2.2
  · exact (I1.tuple h).choose_spec.2.2
  · exact (h.ok I1.hok).1
/-- wanted of an iterator: it gives the data xs -/
def tIt (Φ : Fn) (G : Str → Option D) (K : PySem.W.Frag) (r : RI) : TI := fun σ H Q => ∃ ρ R wa s xs s', Pre K σ H ρ R wa s ∧ evI Φ G ρ r s = some (xs, s') ∧ ∀ J H' R', Ex wa H R H' R' → Ws K R' H' wa s' → JOk K none R' J xs → Q J H'
theorem PI.imp {e : Expr} {t t' : TI} (h : PI X tg e t) (i : ∀ σ H Q, t' σ H Q → t σ H Q) : PI X tg e t' := ⟨fun pins s σ H Q I q => h.run pins s σ H Q I (i σ H Q q)⟩
theorem PI.or {e : Expr} {t t' : TI} (h : PI X tg e t) (h' : PI X tg e t') : PI X tg e (fun σ H Q => t σ H Q ∨ t' σ H Q) := ⟨fun pins s σ H Q I q => q.elim (h.run pins s σ H Q I) (h'.run pins s σ H Q I)⟩
/-- a list or a tuple -/
def iSq (K : PySem.W.Frag) (te : TE) : TI := fun σ H R => te σ H fun x H1 => ∃ Rr d xs, Sub Rr H1 ∧ Rp K Rr d x ∧ seqOf d = some xs ∧ ∀ J, JOk K none Rr J xs → R J H1
theorem pi_sq {e : Expr} {te : TE} (he : PE X e te) : PI X tg e (iSq X.K te) := by
  refine ⟨fun pins s σ H R I h => ?_⟩
  refine thn (he.run pins s σ H _ I h) fun v s1 ⟨x, H1, I1, r1, q1⟩ => ?_
  obtain ⟨Rr, d, xs, sb, rp, ed, q⟩ := q1
  cases rp with
  | @lst a vs xs' h1 h2 =>
    cases ed
    have sq := h1.sq sb
    cases r1
    obtain ⟨its, rv, p, hz⟩ := I1.list sq
    refine wpAny_pyIter_list p.isList ?_
    refine ⟨s1.heap.objs.size, [s1.heap.objs.size], _, _, H1, rfl, I1.kept (t' := s1.toks) fun b o e => Heap.get?_push_of_some _ e, turn_list a _, ⟨_, Heap.get?_push_size _ rfl, rfl, rfl⟩, fun b hb => ?_, q _ (jok_list h1 h2 hz)⟩
    have e : b = s1.heap.objs.size := by simpa using hb
    subst e
    exact I1.fpOk (Nat.le_refl _) (I1.hok.fresh (Nat.le_refl _))
  | @tup a vs xs' h1 h2 =>
    cases ed
    have sq := h1.sq sb
    cases r1
    obtain ⟨its, rv, p, hz⟩ := I1.tuple sq
    refine wpAny_pyIter_tuple (show s1.heap.IsTuple a its.toArray from p) ?_
    refine ⟨s1.heap.objs.size, [s1.heap.objs.size], _, _, H1, rfl, I1.kept (t' := s1.toks) fun b o e => Heap.get?_push_of_some _ e, turn_tuple a _, ⟨_, Heap.get?_push_size _ rfl, rfl, rfl⟩, fun b hb => ?_, q _ (jok_tup h1 h2 hz)⟩
    have e : b = s1.heap.objs.size := by simpa using hb
    subst e
    exact I1.fpOk (Nat.le_refl _) (I1.hok.fresh (Nat.le_refl _))
  | _ => cases ed
theorem si_seq {e : Expr} {r : RE} (he : PE X e (tEv Φ G X.K r)) : PI X tg e (tIt Φ G X.K (.seq r)) :=
  PI.imp (pi_sq he) fun σ H Q ⟨ρ, R, wa, s, xs, s', p, h, q⟩ => by
    unfold evI at h
    split at h
    · rename_i d s1 e1
      split at h
      · rename_i ys ey
        cases h
        exact ⟨ρ, R, wa, s, d, _, p, e1, fun v H' R' E w r => ⟨R', d, _, E.sub, r, ey, fun J j => q J H' R' E w j⟩⟩
      · cases h
    · cases h
theorem si_rng1 {a : Expr} {r : RE} {p : Pos} (hg : Gl X "range") (hm : X.mg "range" = none) (ha : PE X a (tEv Φ G X.K r)) (hs : starEach [a] X.env = [(false, eval a X.env)]) : PI X tg (.Call (.Name "range" p) [a] [] pos) (tIt Φ G X.K (.rng1 r)) :=
  PI.imp (pi_range1 hg hm (pa_cons ha pa_nil hs) hs) fun σ H Q ⟨ρ, R, wa, s, xs, s', p, h, q⟩ => by
    unfold evI at h
    split at h
    · rename_i j s1 e1
      split at h
      · rename_i hc
        cases h
        simp only [Bool.and_eq_true, decide_eq_true_eq] at hc
        refine ⟨ρ, R, wa, s, _, _, p, e1, fun v H' R' E w r => ?_⟩
        cases r
        exact ⟨j, rfl, by omega, by omega, q _ _ _ E w (jok_rng 0 j.toNat (by omega))⟩
      · cases h
    · cases h
theorem si_rng2 {a b : Expr} {ra rb : RE} {p : Pos} (hg : Gl X "range") (hm : X.mg "range" = none) (ha : PE X a (tEv Φ G X.K ra)) (hb : PE X b (tEv Φ G X.K rb)) (hs : starEach [a, b] X.env = [(false, eval a X.env), (false, eval b X.env)])
    (hs2 : starEach [b] X.env = [(false, eval b X.env)]) : PI X tg (.Call (.Name "range" p) [a, b] [] pos) (tIt Φ G X.K (.rng2 ra rb)) :=
  PI.imp (pi_range2 hg hm (pa_cons ha (pa_cons hb pa_nil hs2) (by rw [hs, hs2])) hs hs2) fun σ H Q ⟨ρ, R, wa, s, xs, s', p, h, q⟩ => by
    unfold evI at h
    split at h
    · rename_i i s1 e1
      split at h
      · rename_i j s2 e2
        split at h
        · rename_i hc
          cases h
          simp only [Bool.and_eq_true, decide_eq_true_eq] at hc
          refine ⟨ρ, R, wa, s, _, s1, p, e1, fun v H' R' E w r => ?_⟩
          cases r
          refine ⟨ρ, R', wa, s1, _, _, p.ex E w, e2, fun v H2 R2 E2 w2 r2 => ?_⟩
          cases r2
          exact ⟨i, j, rfl, ⟨by omega, by omega, by omega, by omega⟩, q _ _ _ (E.trans E2) w2 (jok_rng i (j - i).toNat (by omega))⟩
        · cases h
      · cases h
    · cases h
end
end PL

set_option Elab.async false
set_option linter.all false
set_option maxRecDepth 100000
set_option maxHeartbeats 4000000
set_option autoImplicit false
/-! PL7: enumerate, a dict's keys, targets, comprehensions. -/
namespace PL
open PySem L2 PySem.Spec PyProof.Rows
open AutoSeq1 (wpAny_loadPart')

/-! ### enumerate over a tuple -/
theorem meets_enum_new1 {v : Value} {o : Obj} {H : Heap → Prop} (B : Begins v o H) :
    Meets (Builtin.«enumerate.__new__» ⟨[.type "enumerate", v], []⟩) (fun _ R s => H s.heap ∧
      R (.ok (.ret (.ref (s.heap.push o).objs.size))) { s with heap := (s.heap.push o).push { cls := .type "enumerate", data := .fields #[.none, .bool false, .ref s.heap.objs.size, rawInt 0, .none, .none] } }) :=
  .of_wp fun prog w A R s h => by
    obtain ⟨hp, g, d, tk, os⟩ := s; obtain ⟨h1, h⟩ := h
    have hsub := sub_enumerate
    have q1 : ∀ {A' : Around} {E : Value → Shared → Prop} {Q : Value → Shared → Prop}, Q (.ref hp.objs.size) ⟨hp.push o, g, d, tk, os⟩ → wpAny (model prog w) A' (pyIter v) Q E ⟨hp, g, d, tk, os⟩ :=
      fun q => B.iter prog w _ _ ⟨hp, g, d, tk, os⟩ _ h1 q
    wp_walk using q1
    refine wpAny_stack_any fun st => wpAny_pure ?_
    split
    · rename_i c _ _ _ _ _
      cases (c == Value.type "enumerate")
      · wp_walk using q1
        exact ⟨_, rfl, h⟩
      · wp_walk using q1
        exact ⟨_, rfl, h⟩
    · wp_walk using q1
      exact ⟨_, rfl, h⟩
theorem enum_begins1 {prog : Program} {w : World} {A : Around} {E : Value → Shared → Prop} {s : Shared} {v : Value} {o : Obj} {H : Heap → Prop} {Q : Value → Shared → Prop} (B : Begins v o H) (h1 : H s.heap)
    (h : ∀ h', IsEnum h' (s.heap.objs.size + 1) s.heap.objs.size 0 .none → h'.get? s.heap.objs.size = some o → h'.objs.size = s.heap.objs.size + 2 →
      (∀ b o, s.heap.get? b = some o → h'.get? b = some o) → Q (.ref (s.heap.objs.size + 1)) { s with heap := h' }) :
    wpAny (model prog w) A (call (.type "enumerate") [v]) Q E s := by
  refine callType_new F.called_enumerate (by decide) (F.typeCall_enumerate_1 _) (F.newCall_enumerate_1 _) (fun obj => F.args_object_init_2 obj _) F.entry_enumerate_new
    (meets_enum_new1 B) ⟨h1, ?_⟩
  have hz : (s.heap.push o).objs.size = s.heap.objs.size + 1 := Heap.size_push ..
  show _ ∧ _
  rw [hz]
  have he : IsEnum ((s.heap.push o).push { cls := .type "enumerate", data := .fields #[.none, .bool false, .ref s.heap.objs.size, rawInt 0, .none, .none] }) (s.heap.objs.size + 1) s.heap.objs.size 0 .none := by
    have := Heap.get?_push_size (s.heap.push o) (o := { cls := .type "enumerate", data := .fields #[.none, .bool false, .ref s.heap.objs.size, rawInt 0, .none, .none] }) rfl
    rw [hz] at this; exact this
  refine ⟨⟨_, he, rfl⟩, h _ he (Heap.get?_push_of_some _ (Heap.get?_push_size _ B.free)) (by rw [Heap.size_push, hz]) fun b o x => Heap.get?_push_of_some _ (Heap.get?_push_of_some _ x)⟩
def IteT (K : PySem.W.Frag) (a : Addr) : It :=
  ⟨fun i H => ∃ (xs : List V) (x : V), SqT K H a xs ∧ xs[i]? = some x, fun i H v H' => ∃ T x, v = .ref T ∧ H T = none ∧ H' = upd H T (.tup [.int (i : Nat), x]) ∧ ∀ xs, SqT K H a xs → xs[i]? = some x, fun i H => ∃ xs : List V, SqT K H a xs ∧ xs.length ≤ i⟩
theorem isTup_of {h : Heap} {a : Addr} {its : List Value} (t : IsTup h a its.toArray) : h.IsTuple a its.toArray := t
theorem turn_enumT {P : Program} {w : World} {K : PySem.W.Frag} {elts : List Expr} {kk : Nat} {tpos : Pos} (a e it : Addr) :
    Turn P w K (.Tuple elts kk tpos) (IteT K a) [e, it] e (fun i h => (∃ old, IsEnum h e it ((i : Nat) : Int) old) ∧ h.IsTupleIter it a i ∧ e ≠ it) where
  mem := by simp
  obj := fun i h st b hb => by
    obtain ⟨⟨old, he⟩, ⟨o, ho, hc, hd⟩, _⟩ := st
    have e' : b = e ∨ b = it := by simpa using hb
    rcases e' with z | z
    · rw [z]; exact ⟨_, he, fun v q => nomatch q⟩
    · rw [z]; exact ⟨o, ho, fun v q => by rw [hd] at q; cases q⟩
  keep := fun i h h' st k => let ⟨⟨old, he⟩, hi, hne⟩ := st; ⟨⟨old, k e (by simp) _ he⟩, hi.at fun o q => k it (by simp) o q, hne⟩
  item := by
    intro X hP hw hK hc i pins s σ H E I hf st hg
    subst hP hw hK
    obtain ⟨⟨old, he⟩, hit, hne⟩ := st
    obtain ⟨xs, x, hq, hx⟩ := hg
    obtain ⟨its, rv, p, hz⟩ := I.tuple hq
    obtain ⟨u, hu, ru⟩ := rv.get hx
    have hel : e < s.heap.objs.size := Heap.lt_size he
    have hil : it < s.heap.objs.size := by obtain ⟨_, q, _⟩ := hit; exact Heap.lt_size q
    have hia : a ≠ it := fun z => by
      obtain ⟨o1, q1, c1, _⟩ := hit
      obtain ⟨o2, q2, c2, _⟩ := isTup_of p
      rw [z, q1] at q2
      cases q2
      rw [c1] at c2
      exact absurd (Value.type.inj c2) (by decide)
    have hea : e ≠ a := fun z => by
      obtain ⟨o2, q2, c2, _⟩ := isTup_of p
      rw [← z, he] at q2
      cases q2
      exact absurd (Value.type.inj c2) (by decide)
    have dr : Draws X.prog X.w X.A.in1 it [it, a] its.toArray.size (fun i v => its.toArray[i]? = some v) (fun i h => h.IsTupleIter it a i ∧ h.IsTuple a its.toArray) := .tuple (show X.A.in1.handled = none from I.ok.hd hc) it a hia its.toArray
    have hlt : i < its.toArray.size := by
      have := List.getElem?_eq_some_iff.mp hu
      simpa using this.1
    refine wpAny_pyNext_enum_itemD dr he ⟨hit, isTup_of p⟩ hlt hne (by simp [hne, hea]) fun u' h' tk hu' ho hst' hT hsz hk => ?_
    have eu : u' = u := by
      have : its.toArray[i]? = some u := by simpa using hu
      rw [this] at hu'
      cases hu'
      rfl
    subst eu
    refine ⟨_, rfl, wpAny_letOwnedTupleGo_enum (s := { s with heap := h', toks := tk + 1 }) ho fun h'' he' sb => ?_⟩
    have hT2 : h''.get? s.heap.objs.size = some { cls := .type "tuple", data := .seq #[.int i tk, u'] } := (sb.2 _ (Nat.ne_of_gt hel)).trans hT
    have new : ObjOk X.prog X.w (upd H s.heap.objs.size (.tup [.int (i : Nat), x])) h'' s.heap.objs.size (.tup [.int (i : Nat), x]) :=
      ⟨by show 2 ≤ sizeLine; decide, [.int i tk, u'], .cons ⟨_, rfl⟩ (.cons ru .nil), ⟨_, hT2, rfl, _, rfl⟩⟩
    have I1 : Inv X pins σ (upd H s.heap.objs.size (.tup [.int (i : Nat), x])) { s with heap := h'', toks := tk + 1 } :=
      I.turnedNew (ch := [e, it]) (fun b ob hb q => (sb.2 b (fun z => hb (by simp [z]))).trans (hk b ob (fun z => hb (by simp [z])) (fun z => hb (by simp [z])) q)) hf (Nat.le_refl _) new
    refine ⟨.ref s.heap.objs.size, _, I1, rfl, ⟨_, x, rfl, I.hok.fresh (Nat.le_refl _), rfl, fun ys hy => by rw [I.tuple_inj hy hq]; exact hx⟩, ⟨⟨u', ?_⟩, hst'.1.at fun o q => (sb.2 it (Ne.symm hne)).trans q, hne⟩, fun b hb => ?_⟩
    · have e1 : ((i + 1 : Nat) : Int) = (i : Int) + 1 := by omega
      rw [e1]; exact he'
    · have hb' : b < s.heap.objs.size := by
        have e' : b = e ∨ b = it := by simpa using hb
        rcases e' with z | z
        · rw [z]; exact hel
        · rw [z]; exact hil
      rw [upd_ne (Nat.ne_of_lt hb')]
      exact (hf b hb).1
  done := by
    intro X hP hw hK hc i pins s σ H E I hf st hg
    subst hP hw hK
    obtain ⟨⟨old, he⟩, hit, hne⟩ := st
    obtain ⟨xs, hq, hx⟩ := hg
    obtain ⟨its, rv, p, hz⟩ := I.tuple hq
    obtain ⟨f0, f1, f2, f3, f4, f5⟩ := hf it (by simp)
    have hl := rv.length
    have hia : a ≠ it := fun z => by
      obtain ⟨o1, q1, c1, _⟩ := hit
      obtain ⟨o2, q2, c2, _⟩ := isTup_of p
      rw [z, q1] at q2
      cases q2
      rw [c1] at c2
      exact absurd (Value.type.inj c2) (by decide)
    have dr : Draws X.prog X.w X.A.in1 it [it, a] 0 (fun _ _ => True) (fun _ h => h.IsTupleIter it a i ∧ h.IsTuple a its.toArray) :=
      { live := fun _ _ st => let ⟨o, ho, _⟩ := st.1; ⟨o, ho⟩
        frame := fun _ _ _ st hk => ⟨st.1.at fun o e => hk it (by simp) o e, st.2.at fun o e => hk a (by simp) o e⟩
        item := fun j s Q E hi st hQ => absurd hi (Nat.not_lt_zero _)
        done := fun s Q E st hE => wpAny_nextOf_tuple_end (show X.A.in1.handled = none from I.ok.hd hc) st.1 st.2 (by simp; omega) hE }
    exact wpAny_pyNext_enum_endD dr he ⟨hit, isTup_of p⟩ fun h' eb => ⟨rfl, I.turned (t' := s.toks) (fun b o hb q => eb b o hb q) f0 f1 f3 f4 f5⟩
  self := fun A i s Q E st h => let ⟨⟨_, he⟩, _⟩ := st; wpAny_pyIter_enum he h
end PL

set_option Elab.async false
set_option linter.all false
set_option maxRecDepth 100000
set_option maxHeartbeats 4000000
set_option autoImplicit false
/-! PL7b: len(set(list)) of None, ints, texts. -/
namespace PL
open PySem L2 PySem.Spec PyProof.Rows
abbrev OK := Option Key
theorem dedup_snoc (ks : List OK) (k : OK) : dedupK (ks ++ [k]) = stepK (dedupK ks) k := by
  unfold dedupK; rw [List.foldl_append]; rfl
theorem stepK_len (σ : List OK) (v : OK) : (stepK σ v).length = if σ.any (fun a => decide (a = v)) then σ.length else σ.length + 1 := by
  unfold stepK; split <;> simp
theorem stepK_any (σ : List OK) (v k : OK) : (stepK σ v).any (fun a => decide (a = k)) = (σ.any (fun a => decide (a = k)) || decide (k = v)) := by
  unfold stepK
  by_cases h : σ.any (fun a => decide (a = v)) = true
  · rw [if_pos h]
    by_cases e : k = v
    · rw [e, h]; simp
    · simp [e]
  · rw [if_neg h, List.any_append]
    by_cases e : k = v
    · subst e; simp
    · have hb : ¬ v = k := fun h' : v = k => e h'.symm
      simp [hb, e]
theorem setOf_congr {prog : Program} {w : World} {knd : KeyKind prog w OK} {h : Heap} {a : Addr} {S S' : OK → Bool} {n n' : Nat} (hS : h.SetOf knd a S n) (e : ∀ k, S k = S' k) (en : n = n') : h.SetOf knd a S' n' := by
  have : S = S' := funext e
  subst this; subst en; exact hS
theorem dedup_le (ks : List OK) : (dedupK ks).length ≤ ks.length := by
  have h : ∀ (ks acc : List OK), (ks.foldl stepK acc).length ≤ acc.length + ks.length := by
    intro ks
    induction ks with
    | nil => intro acc; simp
    | cons k ks ih =>
      intro acc
      rw [List.foldl_cons, List.length_cons]
      have := ih (stepK acc k)
      rw [stepK_len] at this
      split at this <;> omega
  simpa [dedupK] using h ks []
theorem take_snoc {ks : List OK} {i : Nat} (h : i < ks.length) : ks.take (i + 1) = ks.take i ++ [ks.getD i none] := by
  rw [List.take_succ, List.getElem?_eq_getElem h]
  simp [List.getD_eq_getElem?_getD, List.getElem?_eq_getElem h]
theorem scan_of {k : OK} {v : Value} (h : nkIs k v = true) : v.scannable = true := by
  cases k with
  | none => have := nk_none h; subst this; rfl
  | some k =>
    rcases keyIs_shape (show keyIs k v = true from h) with ⟨_, _, _, rfl⟩ | ⟨_, _, _, rfl⟩ <;> rfl
section
variable {prog : Program} {w : World} {A : Around} {R : Result → Shared → Prop} {I : Addr} {fp wr : List Addr} {G : Array GenState → Array GenState → Prop} {n : Nat} {P : Nat → Value → Prop} {St : Nat → Shared → Prop}
theorem loopK (W : WalksS prog w A.in1 I fp wr G n P St) (S : Addr) (hSf : S ∉ fp) (xs : List OK) (hsz : xs.length = n) (hb : n + 1 < scanBound)
    (hval : ∀ i v, i < n → P i v → nkIs (xs.getD i none) v = true) :
    ∀ (k i : Nat) (s : Shared), n - i = k → i ≤ n → St i s →
      s.heap.SetOf (noneKind prog w) S (fun k' => (dedupK (xs.take i)).any (fun a => decide (a = k'))) (dedupK (xs.take i)).length →
      (∀ s', Moved (S :: wr) G s s' → s'.heap.SetOf (noneKind prog w) S (fun k' => (dedupK (xs.take n)).any (fun a => decide (a = k'))) (dedupK (xs.take n)).length → R (.ok (.ret .none)) s') →
      codeAny (model prog w) A (.builtin "set.update.loop" ⟨[.ref S, .ref I], []⟩) R s := by
  have hSw : S ∉ wr := fun h => hSf (W.sub _ h)
  have hsub : ∀ b ∈ wr, b ∈ S :: wr := fun b hb => List.mem_cons_of_mem _ hb
  intro k
  induction k with
  | zero =>
    intro i s hk hi hst hS hR
    have hin : i = n := by omega
    subst hin
    refine codeAny_builtin PyProof.Rows.F.entry_set_update_loop ?_
    rw [Around.under_plainId PyProof.Rows.F.plain_set_update_loop _]
    show wpAny _ A.in1 (pyNext (.ref I) >>= _) _ _ s
    refine wpAny_bind (W.done s _ _ hst fun s' hm => ?_)
    show wpAny _ A.in1 (ret Value.none) _ _ s'
    exact wpAny_pure (hR s' (hm.mono hsub) (by
      obtain ⟨o, es, ep, t, ho, rest⟩ := hS
      exact ⟨o, es, ep, t, hm.heap S _ hSw ho, rest⟩))
  | succ k ih =>
    intro i s hk hi hst hS hR
    have hlt : i < n := by omega
    refine codeAny_builtin PyProof.Rows.F.entry_set_update_loop ?_
    rw [Around.under_plainId PyProof.Rows.F.plain_set_update_loop _]
    show wpAny _ A.in1 (pyNext (.ref I) >>= _) _ _ s
    refine wpAny_bind (W.item i s _ _ hlt hst fun v s' hP hst' hm => ?_)
    have hv := hval i v hlt hP
    have hS' : s'.heap.SetOf (noneKind prog w) S (fun k' => (dedupK (xs.take i)).any (fun a => decide (a = k'))) (dedupK (xs.take i)).length := by
      obtain ⟨o, es, ep, tb, ho, rest⟩ := hS
      exact ⟨o, es, ep, tb, hm.heap S _ hSw ho, rest⟩
    show wpAny _ A.in1 (holding [v] (setAdd S v) >>= _) _ _ s'
    refine wpAny_bind (wpAny_holding ?_)
    unfold setAdd
    refine wpAny_holding ?_
    refine wpAny_bind ((noneKind prog w).pyHash (k := xs.getD i none) hv ?_)
    have hroom : (dedupK (xs.take i)).length + 1 < scanBound := by
      have := dedup_le (xs.take i)
      rw [List.length_take] at this
      omega
    refine wpAny_setAddHashed_of (knd := noneKind prog w) (s := { s' with toks := s'.toks + 1 }) hv (scan_of hv) hS' hroom fun h' hsb hS2 => ?_
    have hSi : h'.SetOf (noneKind prog w) S (fun k' => (dedupK (xs.take (i + 1))).any (fun a => decide (a = k'))) (dedupK (xs.take (i + 1))).length :=
      setOf_congr hS2 (fun k' => by rw [take_snoc (by omega), dedup_snoc, stepK_any]) (by rw [take_snoc (by omega), dedup_snoc, stepK_len])
    refine wpAny_pure ⟨plainId_quiet PyProof.Rows.F.plain_set_update_loop _, ih (i + 1) _ (by omega) hlt (W.frame _ s' _ _ hst' (Nat.le_succ _) fun b hb o e => ?_) hSi fun s'' hm'' hS'' => ?_⟩
    · rw [hsb.2 b (fun h : b = S => hSf (by rw [← h]; exact hb))]; exact e
    · refine hR s'' (Moved.trans W.gtrans ((hm.mono hsub).then_heap (Nat.le_succ _) fun b o hb e => ?_) hm'') hS''
      rw [hsb.2 b (fun h : b = S => hb (by rw [h]; exact List.mem_cons_self))]; exact e
end
section
variable {prog : Program} {w : World} {A : Around} {E : Value → Shared → Prop} {s : Shared}
set_option maxHeartbeats 3200000 in
theorem call_set_listK {l : Addr} {items : Array Value} {xs : List OK} {Q : Value → Shared → Prop}
    (hh : A.handled = none) (hl : s.heap.IsList l items) (hsz : xs.length = items.size) (hi : ∀ (i : Nat) (v : Value), items[i]? = some v → nkIs (xs.getD i none) v = true) (hb : items.size + 1 < scanBound)
    (h : ∀ (h' : Heap) (tk : Nat), h'.SetOf (noneKind prog w) s.heap.objs.size (fun k' => (dedupK xs).any (fun a => decide (a = k'))) (dedupK xs).length →
      (∀ b o, b < s.heap.objs.size → s.heap.get? b = some o → h'.get? b = some o) → Q (.ref s.heap.objs.size) { s with heap := h', toks := tk }) :
    wpAny (model prog w) A (call (.type "set") [.ref l]) Q E s := by
  obtain ⟨c, tl, hmro⟩ := PySem.F.called_set.mro
  have hmade := PySem.F.called_set.made
  have hsub := PySem.F.called_set.sub
  refine wpAny_call (codeAny_of_tree ?_)
  show wpAny _ _ (callAny (.type "set") _) _ _ _
  refine wpAny_pure ⟨Code.quiet_builtin _ (by decide +kernel), codeAny_builtin PySem.F.entry_type_call ?_⟩
  rw [Around.under_plain (weight_type_call_type "set" [.ref l] []) rfl]
  have h1 := PySem.F.called_set.notType
  have h2 := PySem.F.called_set.canCreate
  have hct := PySem.F.typeCall_set_1 (.ref l)
  repeat (any_goals (first | assumption | wp_step))

  refine codeAny_mono (code_set_new_1 (.ref l) (E := E) (Q₁ := fun obj s₁ => ∃ led : Bool, obj = .ref s.heap.objs.size ∧ s₁ = { s with heap := s.heap.push { cls := .type "set", dict := none, data := .set #[] 0 (.fresh 0 0 led) } }) fun led => ⟨led, rfl, rfl⟩) fun r s₁ hr => ?_
  cases r with
  | error e => exact hr
  | ok fl =>
    cases fl with
    | ret obj =>
      obtain ⟨led, rfl, rfl⟩ := hr
      have hS : (s.heap.push { cls := .type "set", dict := none, data := .set #[] 0 (.fresh 0 0 led) }).get? s.heap.objs.size = some { cls := .type "set", dict := none, data := .set #[] 0 (.fresh 0 0 led) } := Heap.get?_push_size _ rfl
      have hT : Shared.TypeIs { s with heap := s.heap.push { cls := .type "set", dict := none, data := .set #[] 0 (.fresh 0 0 led) } } (.ref s.heap.objs.size) "set" := ⟨_, hS, rfl⟩
      have hli := PySem.F.called_set.init.lookup
      have hbi := PySem.F.called_set.init.bind (.ref s.heap.objs.size)
      repeat (any_goals (first | assumption | wp_step))

      refine codeAny_mono (codeAny_call_builtin (R := wants (fun r s₂ => r = .none ∧ ∃ h' tk, s₂ = { s with heap := h', toks := tk } ∧
          h'.SetOf (noneKind prog w) s.heap.objs.size (fun k' => (dedupK xs).any (fun a => decide (a = k'))) (dedupK xs).length ∧
          (∀ b o, b < s.heap.objs.size → s.heap.get? b = some o → h'.get? b = some o)) E) PySem.F.called_set.init.plain PySem.F.entry_set_init (check_set_init_1 hT ?_)) fun r₂ s₂ hr₂ => ?_
      · obtain ⟨ol, hol, hcl, nl, hdl⟩ := hl
        obtain ⟨ocls, odict, odata, oslots⟩ := ol
        simp only at hcl hdl
        subst hcl; subst hdl
        have hol' : (s.heap.push { cls := .type "set", dict := none, data := .set #[] 0 (.fresh 0 0 led) }).get? l = some { cls := .type "list", dict := odict, data := .seq items nl, slots := oslots } := Heap.get?_push_of_some _ hol
        have hsls := PySem.F.sub_list_set
        have hslf := PySem.F.sub_list_frozenset
        have hne : (Value.type "list" == Value.type "dict") = false := by decide
        have hl1 : (s.heap.push { cls := .type "set", dict := none, data := .set #[] 0 (.fresh 0 0 led) }).IsList l items := ⟨_, hol', rfl, nl, rfl⟩
        unfold Builtin.«set.__init__» noKeywords Builtin.Frozenset.updateFrom
        generalize hPI : pyIter = PI
        wp_walk
        subst hPI

        refine wpAny_pyIter_list hl1 ?_
        refine wpAny_bind (wpAny_runValue ?_)
        have hlS : l < s.heap.objs.size := Heap.lt_size hol
        have hh3 : A.in1.in1.in1.handled = none := by simp [hh]
        have hneI : l ≠ (s.heap.push { cls := .type "set", dict := none, data := .set #[] 0 (.fresh 0 0 led) }).objs.size := by
          rw [Heap.size_push]; exact Nat.ne_of_lt (Nat.lt_succ_of_lt hlS)
        have hSf : s.heap.objs.size ∉ [(s.heap.push { cls := .type "set", dict := none, data := .set #[] 0 (.fresh 0 0 led) }).objs.size, l] := by
          rw [Heap.size_push]; simp only [List.mem_cons, List.mem_singleton, List.not_mem_nil, or_false, not_or]
          exact ⟨Nat.ne_of_lt (Nat.lt_succ_self _), Nat.ne_of_gt hlS⟩
        have hfull : xs.take items.size = xs := by rw [← hsz, List.take_length]
        refine loopK ((Walks.list hh3 _ l hneI items).toS) s.heap.objs.size
          hSf xs hsz hb (fun i v _ hv => hi i v hv) (items.size - 0) 0 _ (by omega) (Nat.zero_le _)
          ⟨⟨_, Heap.get?_push_size _ rfl, rfl, rfl⟩, (hl1.push _)⟩ ?hS0 ?hR
        case hS0 =>
          have hget : ((s.heap.push { cls := .type "set", dict := none, data := .set #[] 0 (.fresh 0 0 led) }).push { cls := .type "list_iterator", data := .fields #[.ref l, .int 0 0] }).get? s.heap.objs.size
              = some { cls := .type "set", dict := none, data := .set #[] 0 (.fresh 0 0 led) } := Heap.get?_push_of_some _ hS
          letI : BEq OK := instBEqOfDecidableEq
          exact setOf_congr ((PyProof.Rows.setObjOf_fresh (knd := noneKind prog w) led).setOf hget (by unfold scanBound; omega)) (fun _ => rfl) rfl
        case hR =>
          intro s' hm hS'
          rw [hfull] at hS'
          obtain ⟨h', g', d', tk', os'⟩ := s'
          have eg : g' = s.gens := hm.gens
          have ed : d' = s.drawn := hm.drawn
          have eo : os' = s.os := hm.os
          subst eg; subst ed; subst eo
          show wpAny _ _ _ _ _ _
          refine wpAny_pure ?_
          show wpAny _ _ (ret Value.none) _ _ _
          refine wpAny_pure ⟨rfl, h', tk', rfl, hS', fun b o hb e => ?_⟩
          have hb1 : b ≠ s.heap.objs.size := Nat.ne_of_lt hb
          have hb2 : b ≠ (s.heap.push { cls := .type "set", dict := none, data := .set #[] 0 (.fresh 0 0 led) }).objs.size := by
            rw [Heap.size_push]; exact Nat.ne_of_lt (Nat.lt_succ_of_lt hb)
          exact hm.heap b o (by simp only [List.mem_cons, List.mem_singleton, List.not_mem_nil, or_false, not_or]; exact ⟨hb1, hb2⟩) (Heap.get?_push_of_some _ (Heap.get?_push_of_some _ e))

      · cases r₂ with
        | error e => exact hr₂
        | ok fl₂ =>
          cases fl₂ with
          | ret r =>
            obtain ⟨rfl, h', tk, rfl, hS', hk'⟩ := hr₂
            repeat (any_goals (first | assumption | wp_step))
            exact h _ _ hS' hk'
          | _ => exact hr₂.elim
    | _ => exact hr.elim
end
section
variable {X : Cx} {Φ : Fn} {G : Str → Option D} {pos : Pos}
theorem okeys_at {K : PySem.W.Frag} {R : Hp} : ∀ {xs : List D} {vs : List V} {us : List Value} {ks : List OK}, RpA K R xs vs → Vals vs us → okeys xs = some ks → ks.length = us.length ∧ ∀ (i : Nat) (v : Value), us[i]? = some v → nkIs (ks.getD i none) v = true
  | _, _, _, ks, .nil, .nil, h => by cases h; exact ⟨rfl, fun i v e => by simp at e⟩
  | x :: xs, _, _, ks, .cons hx ht, .cons (b := u) r rr, h => by
    unfold okeys at h
    split at h
    · rename_i k ks' e1 e2
      cases h
      obtain ⟨l, q⟩ := okeys_at ht rr e2
      refine ⟨by rw [List.length_cons, List.length_cons, l], fun i v e => ?_⟩
      cases i with
      | zero =>
        simp at e
        subst e
        cases x with
        | none => cases e1; cases hx; cases r; rfl
        | int i => cases e1; cases hx; obtain ⟨t, rfl⟩ := r; exact keyIs_int _ t
        | str i => cases e1; cases hx; obtain ⟨t, rfl⟩ := r; exact keyIs_str _ t
        | _ => cases e1
      | succ i => exact q i v (by simpa using e)
    · cases h
theorem sd_lenset {a : Expr} {r : RE} {p p2 q : Pos} (hc : X.calm = true) (hg : Gl X "len") (hm : X.mg "len" = none) (hg2 : Gl X "set") (hm2 : X.mg "set" = none) (ha : PE X a (tRd Φ G X.K r))
    (na : starEach [a] X.env = (false, eval a X.env) :: starEach [] X.env) : PE X (.Call (.Name "len" p) [.Call (.Name "set" p2) [a] [] q] [] pos) (tEv Φ G X.K (.blt .lenset (.cons r .nil))) := by
  refine ⟨fun pins s σ H Q I h => ?_⟩
  obtain ⟨ρ, R, wa, s0, x, s', p, h, k⟩ := h
  unfold ev at h
  split at h
  · rename_i xs s1 e1
    split at h
    · rename_i z ez
      cases h
      unfold evRs at e1
      split at e1
      · rename_i x1 s2 e2
        unfold evRs at e1
        cases e1
        refine Call_ (ld_blt I hg hm boot_len ?_)
        refine PyProof.Rows.callWith_builtin1 (PyProof.Rows.args_cons ?_ rfl) rfl rfl
        refine Call_ (ld_blt I hg2 hm2 boot_set ?_)
        refine PyProof.Rows.callWith_type1 (PyProof.Rows.args_cons (thn (ha.run pins s σ H (fun v H' => ∃ R', Ex wa H R H' R' ∧ Ws X.K R' H' wa s' ∧ Rr X.K wa R' H' x1 v) I ⟨ρ, R, wa, s0, x1, _, p, e2, fun v H' R' E w rr => ⟨R', E, w, rr⟩⟩) fun v st1 ⟨y, H1, I1, r1, R1, E1, w1, rr⟩ => PyProof.Rows.args_nil ?_) na) na rfl
        cases x1 with
        | list ds =>
          simp only [bltD, lensetB] at ez
          split at ez
          · rename_i hl
            cases ek : okeys ds with
            | none => rw [ek] at ez; cases ez
            | some ks =>
              rw [ek] at ez
              cases ez
              obtain ⟨l, vs, rfl, hq, ra⟩ := rr.list E1.sub
              cases r1
              obtain ⟨its, rv, pl, hz⟩ := I1.list hq
              obtain ⟨q1, q2⟩ := okeys_at ra rv ek
              have hl' := of_decide_eq_true hl
              have el : its.toArray.size = ks.length := by rw [List.size_toArray, q1]
              have el2 : its.length = ds.length := by rw [← rv.length, ra.length]
              refine call_set_listK (I1.ok.hd hc) pl.isList el.symm (fun i v e => q2 i v (by simpa using e)) (by rw [List.size_toArray]; unfold scanBound; omega) fun h' tk hS hk => ?_
              refine PyProof.Rows.args_nil ?_
              obtain ⟨o, es, ep, t, ho, hex, hd, _, _, _, hf, hn⟩ := hS
              have I2 : Inv X pins σ H1 { st1 with heap := h', toks := tk } := I1.kept fun b o e => hk b o (Heap.lt_size e) e
              have dl := dedup_le ks
              exact call_len_set ho hex hd hf (by rw [hn]; omega) ⟨.int (dedupK ks).length, H1, I2.tok _, ⟨_, by rw [hn]⟩, k _ _ _ E1 w1 (.int _)⟩
          · cases ez
        | _ => simp [bltD, lensetB] at ez
      · cases e1
    · cases h
  · cases h
end
end PL

set_option Elab.async false
set_option linter.all false
set_option maxRecDepth 100000
set_option maxHeartbeats 4000000
set_option autoImplicit false
/-! PL8: enumerate, a dict's keys, targets, comprehensions. -/
namespace PL
open PySem L2 PySem.Spec PyProof.Rows

section
variable {K : PySem.W.Frag} {R : Hp}
theorem jok_enmT {a : Addr} {vs : List V} {xs : List D} (h : TuR K R a vs) (r : RpA K R xs vs) (l : vs.length ≤ sizeLine) : JOk K none R (IteT K a) (enmD 0 xs) := by
  refine ⟨by rw [enmD_len, r.length]; exact l, fun i x H R' e le sb _ => ?_, fun H R' le sb _ => ?_⟩
  · obtain ⟨y, h1, h2⟩ := enmD_get _ _ _ _ e
    obtain ⟨v, h3, h4⟩ := r.get h1
    have sq := (h.mono le).sq sb
    refine ⟨⟨vs, v, sq, h3⟩, fun v' H' ⟨T, x', e1, e2, e3, e4⟩ => ?_⟩
    have := e4 vs sq
    rw [h3] at this
    cases this
    have nw := Nw.one (o := .tup [.int (i : Nat), v]) sb e2
    refine ⟨upd R' T (.tup [.int (i : Nat), v]), by rw [e3]; exact nw, ?_⟩
    rw [h2, e1]
    refine .tup (.inl upd_same) (.cons ?_ (.cons ((h4.mono le).mono nw.le) .nil))
    have : (0 : Int) + (i : Int) = ((i : Nat) : Int) := by omega
    rw [this]
    exact .int _
  · exact ⟨vs, (h.mono le).sq sb, by rw [enmD_len, r.length]; exact Nat.le_refl _⟩
end
section
variable {X : Cx} {Φ : Fn} {G : Str → Option D} {pos : Pos} {tg : Expr}
def iEnm (K : PySem.W.Frag) (te : TA) : TI := fun σ H R => te σ H fun vs H1 => ∃ Rr d x xs, vs = [x] ∧ Sub Rr H1 ∧ Rp K Rr d x ∧ seqOf d = some xs ∧ ∀ J, JOk K none Rr J (enmD 0 xs) → R J H1
theorem pi_enm {e : Expr} {ta : TA} {p tpos : Pos} {elts : List Expr} {kk : Nat} (hg : Gl X "enumerate") (hm : X.mg "enumerate" = none) (ha : PA X [e] ta) (hs : starEach [e] X.env = [(false, eval e X.env)]) :
    PI X (.Tuple elts kk tpos) (.Call (.Name "enumerate" p) [e] [] pos) (iEnm X.K ta) := by
  refine ⟨fun pins s σ H R I h => ?_⟩
  refine Call_ (ld_blt I hg hm boot_enumerate (PyProof.Rows.callWith_type1 (thn (ha.run pos pins s σ H _ I h) fun us s1 ⟨vs, H1, I1, r1, q1⟩ => ?_) hs rfl))
  obtain ⟨Rr, d, x, xs, ex, sb, rp, ed, q⟩ := q1
  subst ex
  cases r1 with
  | cons r rr =>
    cases rr
    cases rp with
    | @lst a vs xs' h1 h2 =>
      cases ed
      cases r
      obtain ⟨its, rv, p', hz⟩ := I1.list (h1.sq sb)
      refine call_enumerate_list p'.isList fun h' he hit hsz hk => wpAny_pyIter_enum he ?_
      have I2 : Inv X pins σ H1 { s1 with heap := h' } := I1.kept (t' := s1.toks) hk
      refine ⟨s1.heap.objs.size + 1, [s1.heap.objs.size + 1, s1.heap.objs.size], _, _, H1, rfl, I2, turn_enum a (s1.heap.objs.size + 1) s1.heap.objs.size, ⟨⟨.none, he⟩, hit, Nat.succ_ne_self _⟩, fun b hb => ?_, q _ (jok_enm h1 h2 hz)⟩
      have e' : b = s1.heap.objs.size + 1 ∨ b = s1.heap.objs.size := by simpa using hb
      have hle : s1.heap.objs.size ≤ b := by
        rcases e' with z | z
        · rw [z]; exact Nat.le_add_right _ _
        · rw [z]; exact Nat.le_refl _
      exact I1.fpOk hle (I1.hok.fresh hle)
    | @tup a vs xs' h1 h2 =>
      cases ed
      cases r
      obtain ⟨its, rv, p', hz⟩ := I1.tuple (h1.sq sb)
      refine enum_begins1 (begins_tuple a its.toArray) (isTup_of p') fun h' he hit hsz hk => wpAny_pyIter_enum he ?_
      have I2 : Inv X pins σ H1 { s1 with heap := h' } := I1.kept (t' := s1.toks) hk
      refine ⟨s1.heap.objs.size + 1, [s1.heap.objs.size + 1, s1.heap.objs.size], _, _, H1, rfl, I2, turn_enumT a (s1.heap.objs.size + 1) s1.heap.objs.size, ⟨⟨.none, he⟩, ⟨_, hit, rfl, rfl⟩, Nat.succ_ne_self _⟩, fun b hb => ?_, q _ (jok_enmT h1 h2 hz)⟩
      have e' : b = s1.heap.objs.size + 1 ∨ b = s1.heap.objs.size := by simpa using hb
      have hle : s1.heap.objs.size ≤ b := by
        rcases e' with z | z
        · rw [z]; exact Nat.le_add_right _ _
        · rw [z]; exact Nat.le_refl _
      exact I1.fpOk hle (I1.hok.fresh hle)
    | _ => cases ed
theorem si_enm {e : Expr} {r : RE} {p tpos : Pos} {elts : List Expr} {kk : Nat} (hg : Gl X "enumerate") (hm : X.mg "enumerate" = none) (he : PE X e (tEv Φ G X.K r)) (hs : starEach [e] X.env = [(false, eval e X.env)]) :
    PI X (.Tuple elts kk tpos) (.Call (.Name "enumerate" p) [e] [] pos) (tIt Φ G X.K (.enm r)) :=
  PI.imp (pi_enm hg hm (pa_cons he pa_nil hs) hs) fun σ H Q ⟨ρ, R, wa, s, xs, s', p, h, q⟩ => by
    unfold evI at h
    split at h
    · rename_i d s1 e1
      split at h
      · rename_i ys ey
        cases h
        exact ⟨ρ, R, wa, s, d, _, p, e1, fun v H' R' E w r => ⟨R', d, v, _, rfl, E.sub, r, ey, fun J j => q J H' R' E w j⟩⟩
      · cases h
    · cases h

/-! ### the names' cells change -/
theorem wipe_get (σ : L2.St) (k : Nat) : ∀ vs : List Nat, (wipe σ vs)[k]? = if k ∈ vs ∧ k < σ.length then some none else σ[k]?
  | [] => by simp [wipe]
  | v :: vs => by
    rw [wipe, List.getElem?_set, wipe_length, wipe_get σ k vs]
    by_cases h : v = k
    · subst h
      by_cases l : v < σ.length
      · simp [l]
      · simp [l, List.getElem?_eq_none (Nat.le_of_not_lt l)]
    · have h' : ¬ k = v := fun e => h e.symm
      simp [h, h']
theorem wipe_wipe (σ : L2.St) (vs : List Nat) : wipe (wipe σ vs) vs = wipe σ vs := by
  refine List.ext_getElem? fun k => ?_
  rw [wipe_get, wipe_get, wipe_length]
  split <;> rfl
theorem wipe_set {σ : L2.St} {i : Nat} {v : Option V} {vs : List Nat} (h : i ∈ vs) : wipe (σ.set i v) vs = wipe σ vs := by
  refine List.ext_getElem? fun k => ?_
  rw [wipe_get, wipe_get, List.length_set, List.getElem?_set]
  by_cases e : i = k
  · subst e
    by_cases l : i < σ.length
    · simp [h, l]
    · simp [l, List.getElem?_eq_none (Nat.le_of_not_lt l)]
  · simp [e]
section
variable {K : PySem.W.Frag} {σ : L2.St} {H R : Hp} {ρ : Env} {wa : Option Addr} {s : W}
theorem Pre.set (p : Pre K σ H ρ R wa s) {i : Nat} {c : Cell} {v : Option V} (h : i < σ.length → CellR K R H wa c (some v)) : Pre K (σ.set i v) H (ρ.set i c) R wa s := by
  refine ⟨by rw [List.length_set, List.length_set]; exact p.len, fun j d e => ?_, p.sub, p.ws⟩
  rw [List.getElem?_set] at e
  by_cases q : i = j
  · subst q
    rw [if_pos rfl] at e
    by_cases l : i < ρ.length
    · rw [if_pos l] at e
      cases e
      have l' : i < σ.length := by rw [← p.len]; exact l
      rw [List.getElem?_set_self l']
      exact h l'
    · rw [if_neg l] at e
      cases e
  · rw [if_neg q] at e
    rw [List.getElem?_set_ne q]
    exact p.cells j d e
theorem Pre.setfz (p : Pre K σ H ρ R wa s) {i : Nat} {x : D} {v : V} (r : Rp K R x v) : Pre K (σ.set i (some v)) H (ρ.set i (.fz x)) R wa s := p.set fun _ => ⟨v, rfl, r⟩
theorem Pre.wipe (p : Pre K σ H ρ R wa s) : ∀ vs : List Nat, Pre K (wipe σ vs) H (wipeE ρ vs) R wa s
  | [] => p
  | v :: vs => (Pre.wipe p vs).set fun _ => trivial
end
/-! ### targets -/
def Tg.ixs : Tg → List Nat
  | .nm i => [i]
  | .tup is => is
/-- a target binds as bindT says -/
def gOk (K : PySem.W.Frag) (t : Tg) (g : TG) : Prop := ∀ (H R : Hp) (ρ ρ1 : Env) (σ : L2.St) (wa : Option Addr) (s : W) (x : D) (v : V) (Q : L2.St → Hp → Prop), Pre K σ H ρ R wa s → Rp K R x v → bindT t x ρ = some ρ1 →
  (∀ σ1, Pre K σ1 H ρ1 R wa s → (∀ vs, (∀ i ∈ t.ixs, i ∈ vs) → wipe σ1 vs = wipe σ vs) → (∀ j, j ∉ t.ixs → σ1[j]? = σ[j]?) → Q σ1 H) → g v σ H Q
theorem gok_nm {K : PySem.W.Frag} (i : Nat) : gOk K (.nm i) (gName i) := fun H R ρ ρ1 σ wa s x v Q p r h q => by
  cases h
  exact q _ (p.setfz r) (fun vs hv => wipe_set (hv i (by simp [Tg.ixs]))) fun j hj => List.getElem?_set_ne (by simp [Tg.ixs] at hj; exact fun e => hj e.symm)
def gNms : List Nat → TGs
  | [] => gNil
  | i :: is => gCons (gName i) (gNms is)
theorem gnms_ok {K : PySem.W.Frag} : ∀ {is : List Nat} {H R : Hp} {ρ ρ1 : Env} {σ : L2.St} {wa : Option Addr} {s : W} {xs : List D} {vs : List V} {Q : L2.St → Hp → Prop}, Pre K σ H ρ R wa s → RpA K R xs vs → setAll ρ is xs = some ρ1 →
    (∀ σ1, Pre K σ1 H ρ1 R wa s → (∀ vs, (∀ i ∈ is, i ∈ vs) → wipe σ1 vs = wipe σ vs) → (∀ j, j ∉ is → σ1[j]? = σ[j]?) → Q σ1 H) → gNms is vs σ H Q
  | [], H, R, ρ, ρ1, σ, wa, s, xs, vs, Q, p, r, h, q => by
    cases r with
    | nil => cases h; exact ⟨rfl, q _ p (fun _ _ => rfl) fun _ _ => rfl⟩
    | cons _ _ => cases h
  | i :: is, H, R, ρ, ρ1, σ, wa, s, xs, vs, Q, p, r, h, q => by
    cases r with
    | nil => cases h
    | @cons x v xs vs hx hr =>
      refine ⟨v, vs, rfl, ?_⟩
      refine gnms_ok (p.setfz hx) hr h fun σ1 p1 hw ho => q σ1 p1 (fun ws hv => ?_) fun j hj => ?_
      · rw [hw ws fun j hj => hv j (List.mem_cons_of_mem _ hj)]
        exact wipe_set (hv i List.mem_cons_self)
      · rw [ho j fun z => hj (List.mem_cons_of_mem _ z)]
        exact List.getElem?_set_ne fun e => hj (by rw [e]; exact List.mem_cons_self)
theorem setAll_len : ∀ {is : List Nat} {xs : List D} {ρ ρ1 : Env}, setAll ρ is xs = some ρ1 → xs.length = is.length
  | [], [], _, _, _ => rfl
  | [], _ :: _, _, _, h => by cases h
  | _ :: _, [], _, _, h => by cases h
  | _ :: is, _ :: xs, _, _, h => by rw [List.length_cons, List.length_cons, setAll_len (is := is) (xs := xs) h]
def gTupA (K : PySem.W.Frag) (is : List Nat) : TG := fun v σ H Q => gTup K is.length (gNms is) v σ H Q ∨ gUnl K is.length (gNms is) v σ H Q
theorem gok_tup {K : PySem.W.Frag} (is : List Nat) : gOk K (.tup is) (gTupA K is) := fun H R ρ ρ1 σ wa s x v Q p r h q => by
  cases r with
  | @tup a vs xs h1 h2 => exact .inl ⟨a, vs, rfl, h1.sq p.sub, by rw [← h2.length]; exact setAll_len h, gnms_ok p h2 h q⟩
  | @lst a vs xs h1 h2 => exact .inr ⟨a, vs, rfl, h1.sq p.sub, by rw [← h2.length]; exact setAll_len h, gnms_ok p h2 h q⟩
  | _ => cases h
theorem PG.or {g g' : TG} {e : Expr} (h : PG X e g) (h' : PG X e g') : PG X e (fun v σ H Q => g v σ H Q ∨ g' v σ H Q) := ⟨fun pins s σ H v u Q I r q => q.elim (h.run pins s σ H v u Q I r) (h'.run pins s σ H v u Q I r)⟩
/-- the targets are names -/
def nmsOk (N : List Str) (fn : Str → Bool) (sc : Scope) : List Expr → List Nat → Bool
  | [], [] => true
  | .Name x _ :: es, i :: is => decide (N[i]? = some x) && (decide (sc.names.lookup x = some .local) || (decide (sc.names.lookup x = some .cell) && fn x)) && nmsOk N fn sc es is
  | _, _ => false
theorem nms_pgs (hN : X.N.Nodup) : ∀ {es : List Expr} {is : List Nat}, nmsOk X.N X.fn X.env.scope es is = true → PGs X es (gNms is) ∧ (assignEach es X.env).length = is.length ∧ (assignEach es X.env).findIdx? (·.1) = none
  | [], [], _ => ⟨pgs_nil, rfl, rfl⟩
  | [], _ :: _, h => by simp [nmsOk] at h
  | e :: es, [], h => by cases e <;> simp [nmsOk] at h
  | e :: es, i :: is, h => by
    cases e with
    | Name x p =>
      simp only [nmsOk, Bool.and_eq_true, Bool.or_eq_true, decide_eq_true_eq] at h
      obtain ⟨⟨h1, h2⟩, h3⟩ := h
      obtain ⟨q1, q2, q3⟩ := nms_pgs hN h3
      have hl : Loc X.env.scope x := h2.imp id (·.1)
      have hf : X.fn x = true ∨ X.env.scope.names.lookup x = some .local := h2.elim .inr fun z => .inl z.2
      refine ⟨pgs_cons (pg_name hN h1 hl hf) q1 rfl, ?_, ?_⟩
      · show (assignEach es X.env).length + 1 = _
        rw [q2]; rfl
      · show (List.findIdx? (·.1) ((false, assign (.Name x p) X.env) :: assignEach es X.env)) = none
        rw [List.findIdx?_cons, q3]
        rfl
    | _ => simp [nmsOk] at h
def tgOk (N : List Str) (fn : Str → Bool) (sc : Scope) (e : Expr) (t : Tg) : Bool := match e, t with
  | .Name x p, .nm i => nmsOk N fn sc [.Name x p] [i]
  | .Tuple es _ _, .tup is => nmsOk N fn sc es is
  | _, _ => false
theorem tg_ok (hN : X.N.Nodup) (hc : X.calm = true) {e : Expr} {t : Tg} (h : tgOk X.N X.fn X.env.scope e t = true) : ∃ g, PG X e g ∧ gOk X.K t g := by
  unfold tgOk at h
  split at h
  · rename_i x p i
    simp only [nmsOk, Bool.and_eq_true, Bool.or_eq_true, decide_eq_true_eq] at h
    obtain ⟨⟨h1, h2⟩, -⟩ := h
    exact ⟨_, pg_name hN h1 (h2.imp id (·.1)) (h2.elim .inr fun z => .inl z.2), gok_nm i⟩
  · rename_i es k p is
    obtain ⟨q1, q2, q3⟩ := nms_pgs hN h
    exact ⟨_, PG.or (pg_tup hc q1 q2 q3) (pg_unl hc q1 q2 q3), gok_tup is⟩
  · cases h
end
end PL

set_option Elab.async false
set_option linter.all false
set_option maxRecDepth 100000
set_option maxHeartbeats 4000000
set_option autoImplicit false
/-! PL9: comprehensions. -/
namespace PL
open PySem L2 PySem.Spec PyProof.Rows
section
variable {X : Cx} {Φ : Fn} {G : Str → Option D} {pos : Pos} {tg : Expr}
/-- a clause's test -/
def tCo (Φ : Fn) (G : Str → Option D) (K : PySem.W.Frag) (c : RO) : TT := fun σ H Q => ∃ ρ R wa s b s', Pre K σ H ρ R wa s ∧ evC Φ G ρ c s = some (b, s') ∧ ∀ H' R', Ex wa H R H' R' → Ws K R' H' wa s' → Q b H'
theorem PTs.imp {ifs : List Expr} {t t' : TT} (h : PTs X ifs t) (i : ∀ σ H Q, t' σ H Q → t σ H Q) : PTs X ifs t' := ⟨fun pins s σ H Q I q => h.run pins s σ H Q I (i σ H Q q)⟩
theorem sc_no : PTs X [] (tCo Φ G X.K .no) :=
  PTs.imp pts_nil fun σ H Q ⟨ρ, R, wa, s, b, s', p, h, q⟩ => by
    unfold evC at h
    cases h
    exact q H R (Ex.refl p.sub p.ws) p.ws
theorem sc_yes {e : Expr} {r : RE} (he : PT X e (tTr Φ G X.K r)) : PTs X [e] (tCo Φ G X.K (.yes r)) :=
  PTs.imp (pts_one he) fun σ H Q ⟨ρ, R, wa, s, b, s', p, h, q⟩ => by
    unfold evC at h
    split at h
    · rename_i i s1 e1
      cases h
      exact ⟨ρ, R, wa, s, _, _, p, e1, q⟩
    · cases h
def lcTurn (Φ : Fn) (G : Str → Option D) (ρ : Env) (own : List Nat) (elt : RE) (t : Tg) (c : RO) : D → W → Option (Option D × W) := fun x s => match bindT t x (wipeE ρ own) with
  | none => none
  | some ρ1 => match evC Φ G ρ1 c s with
    | some (true, s2) => match ev Φ G ρ1 elt s2 with
      | some (y, s3) => some (some y, s3)
      | none => none
    | some (false, s2) => some (none, s2)
    | none => none
theorem Ex.lk {lk : Option (Addr × HO)} {wa : Option Addr} {H R H' R' : Hp} (E : Ex wa H R H' R') (l : Lk lk H) (w : ∀ d o, lk = some (d, o) → wa ≠ some d) : Lk lk H' := fun d o e => E.keep d o (l d o e) (w d o e)
theorem Nw.lk {lk : Option (Addr × HO)} {H R H' R' : Hp} (E : Nw H R H' R') (l : Lk lk H) : Lk lk H' := fun d o e => E.keep d o (l d o e)
/-- the loop -/
theorem lc_loop {K : PySem.W.Frag} {own : List Nat} {elt : RE} {t : Tg} {c : RO} {lk : Option (Addr × HO)} {J : It} {xs zs : List D} {σ : L2.St} {H1 R1 : Hp} {ρ : Env} {wa : Option Addr} {s1 s2 : W} {g : TG} {Q : VK}
    (j : JOk K lk R1 J xs) (p : Pre K σ H1 ρ R1 wa s1) (l1 : Lk lk H1) (lw : ∀ d o, lk = some (d, o) → wa ≠ some d) (hg : gOk K t g) (ht : ∀ i ∈ t.ixs, i ∈ own)
    (h : lcLoop (lcTurn Φ G ρ own elt t c) xs s1 = some (zs, s2)) (q : ∀ v H' R', Ex wa H1 R1 H' R' → Ws K R' H' wa s2 → Rp K R' (.list zs) v → Lk lk H' → Q v H') :
    ∀ D, H1 D = none → ∃ W : Nat → Nat → Hp → Prop, (∃ m, W 0 m (upd H1 D (.lst []))) ∧ ∀ i m H, W i m H →
      (J.stop i H ∧ Q (.ref D) H) ∨ (J.go i H ∧ ∃ Nx : Hp → Prop, (∀ H', Nx H' → ∃ m', m' < m ∧ W (i + 1) m' H') ∧ ∀ x H', J.yld i H x H' → g x (wipe σ own) H' fun σ2 H2 => wipe σ2 own = wipe σ own ∧ tCo Φ G K c σ2 H2 fun b H3 =>
        if b = true then tEv Φ G K elt σ2 H3 fun y H4 => ∃ acc, H4 D = some (.lst acc) ∧ acc.length < sizeLine ∧ Nx (upd H4 D (.lst (acc ++ [y]))) else Nx H3) := by
  intro D hD
  have wD : wa ≠ some D := p.ws.ne hD
  have rD := rn_of p.sub hD
  let St : Nat → Hp → Prop := fun i H => ∃ R acc ys s zs', Ex wa H1 R1 H R ∧ Ws K R H wa s ∧ H D = some (.lst acc) ∧ R D = none ∧ RpA K R ys acc ∧ lcLoop (lcTurn Φ G ρ own elt t c) (xs.drop i) s = some (zs', s2) ∧ ys ++ zs' = zs ∧ i ≤ xs.length ∧ acc.length ≤ i
  have keepSt : ∀ i R acc ys s zs' H u, Ex wa H1 R1 H R → Ws K R H wa s → R D = none → RpA K R ys acc → u = HO.lst acc → lcLoop (lcTurn Φ G ρ own elt t c) (xs.drop i) s = some (zs', s2) → ys ++ zs' = zs → i ≤ xs.length → acc.length ≤ i → St i (upd H D u) := by
    intro i R acc ys s zs' H u E w r ra e hl hz hi ha
    subst e
    exact ⟨R, acc, ys, s, zs', E.wr hD r, w.wr wD, upd_same, r, ra, hl, hz, hi, ha⟩
  refine ⟨fun i m H => m = xs.length - i ∧ St i H, ⟨_, rfl, keepSt 0 R1 [] [] s1 zs H1 _ (Ex.refl p.sub p.ws) p.ws rD .nil rfl h rfl (Nat.zero_le _) (Nat.le_refl _)⟩, ?_⟩
  rintro i m H ⟨em, R, acc, ys, s, zs', E, w, hacc, r, ra, hl, hz, hi, ha⟩
  have lkH := E.lk l1 lw
  by_cases c : i = xs.length
  · left
    subst c
    refine ⟨j.stop H R E.le E.sub lkH, ?_⟩
    rw [List.drop_length] at hl
    unfold lcLoop at hl
    cases hl
    rw [List.append_nil] at hz
    subst hz
    refine q _ H (upd R D (.lst acc)) (E.done hD r hacc wD) (w.done wD r) (.lst (.inl upd_same) (ra.mono (le_upd r))) lkH
  · right
    have hlt : i < xs.length := Nat.lt_of_le_of_ne hi c
    have hx : xs[i]? = some xs[i] := by simp [hlt]
    obtain ⟨g1, g2⟩ := j.go i xs[i] H R hx E.le E.sub lkH
    refine ⟨g1, fun H' => St (i + 1) H', fun H' st => ⟨xs.length - (i + 1), by omega, rfl, st⟩, fun x H' hy => ?_⟩
    obtain ⟨R', nw, rx⟩ := g2 x H' hy
    rw [List.drop_eq_getElem_cons hlt] at hl
    unfold lcLoop at hl
    split at hl
    · cases hl
    · rename_i o s3 e3
      split at hl
      · cases hl
      · rename_i ys2 s4 e4
        cases hl
        have E' := E.trans (nw.ex w)
        have w' := w.nw nw
        have pw := (p.ex E' w').wipe own
        have hD' : H' D = some (.lst acc) := nw.keep _ _ hacc
        have rD' : R' D = none := by
          cases eR : R' D with
          | none => rfl
          | some u =>
            rcases nw.new D u eR with z | z
            · rw [r] at z; cases z
            · rw [hacc] at z; cases z
        unfold lcTurn at e3
        split at e3
        · cases e3
        · rename_i ρ1 eb
          refine hg H' R' _ ρ1 _ wa s xs[i] x _ pw rx eb fun σ1 p1 hw _ => ⟨by rw [hw own ht, wipe_wipe], ?_⟩
          split at e3
          · rename_i s5 e5
            split at e3
            · rename_i y s6 e6
              cases e3
              refine ⟨ρ1, R', wa, s, true, s5, p1, e5, fun H5 R5 E5 w5 => ?_⟩
              refine iteT ?_
              refine ⟨ρ1, R5, wa, s5, y, _, p1.ex E5 w5, e6, fun v H6 R6 E6 w6 r6 => ?_⟩
              have E56 := E5.trans E6
              have hD6 := E56.keep _ _ hD' wD
              have rD6 := E56.out rD' hD'
              refine ⟨acc, hD6, ?_, ?_⟩
              · have := j.len
                omega
              · refine keepSt (i + 1) R6 (acc ++ [v]) (ys ++ [y]) _ ys2 H6 _ (E'.trans E56) w6 rD6 ((ra.mono (nw.le.trans E56.le)).append (.cons r6 .nil)) rfl e4 ?_ hlt ?_
                · rw [List.append_assoc]; exact hz
                · rw [List.length_append]; exact Nat.succ_le_succ ha
            · cases e3
          · rename_i s5 e5
            cases e3
            refine ⟨ρ1, R', wa, s, false, _, p1, e5, fun H5 R5 E5 w5 => ?_⟩
            refine iteF ?_
            exact ⟨R5, acc, ys, _, ys2, E'.trans E5, w5, E5.keep _ _ hD' wD, E5.out rD' hD', ra.mono (nw.le.trans E5.le), e4, hz, hlt, Nat.le_succ_of_le ha⟩
          · cases e3
/-- what the iteration is over, with a name for the rest -/
theorem sd_lc {own : List Nat} {elt tgE iter : Expr} {ifs : List Expr} {scope : Scope} {ow : List (Str × Nat)} {re : RE} {t : Tg} {ri : RI} {c : RO} {g : TG} (hc : X.calm = true) (hN : X.N.Nodup) (ho : own = ow.map (·.2)) (hi : PI X tgE iter (tIt Φ G X.K ri)) (ok : BlkOk X.N X.env.scope scope ow) (hg0 : gOk X.K t g) (ht0 : ∀ i ∈ t.ixs, i ∈ own)
    (hg : ∀ (s : Shared) (H : Hp) (C : Addr) (cl : List (Str × Addr)) (fp : List Addr), PG (X.blk s H scope (compEnvC scope cl C X.env) fp) tgE g)
    (ht : ∀ (s : Shared) (H : Hp) (C : Addr) (cl : List (Str × Addr)) (fp : List Addr), PTs (X.blk s H scope (compEnvC scope cl C X.env) fp) ifs (tCo Φ G X.K c))
    (he : ∀ (s : Shared) (H : Hp) (C : Addr) (cl : List (Str × Addr)) (fp : List Addr), PE (X.blk s H scope (compEnvC scope cl C X.env) fp) elt (tEv Φ G X.K re)) (hs : ∀ x, foldedSetIterable iter X.env x = pure x) :
    PE X (.ListComp elt [⟨tgE, iter, ifs, 0⟩] scope pos) (tEv Φ G X.K (.lc own re t ri c)) ∧
    ∀ (i : Nat) (y : Str) (py spos : Pos), X.N[i]? = some y → X.env.scope.names.lookup y = some .local → swapsWith (.ListComp elt [⟨tgE, iter, ifs, 0⟩] scope pos) (some (.Name y py)) spos.line X.env = pure true →
      PS X (.Assign [.Name y py] (.ListComp elt [⟨tgE, iter, ifs, 0⟩] scope pos) spos) (tAsg (tEv Φ G X.K (.lc own re t ri c)) (gName i)) := by
  subst ho
  have key : ∀ σ H Q, tEv Φ G X.K (.lc (ow.map (·.2)) re t ri c) σ H Q → tLc (tIt Φ G X.K ri) g (tCo Φ G X.K c) (tEv Φ G X.K re) (ow.map (·.2)) σ H Q := by
    rintro σ H Q ⟨ρ, R, wa, s, x, s', p, h, q⟩
    unfold ev at h
    split at h
    · rename_i xs s1 e1
      split at h
      · rename_i ys s2 e2
        cases h
        exact ⟨ρ, R, wa, s, xs, s1, p, e1, fun J H1 R1 E1 w1 j => lc_loop j (p.ex E1 w1) Lk.nil (fun _ _ e => by cases e) hg0 ht0 e2 fun v H' R' E w r _ => q v H' R' (E1.trans E) w r⟩
      · cases h
    · cases h
  refine ⟨PE.imp (pe_lc hc hN hi ok hg ht he hs) key, fun i y py spos h1 h2 h3 => ?_⟩
  have := ps_setLc (py := py) (spos := spos) hc hN h1 h2 h3 hi ok hg ht he hs
  exact ⟨fun pins s σ H Dd I q => this.run pins s σ H Dd I (key σ H _ q)⟩
/-- a comprehension over the keys of a dict that never changes -/
def iKeysF (i : Nat) : TI := fun σ H Q => ∃ d o kvs, σ[i]? = some (some (.ref d)) ∧ H d = some (.frz o (.dK kvs)) ∧ Q (Itk d o kvs) H
theorem si_keysF {e : Expr} {i : Nat} (he : PE X e (tVar i)) : PI X tg e (iKeysF i) :=
  PI.imp (pi_keys he) fun σ H Q ⟨d, o, kvs, h1, h2, q⟩ => ⟨_, h1, d, o, rfl, .inl ⟨kvs, h2, q⟩⟩
theorem PE.or {e : Expr} {t t' : TE} (h : PE X e t) (h' : PE X e t') : PE X e (fun σ H Q => t σ H Q ∨ t' σ H Q) := ⟨fun pins s σ H Q I q => q.elim (h.run pins s σ H Q I) (h'.run pins s σ H Q I)⟩
theorem PS.or {e : Stmt} {t t' : TS} (h : PS X e t) (h' : PS X e t') : PS X e (fun D σ H => t D σ H ∨ t' D σ H) := ⟨fun pins s σ H D I q => q.elim (h.run pins s σ H D I) (h'.run pins s σ H D I)⟩
theorem PS.imp {e : Stmt} {t t' : TS} (h : PS X e t) (i : ∀ D σ H, t' D σ H → t D σ H) : PS X e t' := ⟨fun pins s σ H D I q => h.run pins s σ H D I (i D σ H q)⟩
/-! in and out of the lock -/
section
variable {K : PySem.W.Frag} {wa : Option Addr} {R H H' R' : Hp} {d : Addr} {kvs : List (Key × V)} {od : Obj} {s : W}
theorem sub_lock (sb : Sub R H) (h : H d = some (.dK kvs)) : Sub R (upd H d (.frz od (.dK kvs))) := fun a v e => by
  by_cases z : a = d
  · subst z
    rcases sb a v e with q | ⟨o', q⟩
    · rw [h] at q; cases q; exact .inr ⟨od, upd_same⟩
    · rw [h] at q; cases q
  · rcases sb a v e with q | ⟨o', q⟩
    · exact .inl (by rw [upd_ne z]; exact q)
    · exact .inr ⟨o', by rw [upd_ne z]; exact q⟩
theorem Pre.lock {σ : L2.St} {ρ : Env} (p : Pre K σ H ρ R wa s) (h : H d = some (.dK kvs)) (r : R d = some (.dK kvs)) : Pre K σ (upd H d (.frz od (.dK kvs))) ρ R wa s := by
  have wd : wa ≠ some d := fun e => by have := p.ws.st d e; rw [r] at this; cases this
  refine ⟨p.len, fun i c e => ?_, sub_lock p.sub h, p.ws.wr wd⟩
  have q := p.cells i c e
  cases c with
  | no => exact q
  | fz x => exact q
  | st => exact q
  | own x =>
    obtain ⟨a, h1, h2, h3, h4⟩ := q
    have ad : a ≠ d := fun e => by rw [e, r] at h2; cases h2
    refine ⟨a, h1, h2, h3, ?_⟩
    cases x with
    | list xs => obtain ⟨vs, z1, z2⟩ := h4; exact ⟨vs, by rw [upd_ne ad]; exact z1, z2⟩
    | dict xs => obtain ⟨vs, z1, z2⟩ := h4; exact ⟨vs, by rw [upd_ne ad]; exact z1, z2⟩
    | _ => exact h4
theorem sub_unlock (sb : Sub R' H') (r : R' d = some (.dK kvs)) : Sub R' (upd H' d (.dK kvs)) := fun a v e => by
  by_cases z : a = d
  · subst z; rw [r] at e; cases e; exact .inl upd_same
  · rcases sb a v e with q | ⟨o', q⟩
    · exact .inl (by rw [upd_ne z]; exact q)
    · exact .inr ⟨o', by rw [upd_ne z]; exact q⟩
theorem Ex.unlock (E : Ex wa (upd H d (.frz od (.dK kvs))) R H' R') (h : H d = some (.dK kvs)) (r : R d = some (.dK kvs)) (wd : wa ≠ some d) : H' d = some (.frz od (.dK kvs)) ∧ Ex wa H R (upd H' d (.dK kvs)) R' := by
  refine ⟨E.keep _ _ upd_same wd, E.le, sub_unlock E.sub (E.le _ _ r), fun b o e w => ?_, fun a u e => ?_, E.st⟩
  · by_cases z : b = d
    · subst z; rw [h] at e; cases e; exact upd_same
    · rw [upd_ne z]; exact E.keep b o (by rw [upd_ne z]; exact e) w
  · rcases E.new a u e with q | q
    · exact .inl q
    · by_cases z : a = d
      · subst z; rw [upd_same] at q; cases q
      · rw [upd_ne z] at q; exact .inr q
end
theorem PE.len0 {e : Expr} {t : TE} (h : PE X e t) : PE X e (fun σ H Q => Len X.K H → t σ H Q) :=
  ⟨fun pins s σ H Q I q => h.run pins s σ H Q I (q ⟨fun a vs h => (I.list h).choose_spec.2.2, fun a vs h => (I.tuple h).choose_spec.2.2, fun a kvs h => (h.ok I.hok).1⟩)⟩
theorem PS.len0 {e : Stmt} {t : TS} (h : PS X e t) : PS X e (fun D σ H => Len X.K H → t D σ H) :=
  ⟨fun pins s σ H D I q => h.run pins s σ H D I (q ⟨fun a vs h => (I.list h).choose_spec.2.2, fun a vs h => (I.tuple h).choose_spec.2.2, fun a kvs h => (h.ok I.hok).1⟩)⟩
theorem sd_lcK {own : List Nat} {elt tgE iter : Expr} {ifs : List Expr} {scope : Scope} {ow : List (Str × Nat)} {re : RE} {t : Tg} {i0 : Nat} {c : RO} {g : TG} (hc : X.calm = true) (hN : X.N.Nodup) (ho : own = ow.map (·.2)) (hi : PE X iter (tVar i0)) (ok : BlkOk X.N X.env.scope scope ow) (hg0 : gOk X.K t g) (ht0 : ∀ i ∈ t.ixs, i ∈ own)
    (hg : ∀ (s : Shared) (H : Hp) (C : Addr) (cl : List (Str × Addr)) (fp : List Addr), PG (X.blk s H scope (compEnvC scope cl C X.env) fp) tgE g)
    (ht : ∀ (s : Shared) (H : Hp) (C : Addr) (cl : List (Str × Addr)) (fp : List Addr), PTs (X.blk s H scope (compEnvC scope cl C X.env) fp) ifs (tCo Φ G X.K c))
    (he : ∀ (s : Shared) (H : Hp) (C : Addr) (cl : List (Str × Addr)) (fp : List Addr), PE (X.blk s H scope (compEnvC scope cl C X.env) fp) elt (tEv Φ G X.K re)) (hs : ∀ x, foldedSetIterable iter X.env x = pure x) :
    PE X (.ListComp elt [⟨tgE, iter, ifs, 0⟩] scope pos) (tEv Φ G X.K (.lc own re t (.keys i0) c)) ∧
    ∀ (i : Nat) (y : Str) (py spos : Pos), X.N[i]? = some y → X.env.scope.names.lookup y = some .local → swapsWith (.ListComp elt [⟨tgE, iter, ifs, 0⟩] scope pos) (some (.Name y py)) spos.line X.env = pure true →
      PS X (.Assign [.Name y py] (.ListComp elt [⟨tgE, iter, ifs, 0⟩] scope pos) spos) (tAsg (tEv Φ G X.K (.lc own re t (.keys i0) c)) (gName i)) := by
  subst ho
  have key : ∀ σ H Q, tEv Φ G X.K (.lc (ow.map (·.2)) re t (.keys i0) c) σ H Q → Len X.K H →
      (tLockE (tLc (iKeysF i0) g (tCo Φ G X.K c) (tEv Φ G X.K re) (ow.map (·.2))) σ H Q ∨ tLc (iKeysF i0) g (tCo Φ G X.K c) (tEv Φ G X.K re) (ow.map (·.2)) σ H Q) := by
    rintro σ H Q ⟨ρ, R, wa, s, x, s', p, h, q⟩ ln
    unfold ev at h
    split at h
    · rename_i xs s1 e1
      split at h
      · rename_i ys s2 e2
        cases h
        unfold evI at e1
        split at e1
        · rename_i ds ed
          cases e1
          obtain ⟨v, h1, h2⟩ := p.fz ed
          cases h2 with
          | @dct d kvs _ h3 h4 =>
            have wd : wa ≠ some d := fun e => by have := p.ws.st d e; rw [h3] at this; cases this
            have l : kvs.length ≤ sizeLine := ln.2.2 _ _ (p.sub _ _ h3)
            rcases p.sub _ _ h3 with h5 | ⟨o, h5⟩
            · left
              refine ⟨d, _, h5, trivial, fun od => ⟨d, od, kvs, h1, upd_same, ?_⟩⟩
              refine lc_loop (Q := fun v H' => H' d = some (.frz od (.dK kvs)) ∧ Q v (upd H' d (.dK kvs))) (lk := some (d, .frz od (.dK kvs))) (jok_keys h4 l) (p.lock h5 h3) (fun d' o' e => by cases e; exact upd_same) (fun d' o' e => by cases e; exact wd) hg0 ht0 e2 fun v H' R' E w r lk => ?_
              obtain ⟨q1, q2⟩ := E.unlock h5 h3 wd
              exact ⟨q1, q v _ R' q2 (w.wr wd) r⟩
            · right
              refine ⟨d, o, kvs, h1, h5, ?_⟩
              exact lc_loop (lk := some (d, .frz o (.dK kvs))) (jok_keys h4 l) p (fun d' o' e => by cases e; exact h5) (fun d' o' e => by cases e; exact wd) hg0 ht0 e2 fun v H' R' E w r lk => q v H' R' E w r
        · cases e1
      · cases h
    · cases h
  have hi' : PI X tgE iter (iKeysF i0) := si_keysF hi
  have base := pe_lc (pos := pos) hc hN hi' ok hg ht he hs
  refine ⟨PE.imp (PE.len0 (PE.or (pe_lock base) base)) key, fun i y py spos h1 h2 h3 => ?_⟩
  have st := ps_setLc (py := py) (spos := spos) hc hN h1 h2 h3 hi' ok hg ht he hs
  refine PS.imp (PS.len0 (PS.or (ps_lock st) st)) fun D σ H hh ln => ?_
  rcases key σ H _ hh ln with ⟨d, u, h1, h2, h3⟩ | h
  · exact .inl ⟨d, u, h1, h2, h3⟩
  · exact .inr h
end
end PL

set_option Elab.async false
set_option linter.all false
set_option maxRecDepth 100000
set_option maxHeartbeats 4000000
set_option autoImplicit false
/-! PL10: statements: what they may change; stores, calls for their effect, returns. -/
namespace PL
open PySem L2 PySem.Spec PyProof.Rows

/-! ### what may be written: the def's own lists and dicts, the state -/
def Mo (σ : L2.St) (ρ : Env) (wa : Option Addr) (a : Addr) : Prop := wa = some a ∨ ∃ (i : Nat) (x : D), ρ[i]? = some (Cell.own x) ∧ σ[i]? = some (some (V.ref a))
def Dis (σ : L2.St) (ρ : Env) : Prop := ∀ (i j : Nat) (a : Addr) (x y : D), ρ[i]? = some (Cell.own x) → ρ[j]? = some (Cell.own y) → σ[i]? = some (some (V.ref a)) → σ[j]? = some (some (V.ref a)) → i = j
structure Gx (M : Addr → Prop) (H R H' R' : Hp) : Prop where
  le : Le R R'
  keep : ∀ b o, H b = some o → ¬ M b → H' b = some o
  new : ∀ a u, R' a = some u → R a = some u ∨ H a = none ∨ M a
structure Sx (K : PySem.W.Frag) (top : Bool) (σ : L2.St) (H : Hp) (ρ : Env) (R : Hp) (wa : Option Addr) (σ' : L2.St) (H' : Hp) (ρ' : Env) (R' : Hp) (wa' : Option Addr) (s' : W) : Prop where
  pre : Pre K σ' H' ρ' R' wa' s'
  dis : Dis σ' ρ'
  gx : Gx (Mo σ ρ wa) H R H' R'
  own : ∀ a, Mo σ' ρ' wa' a → Mo σ ρ wa a ∨ H a = none
  wa : wa' = wa ∨ (top = true ∧ wa = none)
section
variable {K : PySem.W.Frag} {top : Bool} {σ σ1 σ2 : L2.St} {H H1 H2 R R1 R2 : Hp} {ρ ρ1 ρ2 : Env} {wa wa1 wa2 : Option Addr} {s s1 s2 : W} {M M1 : Addr → Prop}
theorem Gx.trans (a : Gx M H R H1 R1) (b : Gx M1 H1 R1 H2 R2) (o : ∀ a, M1 a → M a ∨ H a = none) : Gx M H R H2 R2 := by
  refine ⟨a.le.trans b.le, fun c u e n => b.keep c u (a.keep c u e n) fun m => ?_, fun c u e => ?_⟩
  · rcases o c m with z | z
    · exact n z
    · rw [e] at z; cases z
  · rcases b.new c u e with z | z | z
    · exact a.new c u z
    · cases q : H c with
      | none => exact .inr (.inl rfl)
      | some u' =>
        by_cases m : M c
        · exact .inr (.inr m)
        · rw [a.keep c u' q m] at z; cases z
    · rcases o c z with q | q
      · exact .inr (.inr q)
      · exact .inr (.inl q)
theorem Sx.trans (a : Sx K top σ H ρ R wa σ1 H1 ρ1 R1 wa1 s1) (b : Sx K top σ1 H1 ρ1 R1 wa1 σ2 H2 ρ2 R2 wa2 s2) : Sx K top σ H ρ R wa σ2 H2 ρ2 R2 wa2 s2 := by
  refine ⟨b.pre, b.dis, a.gx.trans b.gx a.own, fun c m => ?_, ?_⟩
  · rcases b.own c m with z | z
    · exact a.own c z
    · cases q : H c with
      | none => exact .inr rfl
      | some u' =>
        by_cases m : Mo σ ρ wa c
        · exact .inl m
        · rw [a.gx.keep c u' q m] at z; cases z
  · rcases b.wa with z | ⟨t, z⟩
    · rcases a.wa with q | ⟨t, q⟩
      · exact .inl (z.trans q)
      · exact .inr ⟨t, q⟩
    · rcases a.wa with q | ⟨t', q⟩
      · exact .inr ⟨t, by rw [← q]; exact z⟩
      · exact .inr ⟨t', q⟩
theorem Sx.ex (p : Pre K σ H ρ R wa s) (d : Dis σ ρ) (E : Ex wa H R H1 R1) (w : Ws K R1 H1 wa s1) : Sx K top σ H ρ R wa σ H1 ρ R1 wa s1 :=
  ⟨p.ex E w, d, ⟨E.le, fun b o e n => E.keep b o e fun z => n (.inl z), fun a u e => (E.new a u e).imp id .inl⟩, fun a m => .inl m, .inl rfl⟩
theorem Sx.refl (p : Pre K σ H ρ R wa s) (d : Dis σ ρ) : Sx K top σ H ρ R wa σ H ρ R wa s := .ex p d (Ex.refl p.sub p.ws) p.ws
theorem Pre.there (p : Pre K σ H ρ R wa s) {a : Addr} (m : Mo σ ρ wa a) : R a = none ∧ ∃ o, H a = some o := by
  rcases m with e | ⟨i, x, h1, h2⟩
  · have w := p.ws
    rw [e] at w
    cases s with
    | none => exact w.elim
    | some ds => obtain ⟨h, kvs, h3, _⟩ := w; exact ⟨h, _, h3⟩
  · obtain ⟨b, q1, q2, q3, q4⟩ := p.cells i _ h1
    rw [h2] at q1
    cases q1
    exact ⟨q2, q4.there⟩
theorem get_set {i j : Nat} {c d : Cell} (h : (ρ.set i c)[j]? = some d) : (i = j ∧ d = c) ∨ (i ≠ j ∧ ρ[j]? = some d) := by
  rw [List.getElem?_set] at h
  by_cases e : i = j
  · rw [if_pos e] at h
    split at h
    · cases h; exact .inl ⟨e, rfl⟩
    · cases h
  · rw [if_neg e] at h; exact .inr ⟨e, h⟩
/-- a name gets data -/
theorem Sx.setfz (p : Pre K σ H ρ R wa s) (d : Dis σ ρ) {i : Nat} {x : D} {v : V} (r : Rp K R x v) : Sx K top σ H ρ R wa (σ.set i (some v)) H (ρ.set i (Cell.fz x)) R wa s := by
  have sub : ∀ j y a, (ρ.set i (Cell.fz x))[j]? = some (Cell.own y) → (σ.set i (some v))[j]? = some (some (V.ref a)) → ρ[j]? = some (Cell.own y) ∧ σ[j]? = some (some (V.ref a)) := fun j y a h1 h2 => by
    rcases get_set h1 with ⟨_, e⟩ | ⟨n, e⟩
    · cases e
    · rw [List.getElem?_set_ne n] at h2; exact ⟨e, h2⟩
  refine ⟨p.setfz r, fun j k a y z h1 h2 h3 h4 => ?_, ⟨Le.refl _, fun _ _ h _ => h, fun _ _ h => .inl h⟩, fun a m => .inl ?_, .inl rfl⟩
  · obtain ⟨q1, q2⟩ := sub j y a h1 h3
    obtain ⟨q3, q4⟩ := sub k z a h2 h4
    exact d j k a y z q1 q3 q2 q4
  · rcases m with e | ⟨j, y, h1, h2⟩
    · exact .inl e
    · obtain ⟨q1, q2⟩ := sub j y a h1 h2
      exact .inr ⟨j, y, q1, q2⟩
/-- a name gets a new list or dict of its own -/
theorem Sx.setown (p : Pre K σ H ρ R wa s) (d : Dis σ ρ) {i : Nat} {x : D} {a : Addr} (r : R a = none) (nw : wa ≠ some a) (o : OwR K R H x a) (n : ¬ Mo σ ρ wa a) :
    Pre K (σ.set i (some (V.ref a))) H (ρ.set i (Cell.own x)) R wa s ∧ Dis (σ.set i (some (V.ref a))) (ρ.set i (Cell.own x)) ∧ ∀ b, Mo (σ.set i (some (V.ref a))) (ρ.set i (Cell.own x)) wa b → Mo σ ρ wa b ∨ b = a := by
  have sub : ∀ j y b, (ρ.set i (Cell.own x))[j]? = some (Cell.own y) → (σ.set i (some (V.ref a)))[j]? = some (some (V.ref b)) → (j = i ∧ b = a) ∨ (j ≠ i ∧ ρ[j]? = some (Cell.own y) ∧ σ[j]? = some (some (V.ref b))) := fun j y b h1 h2 => by
    rcases get_set h1 with ⟨e, _⟩ | ⟨n, e⟩
    · subst e
      rw [List.getElem?_set] at h2
      rw [if_pos rfl] at h2
      split at h2
      · cases h2; exact .inl ⟨rfl, rfl⟩
      · cases h2
    · rw [List.getElem?_set_ne n] at h2; exact .inr ⟨fun e => n e.symm, e, h2⟩
  refine ⟨p.set fun _ => ⟨a, rfl, r, nw, o⟩, fun j k b y z h1 h2 h3 h4 => ?_, fun b m => ?_⟩
  · rcases sub j y b h1 h3 with ⟨e1, e2⟩ | ⟨n1, q1, q2⟩
    · rcases sub k z b h2 h4 with ⟨e3, e4⟩ | ⟨n3, q3, q4⟩
      · rw [e1, e3]
      · exact absurd (.inr ⟨k, z, q3, by rw [← e2]; exact q4⟩) n
    · rcases sub k z b h2 h4 with ⟨e3, e4⟩ | ⟨n3, q3, q4⟩
      · exact absurd (.inr ⟨j, y, q1, by rw [← e4]; exact q2⟩) n
      · exact d j k b y z q1 q3 q2 q4
  · rcases m with e | ⟨j, y, h1, h2⟩
    · exact .inl (.inl e)
    · rcases sub j y b h1 h2 with ⟨_, e⟩ | ⟨_, q1, q2⟩
      · exact .inr e
      · exact .inl (.inr ⟨j, y, q1, q2⟩)
/-- a store into a list or dict of its own -/
theorem Sx.write (p : Pre K σ H ρ R wa s) (d : Dis σ ρ) {i : Nat} {x x' : D} {a : Addr} {u : HO} (hi : ρ[i]? = some (Cell.own x)) (ha : σ[i]? = some (some (V.ref a))) (o : OwR K R (upd H a u) x' a) :
    Sx K top σ H ρ R wa σ (upd H a u) (ρ.set i (Cell.own x')) R wa s := by
  have hm : Mo σ ρ wa a := .inr ⟨i, x, hi, ha⟩
  obtain ⟨b, q1, q2, q3, q4⟩ := p.cells i _ hi
  rw [ha] at q1
  cases q1
  have sub : ∀ j y, (ρ.set i (Cell.own x'))[j]? = some (Cell.own y) → ∃ z, ρ[j]? = some (Cell.own z) := fun j y h1 => by
    rcases get_set h1 with ⟨e, _⟩ | ⟨n, e⟩
    · subst e; exact ⟨x, hi⟩
    · exact ⟨y, e⟩
  refine ⟨⟨by rw [List.length_set]; exact p.len, fun j c e => ?_, sub_upd p.sub q2, p.ws.wr q3⟩, fun j k b y z h1 h2 h3 h4 => ?_, ⟨Le.refl _, fun b o e n => ?_, fun _ _ h => .inl h⟩, fun b m => .inl ?_, .inl rfl⟩
  · rcases get_set e with ⟨e', rfl⟩ | ⟨n, e⟩
    · subst e'
      exact ⟨a, ha, q2, q3, o⟩
    · have q := p.cells j c e
      cases c with
      | no => exact q
      | fz x => exact q
      | st => exact q
      | own y =>
        obtain ⟨b, h1, h2, h3, h4⟩ := q
        have nb : b ≠ a := fun z => n (d i j a x y hi e ha (by rw [← z]; exact h1))
        refine ⟨b, h1, h2, h3, ?_⟩
        cases y with
        | list xs => obtain ⟨vs, z1, z2⟩ := h4; exact ⟨vs, by rw [upd_ne nb]; exact z1, z2⟩
        | dict xs => obtain ⟨vs, z1, z2⟩ := h4; exact ⟨vs, by rw [upd_ne nb]; exact z1, z2⟩
        | _ => exact h4
  · obtain ⟨y', hy⟩ := sub j y h1
    obtain ⟨z', hz⟩ := sub k z h2
    exact d j k b y' z' hy hz h3 h4
  · rw [upd_ne (fun z => n (by rw [z]; exact hm))]; exact e
  · rcases m with e | ⟨j, y, h1, h2⟩
    · exact .inl e
    · obtain ⟨y', hy⟩ := sub j y h1
      exact .inr ⟨j, y', hy, h2⟩
/-- a store into the state -/
theorem Sx.wwrite (p : Pre K σ H ρ R wa s) (d : Dis σ ρ) {a : Addr} {kvs : List (Key × V)} {ds : KV} (hw : wa = some a) (ra : R a = none) (r : RpK K R ds kvs) :
    Sx K top σ H ρ R wa σ (upd H a (.dK kvs)) ρ R wa (some ds) := by
  refine ⟨⟨p.len, fun j c e => ?_, sub_upd p.sub ra, by rw [hw]; exact ⟨ra, kvs, upd_same, r⟩⟩, d, ⟨Le.refl _, fun b o e n => ?_, fun _ _ h => .inl h⟩, fun b m => .inl m, .inl rfl⟩
  · have q := p.cells j c e
    cases c with
    | no => exact q
    | fz x => exact q
    | st => exact q
    | own y =>
      obtain ⟨b, h1, h2, h3, h4⟩ := q
      have nb : b ≠ a := fun z => h3 (by rw [z]; exact hw)
      refine ⟨b, h1, h2, h3, ?_⟩
      cases y with
      | list xs => obtain ⟨vs, z1, z2⟩ := h4; exact ⟨vs, by rw [upd_ne nb]; exact z1, z2⟩
      | dict xs => obtain ⟨vs, z1, z2⟩ := h4; exact ⟨vs, by rw [upd_ne nb]; exact z1, z2⟩
      | _ => exact h4
  · rw [upd_ne (fun z => n (.inl (by rw [z]; exact hw)))]; exact e
/-- from now on a list or dict of its own is never written -/
theorem Sx.frz (p : Pre K σ H ρ R wa s) (d : Dis σ ρ) (i : Nat) : ∃ R1, Sx K top σ H ρ R wa σ H (frz i ρ) R1 wa s := by
  cases e : ρ[i]? with
  | none => exact ⟨R, by unfold PL.frz; rw [e]; exact Sx.refl p d⟩
  | some c =>
    cases c with
    | own x =>
      have ef : PL.frz i ρ = ρ.set i (Cell.fz x) := by unfold PL.frz; rw [e]
      rw [ef]
      obtain ⟨a, h1, h2, h3, h4⟩ := p.cells i _ e
      have hm : Mo σ ρ wa a := .inr ⟨i, x, e, h1⟩
      obtain ⟨u, hu, rr⟩ : ∃ u, H a = some u ∧ ∀ R1, Le R R1 → R1 a = some u → Rp K R1 x (.ref a) := by
        cases x with
        | list xs => obtain ⟨vs, z1, z2⟩ := h4; exact ⟨_, z1, fun R1 l q => .lst (.inl q) (z2.mono l)⟩
        | dict xs => obtain ⟨vs, z1, z2⟩ := h4; exact ⟨_, z1, fun R1 l q => .dct q (z2.mono l)⟩
        | _ => exact h4.elim
      have le := le_upd (u := u) h2
      have p1 : Pre K σ H ρ R wa s → Pre K σ H (ρ.set i (Cell.fz x)) (upd R a u) wa s := fun _ => by
        refine ⟨by rw [List.length_set]; exact p.len, fun j c ej => ?_, fun b v eb => ?_, p.ws.done h3 h2⟩
        · rcases get_set ej with ⟨q, rfl⟩ | ⟨n, q⟩
          · subst q
            exact ⟨_, h1, rr _ le upd_same⟩
          · have z := p.cells j c q
            cases c with
            | no => exact z
            | st => exact z
            | fz y => obtain ⟨v, z1, z2⟩ := z; exact ⟨v, z1, z2.mono le⟩
            | own y =>
              obtain ⟨b, z1, z2, z3, z4⟩ := z
              have nb : b ≠ a := fun z => n (d i j a x y e q h1 (by rw [← z]; exact z1))
              refine ⟨b, z1, by rw [upd_ne nb]; exact z2, z3, ?_⟩
              cases y with
              | list xs => obtain ⟨vs, y1, y2⟩ := z4; exact ⟨vs, y1, y2.mono le⟩
              | dict xs => obtain ⟨vs, y1, y2⟩ := z4; exact ⟨vs, y1, y2.mono le⟩
              | _ => exact z4
        · by_cases z : b = a
          · subst z; rw [upd_same] at eb; cases eb; exact .inl hu
          · rw [upd_ne z] at eb; exact p.sub b v eb
      have sub : ∀ j y, (ρ.set i (Cell.fz x))[j]? = some (Cell.own y) → ρ[j]? = some (Cell.own y) := fun j y h1 => by
        rcases get_set h1 with ⟨_, e⟩ | ⟨n, e⟩
        · cases e
        · exact e
      refine ⟨upd R a u, p1 p, fun j k b y z q1 q2 q3 q4 => d j k b y z (sub j y q1) (sub k z q2) q3 q4, ⟨le, fun _ _ h _ => h, fun b v eb => ?_⟩, fun b m => .inl ?_, .inl rfl⟩
      · by_cases z : b = a
        · subst z; exact .inr (.inr hm)
        · rw [upd_ne z] at eb; exact .inl eb
      · rcases m with q | ⟨j, y, q1, q2⟩
        · exact .inl q
        · exact .inr ⟨j, y, sub j y q1, q2⟩
    | _ => exact ⟨R, by unfold PL.frz; rw [e]; exact Sx.refl p d⟩
theorem bindT_own {t : Tg} {x : D} (h : bindT t x ρ = some ρ1) {j : Nat} {y : D} (e : ρ1[j]? = some (Cell.own y)) : j ∉ t.ixs ∧ ρ[j]? = some (Cell.own y) := by
  have all : ∀ (is : List Nat) (xs : List D) (ρ ρ1 : Env), setAll ρ is xs = some ρ1 → ρ1[j]? = some (Cell.own y) → j ∉ is ∧ ρ[j]? = some (Cell.own y) := by
    intro is
    induction is with
    | nil =>
      intro xs ρ ρ1 h e
      cases xs with
      | nil => cases h; exact ⟨by simp, e⟩
      | cons _ _ => cases h
    | cons i is ih =>
      intro xs ρ ρ1 h e
      cases xs with
      | nil => cases h
      | cons x xs =>
        obtain ⟨q1, q2⟩ := ih xs _ _ h e
        rcases get_set q2 with ⟨_, z⟩ | ⟨n, z⟩
        · cases z
        · exact ⟨by simp [q1]; exact fun z => n z.symm, z⟩
  cases t with
  | nm i =>
    cases h
    rcases get_set e with ⟨_, z⟩ | ⟨n, z⟩
    · cases z
    · exact ⟨by simp [Tg.ixs]; exact fun z => n z.symm, z⟩
  | tup is =>
    cases x with
    | tuple xs => exact all is xs ρ ρ1 h e
    | list xs => exact all is xs ρ ρ1 h e
    | _ => cases h
/-- a target binds data -/
theorem Sx.bind (p : Pre K σ H ρ R wa s) (d : Dis σ ρ) {t : Tg} {g : TG} (hg : gOk K t g) {x : D} {v : V} (r : Rp K R x v) (h : bindT t x ρ = some ρ1) {Q : L2.St → Hp → Prop}
    (q : ∀ σ1, Sx K top σ H ρ R wa σ1 H ρ1 R wa s → Q σ1 H) : g v σ H Q := by
  refine hg H R ρ ρ1 σ wa s x v Q p r h fun σ1 p1 _ ho => q σ1 ⟨p1, fun j k a y z h1 h2 h3 h4 => ?_, ⟨Le.refl _, fun _ _ h _ => h, fun _ _ h => .inl h⟩, fun a m => .inl ?_, .inl rfl⟩
  · obtain ⟨n1, q1⟩ := bindT_own h h1
    obtain ⟨n2, q2⟩ := bindT_own h h2
    rw [ho j n1] at h3
    rw [ho k n2] at h4
    exact d j k a y z q1 q2 h3 h4
  · rcases m with e | ⟨j, y, h1, h2⟩
    · exact .inl e
    · obtain ⟨n1, q1⟩ := bindT_own h h1
      rw [ho j n1] at h2
      exact .inr ⟨j, y, q1, h2⟩
end
end PL

set_option Elab.async false
set_option linter.all false
set_option maxRecDepth 100000
set_option maxHeartbeats 4000000
set_option autoImplicit false
/-! PL11: statements. -/
namespace PL
open PySem L2 PySem.Spec PyProof.Rows

section
variable (Φ : Fn) (G : Str → Option D) (g : Nat) (K : PySem.W.Frag) (top : Bool)
/-- wanted behind statements -/
structure Out (σ : L2.St) (H : Hp) (ρ : Env) (R : Hp) (wa : Option Addr) (fl : Fl) (s' : W) (Dd : Ends) : Prop where
  nx : ∀ ρ', fl = .nx ρ' → ∀ (σ' : L2.St) (H' R' : Hp) (wa' : Option Addr), Sx K top σ H ρ R wa σ' H' ρ' R' wa' s' → Dd.nx σ' H'
  rt : ∀ x, fl = .rt x → ∀ (v : V) (H' R' : Hp) (wa' : Option Addr), Sub R' H' → Ws K R' H' wa' s' → Gx (Mo σ ρ wa) H R H' R' → (wa' = wa ∨ (top = true ∧ wa = none)) → Rp K R' x v → Dd.rt v H'
def tSt (r : RS) : TS := fun Dd σ H => ∃ ρ R wa s fl s', Pre K σ H ρ R wa s ∧ Dis σ ρ ∧ evS Φ G g r ρ s = some (fl, s') ∧ Out K top σ H ρ R wa fl s' Dd
def tSts (r : RSs) : TS := fun Dd σ H => ∃ ρ R wa s fl s', Pre K σ H ρ R wa s ∧ Dis σ ρ ∧ evSs Φ G g r ρ s = some (fl, s') ∧ Out K top σ H ρ R wa fl s' Dd
end
section
variable {K : PySem.W.Frag} {top : Bool} {σ σ1 : L2.St} {H H1 R R1 : Hp} {ρ ρ1 : Env} {wa wa1 : Option Addr} {s1 s' : W} {fl : Fl} {Dd : Ends}
/-- the wish behind a step -/
theorem Out.after (o : Out K top σ H ρ R wa fl s' Dd) (x : Sx K top σ H ρ R wa σ1 H1 ρ1 R1 wa1 s1) : Out K top σ1 H1 ρ1 R1 wa1 fl s' Dd := by
  refine ⟨fun ρ' e σ' H' R' wa' y => o.nx ρ' e σ' H' R' wa' (x.trans y), fun z e v H' R' wa' sb w gx hw r => o.rt z e v H' R' wa' sb w (x.gx.trans gx x.own) ?_ r⟩
  rcases hw with q | ⟨t, q⟩
  · rcases x.wa with z | ⟨t, z⟩
    · exact .inl (q.trans z)
    · exact .inr ⟨t, z⟩
  · rcases x.wa with z | ⟨t', z⟩
    · exact .inr ⟨t, by rw [← z]; exact q⟩
    · exact .inr ⟨t', z⟩
theorem Out.to {ρ' : Env} (o : Out K top σ H ρ R wa (.nx ρ') s' Dd) (x : Sx K top σ H ρ R wa σ1 H1 ρ' R1 wa1 s') : Dd.nx σ1 H1 := o.nx ρ' rfl _ _ _ _ x
end
section
variable {X : Cx} {Φ : Fn} {G : Str → Option D} {g : Nat} {top : Bool} {pos : Pos}
theorem PSs.imp {b : List Stmt} {t t' : TS} (h : PSs X b t) (i : ∀ D σ H, t' D σ H → t D σ H) : PSs X b t' := ⟨fun pins s σ H D I q => h.run pins s σ H D I (i D σ H q)⟩
/-! ### blocks -/
theorem ss_nil : PSs X [] (tSts Φ G g X.K top .nil) :=
  PSs.imp pss_nil fun Dd σ H ⟨ρ, R, wa, s, fl, s', p, d, h, o⟩ => by
    unfold evSs at h
    cases h
    exact o.to (Sx.refl p d)
theorem seq_read {r : RS} {rs : RSs} {Dd : Ends} {σ : L2.St} {H : Hp} (h : tSts Φ G g X.K top (.cons r rs) Dd σ H) : tSt Φ G g X.K top r { Dd with nx := tSts Φ G g X.K top rs Dd } σ H := by
  obtain ⟨ρ, R, wa, s, fl, s', p, d, h, o⟩ := h
  unfold evSs at h
  split at h
  · rename_i ρ1 s1 e1
    exact ⟨ρ, R, wa, s, _, s1, p, d, e1, fun ρ' e σ' H' R' wa' x => by cases e; exact ⟨ρ1, R', wa', s1, fl, s', x.pre, x.dis, h, o.after x⟩, fun _ e => by cases e⟩
  · rename_i x s1 e1
    cases h
    exact ⟨ρ, R, wa, s, _, _, p, d, e1, fun _ e => (by cases e), fun y e => o.rt y e⟩
  · cases h
theorem ss_cons {st : Stmt} {rest : List Stmt} {r : RS} {rs : RSs} (h1 : PS X st (tSt Φ G g X.K top r)) (h2 : PSs X rest (tSts Φ G g X.K top rs)) : PSs X (st :: rest) (tSts Φ G g X.K top (.cons r rs)) :=
  PSs.imp (pss_cons h1 h2) fun Dd σ H h => seq_read h
theorem ss_frz {rest : List Stmt} {i : Nat} {rs : RSs} (h2 : PSs X rest (tSts Φ G g X.K top rs)) : PSs X rest (tSts Φ G g X.K top (.cons (.frz i) rs)) :=
  PSs.imp h2 fun Dd σ H ⟨ρ, R, wa, s, fl, s', p, d, h, o⟩ => by
    unfold evSs evS at h
    obtain ⟨R1, x⟩ := Sx.frz (top := top) p d i
    exact ⟨_, R1, wa, s, fl, s', x.pre, x.dis, h, o.after x⟩

/-! ### return, if -/
theorem ss_ret {e : Expr} {r : RE} (he : PE X e (tEv Φ G X.K r)) : PS X (.Return (some e) pos) (tSt Φ G g X.K top (.ret r)) :=
  PS.imp (ps_ret he) fun Dd σ H ⟨ρ, R, wa, s, fl, s', p, d, h, o⟩ => by
    unfold evS at h
    split at h
    · rename_i x s1 e1
      cases h
      refine ⟨ρ, R, wa, s, x, _, p, e1, fun v H' R' E w r => ?_⟩
      have x := Sx.ex (top := top) p d E w
      exact o.rt _ rfl v H' R' wa E.sub w x.gx (.inl rfl) r
    · cases h
theorem ss_retN : PS X (.Return none pos) (tSt Φ G g X.K top (.ret .non)) :=
  PS.imp ps_retN fun Dd σ H ⟨ρ, R, wa, s, fl, s', p, d, h, o⟩ => by
    unfold evS ev at h
    cases h
    exact o.rt _ rfl _ H R wa p.sub p.ws (Sx.refl (top := top) p d).gx (.inl rfl) .non
theorem ss_if {c : Expr} {a b : List Stmt} {rc : RE} {ra rb : RSs} (hc : PT X c (tTr Φ G X.K rc)) (ha : PSs X a (tSts Φ G g X.K top ra)) (hb : PSs X b (tSts Φ G g X.K top rb)) : PS X (.If c a b pos) (tSt Φ G g X.K top (.ite rc ra rb)) :=
  PS.imp (ps_if hc ha hb) fun Dd σ H ⟨ρ, R, wa, s, fl, s', p, d, h, o⟩ => by
    unfold evS at h
    split at h
    · rename_i s1 e1
      refine ⟨ρ, R, wa, s, true, s1, p, e1, fun H' R' E w => ?_⟩
      refine iteT ?_
      exact ⟨ρ, R', wa, s1, fl, s', p.ex E w, d, h, o.after (Sx.ex p d E w)⟩
    · rename_i s1 e1
      refine ⟨ρ, R, wa, s, false, s1, p, e1, fun H' R' E w => ?_⟩
      refine iteF ?_
      exact ⟨ρ, R', wa, s1, fl, s', p.ex E w, d, h, o.after (Sx.ex p d E w)⟩
    · cases h

/-! ### stores -/
theorem asg_read {r : RE} {t : Tg} {gt : TG} (hg : gOk X.K t gt) {Dd : Ends} {σ : L2.St} {H : Hp} (h : tSt Φ G g X.K top (.asg t r) Dd σ H) : tAsg (tEv Φ G X.K r) gt Dd σ H := by
  obtain ⟨ρ, R, wa, s, fl, s', p, d, h, o⟩ := h
  unfold evS at h
  split at h
  · rename_i x s1 e1
    split at h
    · rename_i ρ1 eb
      cases h
      refine ⟨ρ, R, wa, s, x, _, p, e1, fun v H' R' E w rv => ?_⟩
      have x1 := Sx.ex (top := top) p d E w
      exact Sx.bind x1.pre x1.dis hg rv eb fun σ1 x2 => o.to (x1.trans x2)
    · cases h
  · cases h
theorem ss_asg {tg e : Expr} {r : RE} {t : Tg} {gt : TG} (hg : gOk X.K t gt) (ht : PG X tg gt) (he : PE X e (tEv Φ G X.K r)) (hs : swapsWithSole [tg] e pos.line X.env = pure false) (hw : swappedStores [tg] e X.env = pure none)
    (h1 : (assignEach [tg] X.env).map (·.2) = [assign tg X.env]) : PS X (.Assign [tg] e pos) (tSt Φ G g X.K top (.asg t r)) :=
  PS.imp (ps_asg he ht hs hw h1) fun Dd σ H h => asg_read hg h
theorem ss_asgLc {st : Stmt} {r : RE} {i : Nat} (h : PS X st (tAsg (tEv Φ G X.K r) (gName i))) : PS X st (tSt Φ G g X.K top (.asg (.nm i) r)) :=
  PS.imp h fun Dd σ H h => asg_read (gok_nm i) h
theorem Pre.new {K : PySem.W.Frag} {σ : L2.St} {H R : Hp} {ρ : Env} {wa : Option Addr} {s : W} {a : Addr} (p : Pre K σ H ρ R wa s) (n : H a = none) : ¬ Mo σ ρ wa a := fun m => by
  obtain ⟨_, o, h⟩ := p.there m
  rw [n] at h; cases h
theorem Sx.fresh {K : PySem.W.Frag} {σ : L2.St} {H R : Hp} {ρ : Env} {wa : Option Addr} {s : W} {a : Addr} {x : D} {u : HO} (p : Pre K σ H ρ R wa s) (d : Dis σ ρ) (n : H a = none) (i : Nat) (o : OwR K R (upd H a u) x a) :
    Sx K top σ H ρ R wa (σ.set i (some (V.ref a))) (upd H a u) (ρ.set i (Cell.own x)) R wa s := by
  have nw := Nw.mut (o := u) p.sub n
  have x1 := Sx.ex (top := top) p d (nw.ex p.ws) (p.ws.nw nw)
  obtain ⟨q1, q2, q3⟩ := Sx.setown (i := i) x1.pre x1.dis (rn_of p.sub n) (p.ws.ne n) o (fun m => p.new n (by
    rcases m with z | ⟨j, y, z1, z2⟩
    · exact .inl z
    · exact .inr ⟨j, y, z1, z2⟩))
  refine ⟨q1, q2, x1.gx, fun b m => ?_, .inl rfl⟩
  rcases q3 b m with z | z
  · exact .inl z
  · rw [z]; exact .inr n
theorem ss_newl {tg : Expr} {p1 : Pos} {i : Nat} (ht : PG X tg (gName i)) (hs : swapsWithSole [tg] (.List [] p1) pos.line X.env = pure false) (hw : swappedStores [tg] (.List [] p1) X.env = pure none)
    (h1 : (assignEach [tg] X.env).map (·.2) = [assign tg X.env]) : PS X (.Assign [tg] (.List [] p1) pos) (tSt Φ G g X.K top (.newl i)) :=
  PS.imp (ps_asg (pe_lst pa_nil) ht hs hw h1) fun Dd σ H ⟨ρ, R, wa, s, fl, s', p, d, h, o⟩ => by
    unfold evS at h
    cases h
    exact ⟨Nat.zero_le _, fun a ha => o.to (Sx.fresh p d ha i ⟨[], upd_same, .nil⟩)⟩
theorem ss_newd {tg : Expr} {p1 : Pos} {i : Nat} (ht : PG X tg (gName i)) (hs : swapsWithSole [tg] (.Dict [] [] p1) pos.line X.env = pure false) (hw : swappedStores [tg] (.Dict [] [] p1) X.env = pure none)
    (h1 : (assignEach [tg] X.env).map (·.2) = [assign tg X.env]) : PS X (.Assign [tg] (.Dict [] [] p1) pos) (tSt Φ G g X.K top (.newd i)) :=
  PS.imp (ps_asg pe_dnewK ht hs hw h1) fun Dd σ H ⟨ρ, R, wa, s, fl, s', p, d, h, o⟩ => by
    unfold evS at h
    cases h
    exact fun a ha => o.to (Sx.fresh p d ha i ⟨[], upd_same, .nil⟩)

/-! ### a, b = x, [] -/
inductive CsR (K : PySem.W.Frag) (R H0 H : Hp) (wa : Option Addr) : List Cell → List V → List Addr → Prop
  | nil : CsR K R H0 H wa [] [] []
  | fz {x : D} {v : V} {cs : List Cell} {vs : List V} {as : List Addr} : Rp K R x v → CsR K R H0 H wa cs vs as → CsR K R H0 H wa (.fz x :: cs) (v :: vs) as
  | own {x : D} {a : Addr} {cs : List Cell} {vs : List V} {as : List Addr} : R a = none → wa ≠ some a → H0 a = none → OwR K R H x a → a ∉ as → CsR K R H0 H wa cs vs as → CsR K R H0 H wa (.own x :: cs) (.ref a :: vs) (a :: as)
theorem CsR.new {K : PySem.W.Frag} {R H0 H : Hp} {wa : Option Addr} : ∀ {cs : List Cell} {vs : List V} {as : List Addr}, CsR K R H0 H wa cs vs as → ∀ a ∈ as, H0 a = none ∧ wa ≠ some a
  | _, _, _, .nil => by simp
  | _, _, _, .fz _ t => CsR.new t
  | _, _, _, .own _ h1 h2 _ _ t => by
    intro a ha
    rcases List.mem_cons.mp ha with e | e
    · subst e; exact ⟨h2, h1⟩
    · exact CsR.new t a e
theorem CsR.early {K : PySem.W.Frag} {R H0 H1 H : Hp} {wa : Option Addr} (f : ∀ a, wa ≠ some a → H1 a = none → H0 a = none) : ∀ {cs : List Cell} {vs : List V} {as : List Addr}, CsR K R H1 H wa cs vs as → CsR K R H0 H wa cs vs as
  | _, _, _, .nil => .nil
  | _, _, _, .fz h t => .fz h (CsR.early f t)
  | _, _, _, .own h0 h1 h2 h3 h4 t => .own h0 h1 (f _ h1 h2) h3 h4 (CsR.early f t)
theorem CsR.length {K : PySem.W.Frag} {R H0 H : Hp} {wa : Option Addr} : ∀ {cs : List Cell} {vs : List V} {as : List Addr}, CsR K R H0 H wa cs vs as → cs.length = vs.length
  | _, _, _, .nil => rfl
  | _, _, _, .fz _ t => by rw [List.length_cons, List.length_cons, CsR.length t]
  | _, _, _, .own _ _ _ _ _ t => by rw [List.length_cons, List.length_cons, CsR.length t]
def tPrs (Φ : Fn) (G : Str → Option D) (K : PySem.W.Frag) (r : RPs) : TA := fun σ H Q => ∃ ρ R wa s cs s', Pre K σ H ρ R wa s ∧ evP Φ G ρ r s = some (cs, s') ∧ ∀ vs H' R' as, Ex wa H R H' R' → Ws K R' H' wa s' → CsR K R' H H' wa cs vs as → Q vs H'
theorem sp_nil : PA X [] (tPrs Φ G X.K .nil) :=
  PA.imp pa_nil fun σ H Q ⟨ρ, R, wa, s, cs, s', p, h, q⟩ => by
    unfold evP at h
    cases h
    exact q [] H R [] (Ex.refl p.sub p.ws) p.ws .nil
theorem Ex.early {wa : Option Addr} {H R H' R' : Hp} (E : Ex wa H R H' R') : ∀ a, wa ≠ some a → H' a = none → H a = none := fun a n h => by
  cases e : H a with
  | none => rfl
  | some o => rw [E.keep a o e n] at h; cases h
theorem sp_fr {e : Expr} {es : List Expr} {r : RE} {rs : RPs} (he : PE X e (tEv Φ G X.K r)) (hs : PA X es (tPrs Φ G X.K rs)) (st : starEach (e :: es) X.env = (false, eval e X.env) :: starEach es X.env) : PA X (e :: es) (tPrs Φ G X.K (.fr r rs)) :=
  PA.imp (pa_cons he hs st) fun σ H Q ⟨ρ, R, wa, s, cs, s', p, h, q⟩ => by
    unfold evP at h
    split at h
    · rename_i x s1 e1
      split at h
      · rename_i cs2 s2 e2
        cases h
        refine ⟨ρ, R, wa, s, x, s1, p, e1, fun v H1 R1 E1 w1 r1 => ⟨ρ, R1, wa, s1, cs2, _, p.ex E1 w1, e2, fun vs H2 R2 as E2 w2 r2 => ?_⟩⟩
        exact q (v :: vs) H2 R2 as (E1.trans E2) w2 (.fz (r1.mono E2.le) (r2.early E1.early))
      · cases h
    · cases h
theorem own_read {σ : L2.St} {H : Hp} {Q : List V → Hp → Prop} {rs : RPs} {ρ : Env} {R : Hp} {wa : Option Addr} {s s' : W} {cs : List Cell} {x : D} {u : HO} (p : Pre X.K σ H ρ R wa s) (e2 : evP Φ G ρ rs s = some (cs, s')) (ow : ∀ (R' H' : Hp) (a : Addr), H' a = some u → OwR X.K R' H' x a)
    (q : ∀ vs H' R' as, Ex wa H R H' R' → Ws X.K R' H' wa s' → CsR X.K R' H H' wa (.own x :: cs) vs as → Q vs H') : ∀ a, H a = none → tPrs Φ G X.K rs σ (upd H a u) fun vs H' => Q (.ref a :: vs) H' := fun a ha => by
  have nw := Nw.mut (o := u) p.sub ha
  have rn := rn_of p.sub ha
  have wn := p.ws.ne ha
  have E1 := nw.ex p.ws
  refine ⟨ρ, R, wa, s, cs, s', p.ex E1 (p.ws.nw nw), e2, fun vs H2 R2 as E2 w2 r2 => ?_⟩
  obtain ⟨E3, rn2⟩ := E2.from_new ha rn
  refine q (.ref a :: vs) H2 R2 (a :: as) E3 w2 (.own rn2 wn ha (ow _ _ _ (E2.keep a u upd_same wn)) (fun m => ?_) (r2.early E1.early))
  have := (r2.new a m).1
  rw [upd_same] at this
  cases this
theorem sp_nl {p1 : Pos} {es : List Expr} {rs : RPs} (hs : PA X es (tPrs Φ G X.K rs)) (st : starEach (.List [] p1 :: es) X.env = (false, eval (.List [] p1) X.env) :: starEach es X.env) : PA X (.List [] p1 :: es) (tPrs Φ G X.K (.nl rs)) :=
  PA.imp (pa_cons (pe_lst pa_nil) hs st) fun σ H Q ⟨ρ, R, wa, s, cs, s', p, h, q⟩ => by
    unfold evP at h
    split at h
    · rename_i cs2 s2 e2
      cases h
      exact ⟨Nat.zero_le _, own_read (x := .list []) p e2 (fun R' H' a h => ⟨[], h, .nil⟩) q⟩
    · cases h
theorem sp_nd {p1 : Pos} {es : List Expr} {rs : RPs} (hs : PA X es (tPrs Φ G X.K rs)) (st : starEach (.Dict [] [] p1 :: es) X.env = (false, eval (.Dict [] [] p1) X.env) :: starEach es X.env) : PA X (.Dict [] [] p1 :: es) (tPrs Φ G X.K (.nd rs)) :=
  PA.imp (pa_cons pe_dnewK hs st) fun σ H Q ⟨ρ, R, wa, s, cs, s', p, h, q⟩ => by
    unfold evP at h
    split at h
    · rename_i cs2 s2 e2
      cases h
      exact own_read (x := .dict []) p e2 (fun R' H' a h => ⟨[], h, .nil⟩) q
    · cases h
def setN (σ : L2.St) : List Nat → List V → L2.St
  | i :: is, v :: vs => setN (σ.set i (some v)) is vs
  | _, _ => σ
theorem gNms_set : ∀ {is : List Nat} {vs : List V} {σ : L2.St} {H : Hp} {Q : L2.St → Hp → Prop}, vs.length = is.length → Q (setN σ is vs) H → gNms is vs σ H Q
  | [], [], σ, H, Q, _, q => ⟨rfl, q⟩
  | [], _ :: _, _, _, _, h, _ => by simp at h
  | _ :: _, [], _, _, _, h, _ => by simp at h
  | i :: is, v :: vs, σ, H, Q, h, q => ⟨v, vs, rfl, gNms_set (is := is) (vs := vs) (by simpa using h) q⟩
def tParN (is : List Nat) (ta : TA) : TS := fun D σ H => ta σ H fun vs H1 => vs.length = is.length ∧ vs.length ≤ sizeLine ∧ ∀ H2, (H2 = H1 ∨ ∃ p, H1 p = none ∧ H2 = upd H1 p (.tup vs)) → D.nx (setN σ is vs) H2
theorem set_cells {K : PySem.W.Frag} {H0 H R : Hp} {wa : Option Addr} {s : W} {cs : List Cell} {vs : List V} {as : List Addr} (r : CsR K R H0 H wa cs vs as) : ∀ {is : List Nat} {σ : L2.St} {ρ ρ1 : Env}, Pre K σ H ρ R wa s → Dis σ ρ → (∀ a ∈ as, ¬ Mo σ ρ wa a) → setCs ρ is cs = some ρ1 →
    Pre K (setN σ is vs) H ρ1 R wa s ∧ Dis (setN σ is vs) ρ1 ∧ ∀ a, Mo (setN σ is vs) ρ1 wa a → Mo σ ρ wa a ∨ a ∈ as := by
  induction r with
  | nil =>
    intro is σ ρ ρ1 p d n h
    cases is with
    | nil => cases h; exact ⟨p, d, fun a m => .inl m⟩
    | cons _ _ => cases h
  | @fz x v cs vs as r t ih =>
    intro is σ ρ ρ1 p d n h
    cases is with
    | nil => cases h
    | cons i is =>
      have x1 := Sx.setfz (top := false) (i := i) p d r
      obtain ⟨q1, q2, q3⟩ := ih (is := is) x1.pre x1.dis (fun a ha m => by
        rcases x1.own a m with z | z
        · exact n a ha z
        · obtain ⟨_, o, e⟩ := x1.pre.there m
          rw [z] at e; cases e) h
      refine ⟨q1, q2, fun a m => ?_⟩
      rcases q3 a m with z | z
      · rcases x1.own a z with y | y
        · exact .inl y
        · obtain ⟨_, o, e⟩ := x1.pre.there z
          rw [y] at e; cases e
      · exact .inr z
  | @own x a cs vs as h0 h1 h2 h3 h4 t ih =>
    intro is σ ρ ρ1 p d n h
    cases is with
    | nil => cases h
    | cons i is =>
      obtain ⟨y1, y2, y3⟩ := Sx.setown (i := i) p d h0 h1 h3 (n a List.mem_cons_self)
      obtain ⟨q1, q2, q3⟩ := ih (is := is) y1 y2 (fun b hb m => by
        rcases y3 b m with z | z
        · exact n b (List.mem_cons_of_mem _ hb) z
        · exact h4 (by rw [← z]; exact hb)) h
      refine ⟨q1, q2, fun b m => ?_⟩
      rcases q3 b m with z | z
      · rcases y3 b z with y | y
        · exact .inl y
        · exact .inr (by rw [y]; exact List.mem_cons_self)
      · exact .inr (List.mem_cons_of_mem _ z)
theorem setCs_len : ∀ {is : List Nat} {cs : List Cell} {ρ ρ1 : Env}, setCs ρ is cs = some ρ1 → cs.length = is.length
  | [], [], _, _, _ => rfl
  | [], _ :: _, _, _, h => by cases h
  | _ :: _, [], _, _, h => by cases h
  | _ :: is, _ :: xs, _, _, h => by rw [List.length_cons, List.length_cons, setCs_len (is := is) (cs := xs) h]
theorem par_read {is : List Nat} {ps : RPs} {Dd : Ends} {σ : L2.St} {H : Hp} (hl : is.length ≤ 1000) (h : tSt Φ G g X.K top (.par is ps) Dd σ H) : tParN is (tPrs Φ G X.K ps) Dd σ H := by
  obtain ⟨ρ, R, wa, s, fl, s', p, d, h, o⟩ := h
  unfold evS at h
  split at h
  · rename_i cs s1 e1
    split at h
    · rename_i ρ1 eb
      cases h
      refine ⟨ρ, R, wa, s, cs, _, p, e1, fun vs H1 R1 as E w r => ?_⟩
      have x1 := Sx.ex (top := top) p d E w
      have l1 : vs.length = is.length := by rw [← r.length]; exact setCs_len eb
      refine ⟨l1, by rw [l1, sizeLine_eq]; omega, fun H2 h2 => ?_⟩
      obtain ⟨q1, q2, q3⟩ := set_cells r x1.pre x1.dis (fun a ha m => by
        have := (r.new a ha).1
        refine p.new this ?_
        rcases m with z | ⟨j, y, z1, z2⟩
        · exact .inl z
        · exact .inr ⟨j, y, z1, z2⟩) eb
      have x2 : Sx X.K top σ H ρ R wa (setN σ is vs) H1 ρ1 R1 wa s' := ⟨q1, q2, x1.gx, fun a m => by
        rcases q3 a m with z | z
        · exact .inl z
        · exact .inr (r.new a z).1, .inl rfl⟩
      rcases h2 with h2 | ⟨b, hb, h2⟩
      · subst h2; exact o.to x2
      · subst h2
        have nw := Nw.mut (o := HO.tup vs) x2.pre.sub hb
        exact o.to (x2.trans (Sx.ex x2.pre x2.dis (nw.ex x2.pre.ws) (x2.pre.ws.nw nw)))
    · cases h
  · cases h
end
end PL

set_option Elab.async false
set_option linter.all false
set_option maxRecDepth 100000
set_option maxHeartbeats 4000000
set_option autoImplicit false
/-! PL12: statements, second half. -/
namespace PL
open PySem L2 PySem.Spec PyProof.Rows
section
variable {X : Cx} {Φ : Fn} {G : Str → Option D} {g : Nat} {top : Bool} {pos : Pos}
/-! ### a, b = x, y -/
theorem sp_plain {is : List Nat} {ts es : List Expr} {ps : RPs} {kt k2 : Nat} {pt p2 : Pos} (hc : X.calm = true) (hl : is.length ≤ 1000) (ht : PGs X ts (gNms is) ∧ (assignEach ts X.env).length = is.length ∧ (assignEach ts X.env).findIdx? (·.1) = none) (ha : PA X es (tPrs Φ G X.K ps))
    (hw : swappedStores [.Tuple ts kt pt] (.Tuple es k2 p2) X.env = pure none) : PS X (.Assign [.Tuple ts kt pt] (.Tuple es k2 p2) pos) (tSt Φ G g X.K top (.par is ps)) :=
  PS.imp (ps_asg (pe_tup ha) (pg_tup hc ht.1 ht.2.1 ht.2.2) rfl hw rfl) fun Dd σ H h => by
    have q := par_read hl h
    obtain ⟨ρ, R, wa, s, cs, s', p, e, k⟩ := q
    refine ⟨ρ, R, wa, s, cs, s', p, e, fun vs H' R' as E w r => ?_⟩
    obtain ⟨l1, l2, l3⟩ := k vs H' R' as E w r
    exact ⟨l2, fun a ha => ⟨a, vs, rfl, .inl (.inl upd_same), l1, gNms_set l1 (l3 _ (.inr ⟨a, ha, rfl⟩))⟩⟩
theorem sp_two {i j : Nat} {x y : Str} {a b : Expr} {ps : RPs} {px py pt : Pos} {kt k2 : Nat} {p2 : Pos} (hc : X.calm = true) (hN : X.N.Nodup) (hi : X.N[i]? = some x) (hj : X.N[j]? = some y) (hij : i ≠ j)
    (hx : X.env.scope.names.lookup x = some .local) (hy : X.env.scope.names.lookup y = some .local) (ha : PA X [a, b] (tPrs Φ G X.K ps))
    (hw : swappedStores [.Tuple [.Name x px, .Name y py] kt pt] (.Tuple [a, b] k2 p2) X.env = pure (some [x, y])) :
    PS X (.Assign [.Tuple [.Name x px, .Name y py] kt pt] (.Tuple [a, b] k2 p2) pos) (tSt Φ G g X.K top (.par [i, j] ps)) :=
  PS.imp (ps_par hc hN hi hj hij hx hy ha hw) fun Dd σ H h => by
    have q := par_read (by show 2 ≤ 1000; decide) h
    obtain ⟨ρ, R, wa, s, cs, s', p, e, k⟩ := q
    refine ⟨ρ, R, wa, s, cs, s', p, e, fun vs H' R' as E w r => ?_⟩
    obtain ⟨l1, l2, l3⟩ := k vs H' R' as E w r
    match vs, l1 with
    | [u, v], _ => exact ⟨u, v, rfl, l3 _ (.inl rfl)⟩
theorem sp_three {i j l : Nat} {x y z : Str} {a b c : Expr} {ps : RPs} {px py pz pt : Pos} {kt k2 : Nat} {p2 : Pos} (hc : X.calm = true) (hN : X.N.Nodup) (hi : X.N[i]? = some x) (hj : X.N[j]? = some y) (hl : X.N[l]? = some z) (hij : i ≠ j) (hil : i ≠ l) (hjl : j ≠ l)
    (hx : X.env.scope.names.lookup x = some .local) (hy : X.env.scope.names.lookup y = some .local) (hz : X.env.scope.names.lookup z = some .local) (ha : PA X [a, b, c] (tPrs Φ G X.K ps))
    (hw : swappedStores [.Tuple [.Name x px, .Name y py, .Name z pz] kt pt] (.Tuple [a, b, c] k2 p2) X.env = pure (some [x, y, z])) :
    PS X (.Assign [.Tuple [.Name x px, .Name y py, .Name z pz] kt pt] (.Tuple [a, b, c] k2 p2) pos) (tSt Φ G g X.K top (.par [i, j, l] ps)) :=
  PS.imp (ps_par3 hc hN hi hj hl hij hil hjl hx hy hz ha hw) fun Dd σ H h => by
    have q := par_read (by show 3 ≤ 1000; decide) h
    obtain ⟨ρ, R, wa, s, cs, s', p, e, k⟩ := q
    refine ⟨ρ, R, wa, s, cs, s', p, e, fun vs H' R' as E w r => ?_⟩
    obtain ⟨l1, l2, l3⟩ := k vs H' R' as E w r
    match vs, l1 with
    | [u, v, w], _ => exact ⟨u, v, w, rfl, l3 _ (.inl rfl)⟩
/-- the names that are stored from the right -/
def swNames (kf : Str → Option NameKind) (ts : List Expr) : List Str := ts.filterMap fun
  | .Name id pos => if kf id == some .local && pos.line == (ts.head?.map (·.pos.line)).getD 0 then some id else none
  | _ => none
def swSt (kf : Str → Option NameKind) (ts vs : List Expr) : Option (Option (List Str)) :=
  if (!(ts.length == 2 || ts.length == 3) || vs.length != ts.length) = true then some none
  else if (vs.any fun | .Starred .. => true | _ => false) = true then some none
  else if ((swNames kf ts).length != ts.length || (swNames kf ts).eraseDups.length != (swNames kf ts).length) = true then some none
  else if vs.all (foldedForSure 8) = true then some none
  else if vs.all (constantsAlone 8) = true then none
  else some (some (swNames kf ts))
theorem swSt_ok {env : PySem.Env} {ts vs : List Expr} {k k2 : Nat} {p p2 : Pos} {r : Option (List Str)} (hk : env.scope.kind = .function) (h : swSt env.kindOf ts vs = some r) : swappedStores [.Tuple ts k p] (.Tuple vs k2 p2) env = pure r := by
  have hb : env.blockKind = .function := by unfold Env.blockKind; rw [hk]; rfl
  unfold swappedStores
  unfold swSt at h
  simp only [hb]
  by_cases h1 : (!(ts.length == 2 || ts.length == 3) || vs.length != ts.length) = true
  · rw [if_pos h1] at h
    cases h
    have : (!(ts.length == 2 || ts.length == 3) || vs.length != ts.length || (ScopeKind.function != ScopeKind.function)) = true := by rw [h1]; rfl
    exact if_pos this
  · rw [if_neg h1] at h
    have : ¬ (!(ts.length == 2 || ts.length == 3) || vs.length != ts.length || (ScopeKind.function != ScopeKind.function)) = true := by
      rw [Bool.not_eq_true] at h1
      rw [h1]; exact Bool.false_ne_true
    refine (if_neg this).trans ?_
    by_cases h2 : (vs.any fun | .Starred .. => true | _ => false) = true
    · rw [if_pos h2] at h
      cases h
      exact if_pos h2
    · rw [if_neg h2] at h
      refine (if_neg h2).trans ?_
      by_cases h3 : ((swNames env.kindOf ts).length != ts.length || (swNames env.kindOf ts).eraseDups.length != (swNames env.kindOf ts).length) = true
      · rw [if_pos h3] at h
        cases h
        exact if_pos h3
      · rw [if_neg h3] at h
        refine (if_neg h3).trans ?_
        by_cases h4 : vs.all (foldedForSure 8) = true
        · rw [if_pos h4] at h
          cases h
          exact if_pos h4
        · rw [if_neg h4] at h
          refine (if_neg h4).trans ?_
          by_cases h5 : vs.all (constantsAlone 8) = true
          · rw [if_pos h5] at h
            cases h
          · rw [if_neg h5] at h
            cases h
            refine (if_neg h5).trans rfl
end
end PL

set_option Elab.async false
set_option linter.all false
set_option maxRecDepth 100000
set_option maxHeartbeats 4000000
set_option autoImplicit false
/-! PL13: stores into dicts and lists, loops. -/
namespace PL
open PySem L2 PySem.Spec PyProof.Rows
section
variable {X : Cx} {Φ : Fn} {G : Str → Option D} {g : Nat} {top : Bool} {pos : Pos}
theorem lineOk_lt {n : Nat} (h : lineOk (n + 1) = true) : n < sizeLine := lineOk_le h
theorem own_dict {K : PySem.W.Frag} {σ : L2.St} {H R : Hp} {ρ : Env} {wa : Option Addr} {s : W} {i : Nat} {ds : KV} (p : Pre K σ H ρ R wa s) (h : ρ[i]? = some (Cell.own (.dict ds))) : ∃ a kvs, σ[i]? = some (some (V.ref a)) ∧ R a = none ∧ wa ≠ some a ∧ H a = some (.dK kvs) ∧ RpK K R ds kvs := by
  obtain ⟨a, h1, h2, h3, kvs, h4, h5⟩ := p.cells i _ h
  exact ⟨a, kvs, h1, h2, h3, h4, h5⟩
theorem own_list {K : PySem.W.Frag} {σ : L2.St} {H R : Hp} {ρ : Env} {wa : Option Addr} {s : W} {i : Nat} {ds : List D} (p : Pre K σ H ρ R wa s) (h : ρ[i]? = some (Cell.own (.list ds))) : ∃ a kvs, σ[i]? = some (some (V.ref a)) ∧ R a = none ∧ wa ≠ some a ∧ H a = some (.lst kvs) ∧ RpA K R ds kvs := by
  obtain ⟨a, h1, h2, h3, kvs, h4, h5⟩ := p.cells i _ h
  exact ⟨a, kvs, h1, h2, h3, h4, h5⟩
theorem ss_put {o k e : Expr} {i : Nat} {rk re : RE} {p1 : Pos} (hu : X.A.units + 1 < cLine) (ho : PE X o (tVar i)) (hk : PE X k (tEv Φ G X.K rk)) (he : PE X e (tEv Φ G X.K re)) (hs : swapsWith e (some (.Subscript o k p1)) pos.line X.env = pure false) :
    PS X (.Assign [.Subscript o k p1] e pos) (tSt Φ G g X.K top (.put i rk re)) :=
  PS.imp (ps_dput hu ho hk he hs) fun Dd σ H ⟨ρ, R, wa, s, fl, s', p, d, h, o⟩ => by
    unfold evS at h
    split at h
    · rename_i x s1 e1
      split at h
      · rename_i y s2 e2
        split at h
        · rename_i ds k' hi ek
          split at h
          · rename_i hl
            cases h
            refine ⟨ρ, R, wa, s, x, s1, p, e1, fun v1 H1 R1 E1 w1 r1 => ?_⟩
            have p1 := p.ex E1 w1
            obtain ⟨a, kvs0, q1, _⟩ := own_dict p1 hi
            refine ⟨_, q1, ρ, R1, wa, s1, y, _, p1, e2, fun v2 H2 R2 E2 w2 r2 => ?_⟩
            have p2 := p1.ex E2 w2
            obtain ⟨a', kvs, q1', q2, q3, q4, q5⟩ := own_dict p2 hi
            rw [q1] at q1'
            cases q1'
            rw [kOf_some ek] at r2
            have ey := rp_key r2
            subst ey
            refine ⟨a, _, rfl, .inl ⟨kvs, k', q4, rfl, by rw [← q5.length]; exact lineOk_lt hl, rfl⟩, ?_⟩
            have x1 := Sx.ex (top := top) p d (E1.trans E2) w2
            exact o.to (x1.trans (Sx.write x1.pre x1.dis hi q1 ⟨_, upd_same, q5.put (r1.mono E2.le) k'⟩))
          · cases h
        · cases h
      · cases h
    · cases h
theorem ss_wput {o k e : Expr} {i : Nat} {ks : Str} {re : RE} {p1 : Pos} (hu : X.A.units + 1 < cLine) (ho : PE X o (tVar i)) (hk : PE X k (tC (.str ks))) (he : PE X e (tEv Φ G X.K re)) (hs : swapsWith e (some (.Subscript o k p1)) pos.line X.env = pure false) :
    PS X (.Assign [.Subscript o k p1] e pos) (tSt Φ G g X.K top (.wput i ks re)) :=
  PS.imp (ps_dput hu ho hk he hs) fun Dd σ H ⟨ρ, R, wa, s, fl, s', p, d, h, o⟩ => by
    unfold evS at h
    split at h
    · rename_i x ds e1
      split at h
      · rename_i hl
        rw [Bool.and_eq_true] at hl
        cases h
        refine ⟨ρ, R, wa, s, x, _, p, e1, fun v1 H1 R1 E1 w1 r1 => ?_⟩
        have p1 := p.ex E1 w1
        obtain ⟨a, q1, q2, ds', kvs, q3, q4, q5⟩ := p1.wst hl.1
        cases q3
        refine ⟨_, q1, a, _, rfl, .inl ⟨kvs, .inr ks, q4, rfl, by rw [← q5.length]; exact lineOk_lt hl.2, rfl⟩, ?_⟩
        have x1 := Sx.ex (top := top) p d E1 w1
        exact o.to (x1.trans (Sx.wwrite x1.pre x1.dis q2 (w1.st a q2) (q5.put r1 (.inr ks))))
      · cases h
    · cases h
theorem ss_waug {o k e : Expr} {i : Nat} {ks : Str} {re : RE} {p1 : Pos} (hu : X.A.units + 1 < cLine) (ho : PE X o (tVar i)) (hk : PE X k (tC (.str ks))) (he : PE X e (tEv Φ G X.K re))
    (ha : ∀ ov iv new, augStore k ov iv new = (do holding [new, ov, iv] (setItem ov iv new); release [new, ov, iv] []; pure .next)) :
    PS X (.AugAssign (.Subscript o k p1) .Add e pos) (tSt Φ G g X.K top (.waug i ks re)) :=
  PS.imp (ps_daug hu ho hk he (show InOp X .Add _ from iop_add) ha) fun Dd σ H ⟨ρ, R, wa, s, fl, s', p, d, h, o⟩ => by
    unfold evS at h
    split at h
    · rename_i ds0
      split at h
      · rename_i z0 ez0
        split at h
        · rename_i z1 ds1 e1
          split at h
          · rename_i hl
            rw [Bool.and_eq_true] at hl
            cases h
            obtain ⟨a, q1, q2, ds', kvs, q3, q4, q5⟩ := p.wst hl.1
            cases q3
            obtain ⟨g1, g2⟩ := get_read (k := .inr ks) (.inl q4) q5
            rcases g2 with ⟨y1, y2⟩ | ⟨x', v', y1, y2, y3⟩
            · rw [y1] at ez0; cases ez0
            · rw [y1] at ez0
              cases ez0
              cases y3
              rw [y2] at g1
              refine ⟨_, q1, a, .int z0, rfl, g1, ρ, R, wa, _, _, _, p, e1, fun v1 H1 R1 E1 w1 r1 => ?_⟩
              cases r1
              have p1 := p.ex E1 w1
              obtain ⟨a', q1', q2', ds', kvs', q3', q4', q5'⟩ := p1.wst hl.1
              cases q3'
              rw [q1] at q1'
              cases q1'
              refine ⟨z0, z1, rfl, rfl, _, .inl ⟨kvs', .inr ks, q4', rfl, by rw [← q5'.length]; exact lineOk_lt hl.2, rfl⟩, ?_⟩
              have x1 := Sx.ex (top := top) p d E1 w1
              exact o.to (x1.trans (Sx.wwrite x1.pre x1.dis q2 (w1.st a q2) (q5'.put (.int _) (.inr ks))))
          · cases h
        · cases h
      · cases h
    · cases h
theorem ss_aug {x : Str} {e : Expr} {i : Nat} {re : RE} {bo : BOp} {p1 : Pos} (hb : bo = .add ∨ bo = .sub) (hN : X.N.Nodup) (hi : X.N[i]? = some x) (hx : Loc X.env.scope x) (he : PE X e (tEv Φ G X.K re)) (hf : X.fn x = true ∨ X.env.scope.names.lookup x = some .local) :
    PS X (.AugAssign (.Name x p1) (opB bo) e pos) (tSt Φ G g X.K top (.aug i bo re)) := by
  rcases hb with rfl | rfl
  · refine PS.imp (ps_aug hN hi hx he (show PIp X .Add _ from iop_add) hf) fun Dd σ H ⟨ρ, R, wa, s, fl, s', p, d, h, o⟩ => ?_
    unfold evS at h
    split at h
    · rename_i x0 hx0
      split at h
      · rename_i y s1 e1
        split at h
        · cases h
          obtain ⟨v, h1, h2⟩ := p.fz hx0
          cases h2
          refine ⟨_, h1, ρ, R, wa, s, _, _, p, e1, fun v1 H1 R1 E1 w1 r1 => ?_⟩
          cases r1
          refine ⟨_, _, rfl, rfl, ?_⟩
          have x1 := Sx.ex (top := top) p d E1 w1
          exact o.to (x1.trans (Sx.setfz x1.pre x1.dis (.int _)))
        · exact absurd ‹BOp.add = BOp.sub› (by decide)
        · cases h
      · cases h
    · cases h
  · refine PS.imp (ps_aug hN hi hx he (show PIp X .Sub _ from iop_sub) hf) fun Dd σ H ⟨ρ, R, wa, s, fl, s', p, d, h, o⟩ => ?_
    unfold evS at h
    split at h
    · rename_i x0 hx0
      split at h
      · rename_i y s1 e1
        split at h
        · exact absurd ‹BOp.sub = BOp.add› (by decide)
        · cases h
          obtain ⟨v, h1, h2⟩ := p.fz hx0
          cases h2
          refine ⟨_, h1, ρ, R, wa, s, _, _, p, e1, fun v1 H1 R1 E1 w1 r1 => ?_⟩
          cases r1
          refine ⟨_, _, rfl, rfl, ?_⟩
          have x1 := Sx.ex (top := top) p d E1 w1
          exact o.to (x1.trans (Sx.setfz x1.pre x1.dis (.int _)))
        · cases h
      · cases h
    · cases h
theorem ss_app {o e : Expr} {i : Nat} {re : RE} {apos cpos : Pos} (ho : PE X o (tVar i)) (he : PE X e (tEv Φ G X.K re)) (hbase : attributeBase o "append" X.env (eval o X.env) = eval o X.env) (hline : (apos.endLine == cpos.line) = true)
    (hs : starEach [e] X.env = (false, eval e X.env) :: starEach [] X.env) (hfew : ((backTo cpos (starEach [e] X.env)).all (fun x => !x.1) && (backToKw cpos (keywordEach [] X.env)).all (fun x => x.1.isSome) && decide (([e] : List Expr).length + ([] : List Keyword).length + (if ([] : List Keyword).isEmpty then 0 else 1) < 30)) = true) :
    PS X (.Expr (.Call (.Attribute o "append" apos) [e] [] cpos) pos) (tSt Φ G g X.K top (.app i re)) :=
  PS.imp (ps_expr (pe_bm PySem.F.plainAttrs_list PySem.F.slot_list_append PySem.F.type_list_append mt_append ho (pa_cons he pa_nil hs) hbase hfew hline hs rfl) rfl) fun Dd σ H ⟨ρ, R, wa, s, fl, s', p, d, h, o⟩ => by
    unfold evS at h
    split at h
    · rename_i x s1 e1
      split at h
      · rename_i xs hi
        split at h
        · rename_i hl
          cases h
          obtain ⟨a, kvs0, q1, _, _, q40, _⟩ := own_list p hi
          refine ⟨_, q1, .inl ⟨rfl, kvs0, SqL.of q40⟩, ρ, R, wa, s, x, _, p, e1, fun v1 H1 R1 E1 w1 r1 => ?_⟩
          have p1 := p.ex E1 w1
          obtain ⟨a', kvs, q1', q2, q3, q4, q5⟩ := own_list p1 hi
          rw [q1] at q1'
          cases q1'
          refine ⟨a, kvs, v1, rfl, rfl, q4, by rw [← q5.length]; exact lineOk_lt hl, ?_⟩
          have x1 := Sx.ex (top := top) p d E1 w1
          exact o.to (x1.trans (Sx.write x1.pre x1.dis hi q1 ⟨_, upd_same, q5.append (.cons r1 .nil)⟩))
        · cases h
      · cases h
    · cases h
/-- the state is made -/
theorem ss_wnew {tg : Expr} {keys : List (Option Expr)} {values : List Expr} {i : Nat} {ks : List Str} {rs : REs} {p1 : Pos} (htop : top = true) (ht : PG X tg (gName i)) (h : PPs X p1 keys values (tKvs Φ G X.K ks rs)) (hall : keys.all (·.isSome) = true) (hl : keys.length = values.length) (h0 : keys ≠ []) (h15 : keys.length ≤ 15)
    (hk : ks.length = rs.len) (hks : ks.length ≤ 15) (hs : swapsWithSole [tg] (.Dict keys values p1) pos.line X.env = pure false) (hw : swappedStores [tg] (.Dict keys values p1) X.env = pure none) (h1 : (assignEach [tg] X.env).map (·.2) = [assign tg X.env]) :
    PS X (.Assign [tg] (.Dict keys values p1) pos) (tSt Φ G g X.K top (.wnew i ks rs)) :=
  PS.imp (ps_asg (pe_disp h hall hl h0 h15) ht hs hw h1) fun Dd σ H ⟨ρ, R, wa, s, fl, s', p, d, h, o⟩ => by
    unfold evS at h
    split at h
    · split at h
      · rename_i xs e1
        cases h
        have hwa : wa = none := by
          have w := p.ws
          cases wa with
          | none => rfl
          | some _ => exact w.elim
        subst hwa
        intro a ha
        have rn := rn_of p.sub ha
        have nw := Nw.mut (o := .dK []) p.sub ha
        refine kvs_read hk (p.ex (nw.ex p.ws) (p.ws.nw nw)) e1 fun vs H1 R1 E1 w1 r1 => ?_
        obtain ⟨E2, rn2⟩ := E1.from_new ha rn
        refine ⟨E1.keep _ _ upd_same (by simp), (ks.map Sum.inr).zip vs, ?_, ?_, ?_⟩
        · rw [List.zip_map_left, List.map_map]; rfl
        · rw [List.length_zip, List.length_map]; omega
        · have m := RpP.merge (RpP.zip (ks.map Sum.inr) r1) (ds := []) (kvs := []) .nil
          have x1 := Sx.ex (top := top) p d E2 w1
          have E3 := E2.wr (u := .dK (mergeK [] ((ks.map Sum.inr).zip vs))) ha rn2
          have x2 := Sx.ex (top := top) p d E3 (show Ws X.K R1 _ none none from trivial)
          refine o.to (σ1 := σ.set i (some (V.ref a))) (R1 := R1) (wa1 := some a) ⟨⟨by rw [List.length_set, List.length_set]; exact p.len, fun j c ej => ?_, x2.pre.sub, rn2, _, upd_same, m⟩, fun j k b y z q1 q2 q3 q4 => ?_, x2.gx, fun b mm => ?_, .inr ⟨htop, rfl⟩⟩
          · rcases get_set ej with ⟨e', rfl⟩ | ⟨n, ej⟩
            · subst e'
              have l : i < σ.length := by
                have := (List.getElem?_eq_some_iff.mp ej).1
                rw [List.length_set, p.len] at this
                exact this
              exact ⟨a, List.getElem?_set_self l, rfl⟩
            · rw [List.getElem?_set_ne n]
              have q := x2.pre.cells j c ej
              cases c with
              | no => exact q
              | fz x => exact q
              | st => obtain ⟨b, _, z⟩ := q; cases z
              | own y =>
                obtain ⟨b, z1, z2, z3, z4⟩ := q
                refine ⟨b, z1, z2, fun e => ?_, z4⟩
                cases e
                exact p.new ha (.inr ⟨j, y, ej, z1⟩)
          · have s1 : ∀ j y, (ρ.set i Cell.st)[j]? = some (Cell.own y) → (σ.set i (some (V.ref a)))[j]? = some (some (V.ref b)) → ρ[j]? = some (Cell.own y) ∧ σ[j]? = some (some (V.ref b)) := fun j y h1 h2 => by
              rcases get_set h1 with ⟨_, e⟩ | ⟨n, e⟩
              · cases e
              · rw [List.getElem?_set_ne n] at h2; exact ⟨e, h2⟩
            obtain ⟨u1, u2⟩ := s1 j y q1 q3
            obtain ⟨u3, u4⟩ := s1 k z q2 q4
            exact d j k b y z u1 u3 u2 u4
          · rcases mm with e | ⟨j, y, h1, h2⟩
            · cases e; exact .inr ha
            · rcases get_set h1 with ⟨_, e⟩ | ⟨n, e⟩
              · cases e
              · rw [List.getElem?_set_ne n] at h2; exact .inl (.inr ⟨j, y, e, h2⟩)
      · cases h
    · cases h
/-! ### loops -/
theorem for_read {lk : Option (Addr × HO)} {J : It} {xs : List D} {t : Tg} {gt : TG} {rb : RSs} {Dd : Ends} {σ : L2.St} {H R : Hp} {ρ : Env} {wa : Option Addr} {s s' : W} {fl : Fl} {K : PySem.W.Frag}
    (j : JOk K lk R J xs) (p : Pre K σ H ρ R wa s) (d : Dis σ ρ) (l1 : Lk lk H) (lm : ∀ d o, lk = some (d, o) → ¬ Mo σ ρ wa d) (hg : gOk K t gt)
    (h : forLoop (fun x ρ s => match bindT t x ρ with
      | some ρ1 => evSs Φ G g rb ρ1 s
      | none => none) xs ρ s = some (fl, s'))
    (onx : ∀ ρ', fl = .nx ρ' → ∀ (σ' : L2.St) (H' R' : Hp) (wa' : Option Addr), Sx K top σ H ρ R wa σ' H' ρ' R' wa' s' → Lk lk H' → Dd.nx σ' H')
    (ort : ∀ x, fl = .rt x → ∀ (v : V) (H' R' : Hp) (wa' : Option Addr), Sub R' H' → Ws K R' H' wa' s' → Gx (Mo σ ρ wa) H R H' R' → (wa' = wa ∨ (top = true ∧ wa = none)) → Rp K R' x v → Lk lk H' → Dd.rt v H') :
    ∃ W : Nat → Nat → L2.St → Hp → Prop, (∃ m, W 0 m σ H) ∧ ∀ i m σ H, W i m σ H →
      (J.stop i H ∧ Dd.nx σ H) ∨ (J.go i H ∧ ∃ N : L2.St → Hp → Prop, (∀ σ' H', N σ' H' → ∃ m', m' < m ∧ W (i + 1) m' σ' H') ∧ ∀ x H', J.yld i H x H' → gt x σ H' fun σ2 H2 => tSts Φ G g K top rb { Dd with nx := N, ct := N, bk := Dd.nx } σ2 H2) := by
  let St : Nat → L2.St → Hp → Prop := fun i σ' H' => ∃ ρ' R' wa' si, Sx K top σ H ρ R wa σ' H' ρ' R' wa' si ∧ forLoop (fun x ρ s => match bindT t x ρ with
      | some ρ1 => evSs Φ G g rb ρ1 s
      | none => none) (xs.drop i) ρ' si = some (fl, s') ∧ i ≤ xs.length
  refine ⟨fun i m σ H => m = xs.length - i ∧ St i σ H, ⟨_, rfl, ρ, R, wa, s, Sx.refl p d, h, Nat.zero_le _⟩, ?_⟩
  rintro i m σ1 H1 ⟨em, ρ1, R1, wa1, s1, x1, hl, hi⟩
  have lkOf : ∀ (H' R' : Hp), Gx (Mo σ ρ wa) H R H' R' → Lk lk H' := fun H' R' gx d o e => gx.keep d o (l1 d o e) (lm d o e)
  have lk1 := lkOf _ _ x1.gx
  by_cases c : i = xs.length
  · left
    subst c
    refine ⟨j.stop H1 R1 x1.gx.le x1.pre.sub lk1, ?_⟩
    rw [List.drop_length] at hl
    unfold forLoop at hl
    cases hl
    exact onx ρ1 rfl _ _ _ _ x1 lk1
  · right
    have hlt : i < xs.length := Nat.lt_of_le_of_ne hi c
    have hx : xs[i]? = some xs[i] := by simp [hlt]
    obtain ⟨g1, g2⟩ := j.go i xs[i] H1 R1 hx x1.gx.le x1.pre.sub lk1
    refine ⟨g1, fun σ' H' => St (i + 1) σ' H', fun σ' H' st => ⟨xs.length - (i + 1), by omega, rfl, st⟩, fun x H' hy => ?_⟩
    obtain ⟨R', nw, rx⟩ := g2 x H' hy
    have x2 := x1.trans (Sx.ex (top := top) x1.pre x1.dis (nw.ex x1.pre.ws) (x1.pre.ws.nw nw))
    rw [List.drop_eq_getElem_cons hlt] at hl
    unfold forLoop at hl
    cases eb : bindT t xs[i] ρ1 with
    | none => simp only [eb] at hl; cases hl
    | some ρ2 =>
      simp only [eb] at hl
      refine Sx.bind (top := top) x2.pre x2.dis hg rx eb fun σ2 x3 => ?_
      have x4 := x2.trans x3
      split at hl
      · rename_i ρ3 s3 e3
        exact ⟨ρ2, R', wa1, s1, _, s3, x4.pre, x4.dis, e3, fun ρ' e σ' H'' R'' wa' y => by cases e; exact ⟨ρ3, R'', wa', s3, x4.trans y, hl, hlt⟩, fun _ e => by cases e⟩
      · rename_i y s3 e3
        cases hl
        refine ⟨ρ2, R', wa1, s1, _, _, x4.pre, x4.dis, e3, fun _ e => (by cases e), fun z e v H'' R'' wa' sb w gx hw r => ?_⟩
        have gx' := x4.gx.trans gx x4.own
        refine ort z e v H'' R'' wa' sb w gx' ?_ r (lkOf _ _ gx')
        rcases hw with q | ⟨t', q⟩
        · rcases x4.wa with z | ⟨t', z⟩
          · exact .inl (q.trans z)
          · exact .inr ⟨t', z⟩
        · rcases x4.wa with z | ⟨t'', z⟩
          · exact .inr ⟨t', by rw [← z]; exact q⟩
          · exact .inr ⟨t'', z⟩
      · cases hl
theorem ss_for {tgE iter : Expr} {body : List Stmt} {t : Tg} {gt : TG} {ri : RI} {rb : RSs} (hp : PassesOwn (model X.prog X.w) X.A X.env X.xe) (hc : X.calm = true) (hi : PI X tgE iter (tIt Φ G X.K ri)) (hg0 : gOk X.K t gt) (hg : PG X tgE gt) (hb : PSs X body (tSts Φ G g X.K top rb))
    (hs : ∀ x, foldedSetIterable iter X.env x = pure x) : PS X (.For tgE iter body [] pos) (tSt Φ G g X.K top (.for_ t ri rb)) :=
  PS.imp (ps_for hp hc hi hg hb hs) fun Dd σ H ⟨ρ, R, wa, s, fl, s', p, d, h, o⟩ => by
    unfold evS at h
    split at h
    · rename_i xs s1 e1
      refine ⟨ρ, R, wa, s, xs, s1, p, e1, fun J H1 R1 E1 w1 j => ?_⟩
      have x1 := Sx.ex (top := top) p d E1 w1
      have o1 := o.after x1
      exact for_read j x1.pre x1.dis Lk.nil (fun _ _ e => by cases e) hg0 h (fun ρ' e σ' H' R' wa' y _ => o1.nx ρ' e σ' H' R' wa' y) fun z e v H' R' wa' sb w gx hw r _ => o1.rt z e v H' R' wa' sb w gx hw r
    · cases h
theorem Gx.unlock {M : Addr → Prop} {H R H' R' : Hp} {d : Addr} {kvs : List (Key × V)} {od : Obj} (E : Gx M (upd H d (.frz od (.dK kvs))) R H' R') (h : H d = some (.dK kvs)) : Gx M H R (upd H' d (.dK kvs)) R' := by
  refine ⟨E.le, fun b o e n => ?_, fun a u e => ?_⟩
  · by_cases z : b = d
    · subst z; rw [h] at e; cases e; exact upd_same
    · rw [upd_ne z]; exact E.keep b o (by rw [upd_ne z]; exact e) n
  · rcases E.new a u e with q | q | q
    · exact .inl q
    · by_cases z : a = d
      · subst z; rw [upd_same] at q; cases q
      · rw [upd_ne z] at q; exact .inr (.inl q)
    · exact .inr (.inr q)
theorem Pre.unlock {K : PySem.W.Frag} {σ : L2.St} {H R : Hp} {ρ : Env} {wa : Option Addr} {s : W} {d : Addr} {kvs : List (Key × V)} (p : Pre K σ H ρ R wa s) (r : R d = some (.dK kvs)) : Pre K σ (upd H d (.dK kvs)) ρ R wa s := by
  have wd : wa ≠ some d := fun e => by have := p.ws.st d e; rw [r] at this; cases this
  refine ⟨p.len, fun i c e => ?_, sub_unlock p.sub r, p.ws.wr wd⟩
  have q := p.cells i c e
  cases c with
  | no => exact q
  | fz x => exact q
  | st => exact q
  | own x =>
    obtain ⟨a, h1, h2, h3, h4⟩ := q
    have ad : a ≠ d := fun e => by rw [e, r] at h2; cases h2
    refine ⟨a, h1, h2, h3, ?_⟩
    cases x with
    | list xs => obtain ⟨vs, z1, z2⟩ := h4; exact ⟨vs, by rw [upd_ne ad]; exact z1, z2⟩
    | dict xs => obtain ⟨vs, z1, z2⟩ := h4; exact ⟨vs, by rw [upd_ne ad]; exact z1, z2⟩
    | _ => exact h4
theorem ss_forK {tgE iter : Expr} {body : List Stmt} {t : Tg} {gt : TG} {i0 : Nat} {rb : RSs} (hp : PassesOwn (model X.prog X.w) X.A X.env X.xe) (hc : X.calm = true) (hi : PE X iter (tVar i0)) (hg0 : gOk X.K t gt) (hg : PG X tgE gt) (hb : PSs X body (tSts Φ G g X.K top rb))
    (hs : ∀ x, foldedSetIterable iter X.env x = pure x) : PS X (.For tgE iter body [] pos) (tSt Φ G g X.K top (.for_ t (.keys i0) rb)) := by
  have st := ps_for (pos := pos) hp hc (si_keysF hi) hg hb hs
  refine PS.imp (PS.len0 (PS.or (ps_lock st) st)) fun Dd σ H ⟨ρ, R, wa, s, fl, s', p, d, h, o⟩ ln => ?_
  unfold evS at h
  split at h
  · rename_i xs s1 e1
    unfold evI at e1
    split at e1
    · rename_i ds ed
      cases e1
      obtain ⟨v, h1, h2⟩ := p.fz ed
      cases h2 with
      | @dct a kvs _ h3 h4 =>
        have l : kvs.length ≤ sizeLine := ln.2.2 _ _ (p.sub _ _ h3)
        have nm : ¬ Mo σ ρ wa a := fun m => by have := (p.there m).1; rw [h3] at this; cases this
        rcases p.sub _ _ h3 with h5 | ⟨od, h5⟩
        · left
          refine ⟨a, _, h5, trivial, fun od => ⟨a, od, kvs, h1, upd_same, ?_⟩⟩
          refine for_read (top := top) (lk := some (a, .frz od (.dK kvs))) (jok_keys h4 l) (p.lock h5 h3) d (fun d' o' e => by cases e; exact upd_same) (fun d' o' e => by cases e; exact nm) hg0 h (fun ρ' e σ' H' R' wa' y lk => ?_) fun z e v H' R' wa' sb w gx hw r lk => ?_
          · refine ⟨lk _ _ rfl, o.nx ρ' e σ' _ R' wa' ⟨y.pre.unlock (y.gx.le _ _ h3), y.dis, y.gx.unlock h5, fun b m => ?_, y.wa⟩⟩
            rcases y.own b m with q | q
            · exact .inl q
            · by_cases z : b = a
              · subst z; rw [upd_same] at q; cases q
              · rw [upd_ne z] at q; exact .inr q
          · have ra := gx.le _ _ h3
            have wd : wa' ≠ some a := fun e => by have := w.st a e; rw [ra] at this; cases this
            exact ⟨lk _ _ rfl, o.rt z e v _ R' wa' (sub_unlock sb ra) (w.wr wd) (gx.unlock h5) hw r⟩
        · right
          refine ⟨a, od, kvs, h1, h5, ?_⟩
          exact for_read (top := top) (lk := some (a, .frz od (.dK kvs))) (jok_keys h4 l) p d (fun d' o' e => by cases e; exact h5) (fun d' o' e => by cases e; exact nm) hg0 h (fun ρ' e σ' H' R' wa' y _ => o.nx ρ' e σ' H' R' wa' y) fun z e v H' R' wa' sb w gx hw r _ => o.rt z e v H' R' wa' sb w gx hw r
    · cases e1
  · cases h
theorem ss_while {c : Expr} {body : List Stmt} {rc : RE} {rb : RSs} (hp : PassesOwn (model X.prog X.w) X.A X.env X.xe) (hc : PT X c (tTr Φ G X.K rc)) (hb : PSs X body (tSts Φ G g X.K top rb)) : PS X (.While c body [] pos) (tSt Φ G g X.K top (.whl rc rb)) :=
  PS.imp (ps_while hp hc hb) fun Dd σ H ⟨ρ, R, wa, s, fl, s', p, d, h, o⟩ => by
    unfold evS at h
    refine ⟨fun m σ' H' => ∃ ρ' R' wa' si, Sx X.K top σ H ρ R wa σ' H' ρ' R' wa' si ∧ whLoop (fun ρ s => match ev Φ G ρ rc s with
      | some (.bool t, s1) => some (t, s1)
      | _ => none) (fun ρ s => evSs Φ G g rb ρ s) m ρ' si = some (fl, s'), ⟨g, ρ, R, wa, s, Sx.refl p d, h⟩, ?_⟩
    rintro m σ1 H1 ⟨ρ1, R1, wa1, s1, x1, hl⟩
    cases m with
    | zero => unfold whLoop at hl; cases hl
    | succ m =>
      unfold whLoop at hl
      cases e1 : ev Φ G ρ1 rc s1 with
      | none => simp only [e1] at hl; cases hl
      | some r =>
        obtain ⟨xb, s2⟩ := r
        cases xb with
        | bool b =>
          simp only [e1] at hl
          refine ⟨ρ1, R1, wa1, s1, b, s2, x1.pre, e1, fun H2 R2 E2 w2 => ?_⟩
          have x2 := x1.trans (Sx.ex (top := top) x1.pre x1.dis E2 w2)
          cases b with
          | false =>
            simp only at hl
            cases hl
            refine iteF ?_
            exact o.to x2
          | true =>
            simp only at hl
            refine iteT ?_
            refine ⟨fun σ' H' => ∃ ρ' R' wa' si, Sx X.K top σ H ρ R wa σ' H' ρ' R' wa' si ∧ whLoop (fun ρ s => match ev Φ G ρ rc s with
              | some (.bool t, s1) => some (t, s1)
              | _ => none) (fun ρ s => evSs Φ G g rb ρ s) m ρ' si = some (fl, s'), fun σ' H' st => ⟨m, Nat.lt_succ_self _, st⟩, ?_⟩
            split at hl
            · rename_i ρ3 s3 e3
              exact ⟨ρ1, R2, wa1, s2, _, s3, x2.pre, x2.dis, e3, fun ρ' e σ' H'' R'' wa' y => by cases e; exact ⟨ρ3, R'', wa', s3, x2.trans y, hl⟩, fun _ e => by cases e⟩
            · rename_i y s3 e3
              cases hl
              exact ⟨ρ1, R2, wa1, s2, _, _, x2.pre, x2.dis, e3, fun _ e => (by cases e), fun z e => (o.after x2).rt z e⟩
            · cases hl
        | _ => simp only [e1] at hl; cases hl
end
end PL

set_option Elab.async false
set_option linter.all false
set_option maxRecDepth 100000
set_option maxHeartbeats 4000000
set_option autoImplicit false
/-! PL14: does the table's text stand for the program's text? (a Boolean) -/
namespace PL
open PySem L2 PySem.Spec PyProof.Rows

def bnames : List Str := ["isinstance", "len", "abs", "int", "max", "min", "sorted", "tuple", "list", "dict", "sum", "all", "any", "set", "range", "enumerate", "str", "bool"]
def bn : Blt → Str
  | .isi _ => "isinstance" | .len => "len" | .abs => "abs" | .int => "int" | .max1 => "max" | .max2 => "max" | .min2 => "min" | .sorted => "sorted"
  | .tuple => "tuple" | .list => "list" | .dict => "dict" | .sum => "sum" | .all => "all" | .any => "any" | .lenset => "len" | .sortedset => "sorted"
def tn : Ty → Str
  | .int => "int" | .str => "str" | .bool => "bool" | .tuple => "tuple" | .list => "list" | .dict => "dict"
def glB (sc : Scope) (x : Str) : Bool := decide (sc.names.lookup x = some .globalImplicit) && !(x == ("__debug__" : Str))
def varB (N : List Str) (sc : Scope) (x : Str) (i : Nat) : Bool :=
  decide (N[i]? = some x) && (match sc.names.lookup x with | some .local => true | some .cell => true | some .free => true | _ => false) && !(x == ("__debug__" : Str)) && !(x == ("__classdict__" : Str))
def notSt : Expr → Bool
  | .Starred _ _ => false
  | _ => true
def notSl : Expr → Bool
  | .Slice _ _ _ _ => false
  | _ => true
def notSup : Expr → Bool
  | .Call (.Name _ _) [] [] _ => false
  | _ => true
def notSet : Expr → Bool
  | .Set _ _ _ => false
  | _ => true
def opOk : BOp → Operator → Bool
  | .add, .Add => true | .sub, .Sub => true | .mul, .Mult => true | .fdiv, .FloorDiv => true | .mod, .Mod => true | .pow, .Pow => true
  | _, _ => false
def cOk : COp → CmpOp → Bool
  | .eq, .Eq => true | .ne, .NotEq => true | .lt, .Lt => true | .le, .LtE => true | .gt, .Gt => true | .ge, .GtE => true | .isin, .In => true | .notin, .NotIn => true | .is_, .Is => true | .isnot, .IsNot => true
  | _, _ => false
def relB (scope sc : Scope) : Scope :=
  { scope with names := scope.names.map fun (n, k) => if (k == .free && sc.kind == .function && sc.names.lookup n == some .cell) then (n, .cell) else (n, k) }
def ownW (N : List Str) (own : List Nat) : List (Str × Nat) := own.map fun i => (N.getD i Str.empty, i)
def strK (k : Expr) (s : Str) : Bool := match k with
  | .Constant (.str x) _ _ => decide (x = s)
  | _ => false
def strKs : List (Option Expr) → List Str → Bool
  | [], [] => true
  | some k :: ks, s :: ss => strK k s && strKs ks ss
  | _, _ => false
def plainB (b : Blt) : Bool := match b with
  | .isi _ => false
  | .lenset => false
  | .sortedset => false
  | _ => true

section
variable (N : List Str) (sg : Str → Option (Bool × Nat))
mutual
/-- m: as a test -/
def ok (sc : Scope) (m : Bool) (r : RE) (e : Expr) : Bool := match r with
  | .non => (match e with
    | .Constant .none _ _ => true
    | _ => false)
  | .bl b => (match e with
    | .Constant (.bool c) _ _ => decide (c = b)
    | _ => false)
  | .int i => (match e with
    | .Constant (.int j) _ _ => decide (j = i)
    | _ => false)
  | .str x => (match e with
    | .Constant (.str y) _ _ => decide (y = x)
    | _ => false)
  | .v i => (match e with
    | .Name x _ => varB N sc x i
    | _ => false)
  | .g x => (match e with
    | .Name y _ => decide (y = x) && glB sc x
    | _ => false)
  | .tup es => (match e with
    | .Tuple xs _ _ => decide (es.len ≤ 1000) && oks sc es xs
    | _ => false)
  | .lst es => (match e with
    | .List xs _ => decide (es.len ≤ 1000) && oks sc es xs
    | _ => false)
  | .dct ks es => (match e with
    | .Dict keys vals _ => decide (keys.length = vals.length) && decide (keys.length ≤ 15) && decide (ks.length = es.len) && strKs keys ks && oks sc es vals
    | _ => false)
  | .bin o a b => (match e with
    | .BinOp x op y _ => opOk o op && ok sc false a x && ok sc false b y
    | _ => false)
  | .neg a => (match e with
    | .UnaryOp .USub x _ => ok sc false a x
    | _ => false)
  | .cmp o a b => (match e with
    | .Compare x [op] [y] _ => cOk o op && !(behindInMarks op y) && ok sc false a x && ok sc false b y
    | _ => false)
  | .cmp2 o p a b c => (match e with
    | .Compare x [op, oq] [y, z] _ => cOk o op && cOk p oq && !(behindInMarks oq z) && ok sc false a x && ok sc false b y && ok sc false c z
    | _ => false)
  | .and a b => (match e with
    | .BoolOp .And (x :: y :: rest) p => ok sc m a x && (match rest with
    | [] => ok sc m b y
    | z :: zs => ok sc m b (.BoolOp .And (y :: z :: zs) p))
    | _ => false)
  | .or a b => (match e with
    | .BoolOp .Or (x :: y :: rest) p => ok sc m a x && (match rest with
    | [] => ok sc m b y
    | z :: zs => ok sc m b (.BoolOp .Or (y :: z :: zs) p))
    | _ => false)
  | .not a => (match e with
    | .UnaryOp .Not x _ => ok sc m a x
    | _ => false)
  | .ite c a b => (match e with
    | .IfExp t x y _ => !m && ok sc true c t && ok sc false a x && ok sc false b y
    | _ => false)
  | .ix a b => (match e with
    | .Subscript x y _ => notSl y && ok sc false a x && ok sc false b y
    | _ => false)
  | .sl a lo hi => (match e with
    | .Subscript x (.Slice l h none _) _ => ok sc false a x && okO sc lo l && okO sc hi h
    | _ => false)
  | .call f es => (match e with
    | .Call (.Name x _) args [] _ => decide (x = f) && glB sc f && decide (sg f = some (false, es.len)) && oks sc es args
    | _ => false)
  | .wcall f i es => (match e with
    | .Call (.Name x _) (.Name y _ :: args) [] _ => decide (x = f) && glB sc f && decide (sg f = some (true, es.len)) && varB N sc y i && oks sc es args
    | _ => false)
  | .split a b => (match e with
    | .Call (.Attribute x at' ap) [y] [] p => decide (at' = ("split" : Str)) && notSup x && (ap.endLine == p.line) && notSt y && ok sc false a x && ok sc false b y
    | _ => false)
  | .get a k d => (match e with
    | .Call (.Attribute x at' ap) [y, z] [] p => decide (at' = ("get" : Str)) && notSup x && (ap.endLine == p.line) && notSt y && notSt z && ok sc false a x && ok sc false k y && ok sc false d z
    | _ => false)
  | .wix i k => (match e with
    | .Subscript (.Name x _) y _ => varB N sc x i && strK y k
    | _ => false)
  | .wget i k d => (match e with
    | .Call (.Attribute (.Name x xp) at' ap) [y, z] [] p => decide (at' = ("get" : Str)) && (ap.endLine == p.line) && varB N sc x i && strK y k && notSt z && ok sc false d z
    | _ => false)
  | .lc own elt t it c => (match e with
    | .ListComp e [⟨tgE, iter, ifs, 0⟩] scope _ => okI sc it tgE iter && notSet iter && blkC N sc scope (ownW N own) && tgOk N (fun x => scope.names.lookup x == some .cell) (relB scope sc) tgE t && (t.ixs.all fun i => own.contains i) &&
      ok (relB scope sc) false elt e && okC (relB scope sc) c ifs
    | _ => false)
  | .blt b es => (match b with
    | .isi t => (match es with
      | .cons r .nil => (match e with
        | .Call (.Name x _) [e, .Name y _] [] _ => decide (x = ("isinstance" : Str)) && glB sc x && decide (y = tn t) && glB sc y && notSt e && ok sc false r e
        | _ => false)
      | _ => false)
    | .lenset => (match es with
      | .cons r .nil => (match e with
        | .Call (.Name x _) [.Call (.Name y _) [a] [] _] [] _ => decide (x = ("len" : Str)) && glB sc x && decide (y = ("set" : Str)) && glB sc y && notSt a && ok sc false r a
        | _ => false)
      | _ => false)
    | b => (match e with
      | .Call (.Name x _) (e :: args) [] _ => plainB b && decide (x = bn b) && glB sc x && oks sc es (e :: args)
      | _ => false))
def oks (sc : Scope) (rs : REs) (es : List Expr) : Bool := match rs with
  | .nil => (match es with
    | [] => true
    | _ => false)
  | .cons r rs => (match es with
    | e :: es => notSt e && ok sc false r e && oks sc rs es
    | _ => false)
def okO (sc : Scope) (r : RO) (o : Option Expr) : Bool := match r with
  | .no => (match o with
    | none => true
    | _ => false)
  | .yes r => (match o with
    | some e => ok sc false r e
    | _ => false)
def okC (sc : Scope) (r : RO) (es : List Expr) : Bool := match r with
  | .no => (match es with
    | [] => true
    | _ => false)
  | .yes r => (match es with
    | [e] => ok sc true r e
    | _ => false)
def okI (sc : Scope) (ri : RI) (tg e : Expr) : Bool := match ri with
  | .seq r => ok sc false r e
  | .keys i => (match e with
    | .Name x _ => varB N sc x i
    | _ => false)
  | .rng1 r => (match e with
    | .Call (.Name x _) [a] [] _ => decide (x = ("range" : Str)) && glB sc x && notSt a && ok sc false r a
    | _ => false)
  | .rng2 r1 r2 => (match e with
    | .Call (.Name x _) [a, b] [] _ => decide (x = ("range" : Str)) && glB sc x && notSt a && notSt b && ok sc false r1 a && ok sc false r2 b
    | _ => false)
  | .enm r => (match tg, e with
    | .Tuple _ _ _, .Call (.Name x _) [a] [] _ => decide (x = ("enumerate" : Str)) && glB sc x && notSt a && ok sc false r a
    | _, _ => false)
end
/-- a plain store x = e with e a comprehension on one line -/
def swB (sc : Scope) : Expr → Expr → Option Bool
  | .Name y py, .ListComp _ _ scope pos => some (decide (sc.names.lookup y = some .local) && (py.line == pos.line) && !(scope.names.any fun (n, k) => n == y && (k == .local || k == .cell)))
  | .Name _ _, .SetComp .. => none
  | .Name _ _, .DictComp .. => none
  | _, _ => some false
def isTupE : Expr → Bool
  | .Tuple _ _ _ => true
  | _ => false
def asgB (sc : Scope) (tg e : Expr) : Bool := match tg with
  | .Name _ _ => (swB sc tg e).isSome
  | .Tuple _ _ _ => !(isTupE e)
  | _ => false
def okP (sc : Scope) (ps : RPs) (es : List Expr) : Bool := match ps with
  | .nil => (match es with
    | [] => true
    | _ => false)
  | .fr r rs => (match es with
    | e :: es => notSt e && ok N sg sc false r e && okP sc rs es
    | _ => false)
  | .nl rs => (match es with
    | .List [] _ :: es => okP sc rs es
    | _ => false)
  | .nd rs => (match es with
    | .Dict [] [] _ :: es => okP sc rs es
    | _ => false)
def namesOf : List Expr → List Str
  | [] => []
  | .Name x _ :: es => x :: namesOf es
  | _ :: es => namesOf es
variable (top : Bool)
mutual
def okS (sc : Scope) (r : RS) (st : Stmt) : Bool := match r with
  | .asg t r => (match st with
    | .Assign [tg] e _ => tgOk N (fun _ => true) sc tg t && ok N sg sc false r e && asgB sc tg e
    | _ => false)
  | .par is ps => (match st with
    | .Assign [.Tuple ts _ _] (.Tuple es _ _) _ => decide (is.length ≤ 1000) && nmsOk N (fun _ => true) sc ts is && okP N sg sc ps es && decide is.Nodup && decide (sc.kind = .function) &&
    (match swSt (fun x => sc.names.lookup x) ts es with
      | some none => true
      | some (some xs) => decide (xs = namesOf ts) && (xs.all fun x => decide (sc.names.lookup x = some .local)) && decide (xs.length = is.length) && decide (es.length = is.length) && (decide (is.length = 2) || decide (is.length = 3))
      | none => false)
    | _ => false)
  | .newl i => (match st with
    | .Assign [.Name x p] (.List [] _) _ => tgOk N (fun _ => true) sc (.Name x p) (.nm i)
    | _ => false)
  | .newd i => (match st with
    | .Assign [.Name x p] (.Dict [] [] _) _ => tgOk N (fun _ => true) sc (.Name x p) (.nm i)
    | _ => false)
  | .put i rk re => (match st with
    | .Assign [.Subscript (.Name x _) k _] e _ => varB N sc x i && notSl k && ok N sg sc false rk k && ok N sg sc false re e
    | _ => false)
  | .wput i ks re => (match st with
    | .Assign [.Subscript (.Name x _) k _] e _ => varB N sc x i && strK k ks && ok N sg sc false re e
    | _ => false)
  | .waug i ks re => (match st with
    | .AugAssign (.Subscript (.Name x _) k _) .Add e _ => varB N sc x i && strK k ks && ok N sg sc false re e
    | _ => false)
  | .wnew i ks rs => (match st with
    | .Assign [.Name x p] (.Dict keys vals _) _ => top && tgOk N (fun _ => true) sc (.Name x p) (.nm i) && decide (keys.length = vals.length) && decide (keys.length ≤ 15) && decide (ks.length = rs.len) && !keys.isEmpty && strKs keys ks && oks N sg sc rs vals
    | _ => false)
  | .aug i o r => (match st with
    | .AugAssign (.Name x p) op e _ => tgOk N (fun _ => true) sc (.Name x p) (.nm i) && (match o with | .add => true | .sub => true | _ => false) && opOk o op && ok N sg sc false r e
    | _ => false)
  | .app i r => (match st with
    | .Expr (.Call (.Attribute (.Name x _) at' ap) [e] [] p) _ => decide (at' = ("append" : Str)) && (ap.endLine == p.line) && varB N sc x i && notSt e && ok N sg sc false r e
    | _ => false)
  | .ite c a b => (match st with
    | .If t x y _ => ok N sg sc true c t && okSs sc a x && okSs sc b y
    | _ => false)
  | .for_ t it body => (match st with
    | .For tgE iter b [] _ => tgOk N (fun _ => true) sc tgE t && okI N sg sc it tgE iter && notSet iter && okSs sc body b
    | _ => false)
  | .whl c body => (match st with
    | .While t b [] _ => ok N sg sc true c t && okSs sc body b
    | _ => false)
  | .ret r => (match st with
    | .Return (some e) _ => ok N sg sc false r e
    | .Return none _ => (match r with
      | .non => true
      | _ => false)
    | _ => false)
  | _ => false
def okSs (sc : Scope) (rs : RSs) (sts : List Stmt) : Bool := match rs with
  | .nil => (match sts with
    | [] => true
    | _ => false)
  | .cons r0 rs => (match r0 with
    | .frz _ => okSs sc rs sts
    | _ => (match sts with
      | st :: sts => okS sc r0 st && okSs sc rs sts
      | _ => false))
end
end
end PL

set_option Elab.async false
set_option linter.all false
set_option maxRecDepth 100000
set_option maxHeartbeats 4000000
set_option autoImplicit false
/-! PL15: what the table's text says holds of the program's text: expressions. -/
namespace PL
open PySem L2 PySem.Spec PyProof.Rows

structure Good (X : Cx) (N : List Str) (sg : Str → Option (Bool × Nat)) (Φ : Fn) (G : Str → Option D) (sc : Scope) : Prop where
  hN : X.N = N
  nd : N.Nodup
  scE : X.env.scope = sc
  kind : sc.kind = .function
  calm : X.calm = true
  hu : X.A.units + 65 < cLine
  glo : ∀ x d, G x = some d → ∃ v u, X.mg x = some u ∧ RelV v u ∧ ∀ R, Rp X.K R d v
  fns : ∀ f w n, sg f = some (w, n) → ∃ k fa fd ps, FnOk X.prog X.w X.K X.mg X.base CX0 k fa fd ps (spF X.K Φ f w ps.length) ∧ Room k X.A ∧ X.mg f = some (.ref fa) ∧ PySem.W.keepIn X.K (.ref fa) = true ∧ L2.Binds X.K fd ps [] ∧ ps.length = n + (if w then 1 else 0)
  blt : ∀ x ∈ bnames, X.mg x = none
theorem relB_eq (scope : Scope) (env : PySem.Env) : relabel scope env = relB scope env.scope := rfl
section
variable {X : Cx} {N : List Str} {sg : Str → Option (Bool × Nat)} {Φ : Fn} {G : Str → Option D} {sc : Scope}
theorem Good.blk (h : Good X N sg Φ G sc) {scope : Scope} {ow : List (Str × Nat)} (b : BlkOk N sc scope ow) (s : Shared) (H : Hp) (C : Addr) (cl : List (Str × Addr)) (fp : List Addr) :
    Good (X.blk s H scope (compEnvC scope cl C X.env) fp) N sg Φ G (relB scope sc) where
  hN := h.hN
  nd := h.nd
  scE := by show relabel scope X.env = _; rw [relB_eq, h.scE]
  kind := b.kind
  calm := h.calm
  hu := h.hu
  glo := h.glo
  fns := h.fns
  blt := h.blt
theorem star_cons {e : Expr} {es : List Expr} {env : PySem.Env} (h : notSt e = true) : starEach (e :: es) env = (false, eval e env) :: starEach es env := by
  cases e <;> first | rfl | cases h
theorem back_any {pos : Pos} (l : List (Bool × Sem Value)) : (backTo pos l).any (·.1) = l.any (·.1) := by
  unfold backTo
  rw [List.any_map]
  rfl
theorem varB_pe {x : Str} {i : Nat} {p : Pos} (g : Good X N sg Φ G sc) (h : varB N sc x i = true) : PE X (.Name x p) (tVar i) := by
  unfold varB at h
  simp only [Bool.and_eq_true, decide_eq_true_eq, Bool.not_eq_true'] at h
  obtain ⟨⟨⟨h1, h2⟩, h3⟩, h4⟩ := h
  refine pe_var (by rw [g.hN]; exact h1) ?_ h3 h4
  rw [g.scE]
  unfold Vis
  split at h2
  · exact .inl ‹_›
  · exact .inr (.inl ‹_›)
  · exact .inr (.inr ‹_›)
  · cases h2
theorem glB_gl {x : Str} (g : Good X N sg Φ G sc) (h : glB sc x = true) : Gl X x ∧ (x == ("__debug__" : Str)) = false := by
  unfold glB at h
  simp only [Bool.and_eq_true, decide_eq_true_eq, Bool.not_eq_true'] at h
  refine ⟨?_, h.2⟩
  unfold Gl Env.kindOf
  rw [g.scE]
  exact h.1
theorem opOk_eq {o : BOp} {op : Operator} (h : opOk o op = true) : op = opB o := by
  cases o <;> cases op <;> first | rfl | cases h
theorem cOk_eq {o : COp} {op : CmpOp} (h : cOk o op = true) : op = opC o := by
  cases o <;> cases op <;> first | rfl | cases h
theorem pe_never {e : Expr} {t : TE} (h : ∀ σ H Q, ¬ t σ H Q) : PE X e t := ⟨fun pins s σ H Q I q => (h σ H Q q).elim⟩
theorem sd_g {x : Str} {p : Pos} (g : Good X N sg Φ G sc) (h : glB sc x = true) : PE X (.Name x p) (tEv Φ G X.K (.g x)) := by
  obtain ⟨h1, h2⟩ := glB_gl g h
  cases e : G x with
  | none =>
    refine pe_never fun σ H Q ⟨ρ, R, wa, s, y, s', p, h, q⟩ => ?_
    unfold ev at h
    rw [e] at h
    cases h
  | some d =>
    obtain ⟨v, u, q1, q2, q3⟩ := g.glo x d e
    exact sd_const (pe_glob h1 q1 q2 h2) (fun ρ s => by unfold ev; rw [e]) q3
theorem plainIx {b : Expr} (h : notSl b = true) : PlainIx b := fun o i => by cases b <;> first | rfl | cases h
theorem base_ok {o : Expr} {m : Str} {env : PySem.Env} (h : notSup o = true) : attributeBase o m env (eval o env) = eval o env := by
  unfold attributeBase
  split
  · cases h
  · rfl
theorem bn_ok {b : Blt} (h : plainB b = true) : bootBuiltins (bn b) = some (fnB b) ∧ bn b ≠ "__name__" ∧ bn b ∈ bnames ∧ fnB b ≠ .none := by
  cases b <;> first | exact ⟨by rfl, by decide, by decide, by decide⟩ | cases h
theorem plainB_cr (g : Good X N sg Φ G sc) {b : Blt} (h : plainB b = true) : CallR X (fnB b) (rBlt X.K b) := by
  by_cases hs : b = .sorted
  · subst hs; exact cr_sortedAny g.calm g.hu
  · exact cr_blt g.calm g.hu b ⟨fun e => (by subst e; cases h), fun e => (by subst e; cases h), hs, fun t e => (by subst e; cases h)⟩
theorem tn_boot (t : Ty) : bootBuiltins (tn t) = some (.type (tyN t)) ∧ tn t ≠ "__name__" ∧ tn t ∈ bnames := by
  cases t <;> exact ⟨by rfl, by decide, by decide⟩
theorem strK_pe {k : Expr} {s : Str} (h : strK k s = true) : PE X k (tC (.str s)) := by
  unfold strK at h
  split at h
  · have := of_decide_eq_true h
    subst this
    exact pe_str
  · cases h
theorem strK_noSl {k : Expr} {s : Str} (h : strK k s = true) : NoSl k ∧ notSt k = true ∧ ∀ ov iv new, augStore k ov iv new = (do holding [new, ov, iv] (setItem ov iv new); release [new, ov, iv] []; pure .next) := by
  unfold strK at h
  split at h
  · exact ⟨fun _ _ => rfl, rfl, fun _ _ _ => rfl⟩
  · cases h
theorem m2_ok {o e f : Expr} {m : Str} {apos cpos : Pos} (h1 : attributeBase o m X.env (eval o X.env) = eval o X.env) (h2 : notSt e = true) (h3 : notSt f = true) (h4 : (apos.endLine == cpos.line) = true) : M2 X o m apos e f cpos := by
  have s : starEach [e, f] X.env = [(false, eval e X.env), (false, eval f X.env)] := by rw [star_cons h2, star_cons h3]; rfl
  refine ⟨h1, ?_, h4, ?_⟩
  · rw [s]; rfl
  · rw [s]; rfl
/-- isTrue takes the value of such an expression -/
def plT : Expr → Bool
  | .UnaryOp .Not _ _ => false
  | .BoolOp _ _ _ => false
  | .IfExp _ _ _ _ => false
  | .Compare _ _ _ _ => false
  | _ => true
theorem plT_ok {e : Expr} (h : plT e = true) {env : PySem.Env} : ∀ whole, isTrue e env whole = (do let v ← whole; standAt e.pos; holding [v] (truthy v)) := by
  intro whole
  cases e with
  | UnaryOp op x p => cases op <;> first | rfl | cases h
  | BoolOp _ _ _ => cases h
  | IfExp _ _ _ _ => cases h
  | Compare _ _ _ _ => cases h
  | _ => rfl
theorem PT.of_pw {e : Expr} {t : TT} (h : PW X e t) : PT X e t := ⟨fun pins s σ H Q I q => h.run _ pins s σ H Q I q⟩
end
/-- what is known of an expression whose text is right -/
structure Snd (X : Cx) (Φ : Fn) (G : Str → Option D) (m : Bool) (r : RE) (e : Expr) : Prop where
  pe : m = false → PE X e (tEv Φ G X.K r)
  rd : m = false → PE X e (tRd Φ G X.K r)
  pt : m = true → PT X e (tTr Φ G X.K r)
  pw : m = true → ∀ op es p, e = .BoolOp op es p → PW X e (tTr Φ G X.K r)
section
variable {X : Cx} {N : List Str} {sg : Str → Option (Bool × Nat)} {Φ : Fn} {G : Str → Option D} {sc : Scope} {m : Bool}
theorem Snd.val {r : RE} {e : Expr} (h : PE X e (tEv Φ G X.K r)) (hp : plT e = true) (n : ∀ i, r ≠ .v i) : Snd X Φ G m r e :=
  ⟨fun _ => h, fun _ => sr_of n h, fun _ => st_val h (plT_ok hp), fun _ op es p e' => by subst e'; cases hp⟩
theorem strKs_ok : ∀ {keys : List (Option Expr)} {ks : List Str}, strKs keys ks = true → keys.length = ks.length ∧ keys.all (·.isSome) = true
  | [], [], _ => ⟨rfl, rfl⟩
  | [], _ :: _, h => by simp [strKs] at h
  | none :: _, [], h => by simp [strKs] at h
  | some _ :: _, [], h => by simp [strKs] at h
  | none :: _, _ :: _, h => by simp [strKs] at h
  | some k :: keys, s :: ks, h => by
    simp only [strKs, Bool.and_eq_true] at h
    obtain ⟨q1, q2⟩ := strKs_ok h.2
    exact ⟨by rw [List.length_cons, List.length_cons, q1], by rw [List.all_cons, q2]; rfl⟩
/-- one after another -/
inductive SndA (X : Cx) (Φ : Fn) (G : Str → Option D) : REs → List Expr → Prop
  | nil : SndA X Φ G .nil []
  | cons {r : RE} {rs : REs} {e : Expr} {es : List Expr} : notSt e = true → PE X e (tEv Φ G X.K r) → PE X e (tRd Φ G X.K r) → SndA X Φ G rs es → SndA X Φ G (.cons r rs) (e :: es)
theorem SndA.pa : ∀ {rs : REs} {es : List Expr}, SndA X Φ G rs es → PA X es (tEvs Φ G X.K rs)
  | _, _, .nil => sa_nil
  | _, _, .cons h1 h2 _ t => sa_cons h2 t.pa (star_cons h1)
theorem SndA.rd : ∀ {rs : REs} {es : List Expr}, SndA X Φ G rs es → PA X es (tRds Φ G X.K rs)
  | _, _, .nil => sar_nil
  | _, _, .cons h1 _ h3 t => sar_cons h3 t.rd (star_cons h1)
theorem SndA.star {env : PySem.Env} : ∀ {rs : REs} {es : List Expr}, SndA X Φ G rs es → (starEach es env).any (·.1) = false
  | _, _, .nil => rfl
  | _, _, .cons h1 _ _ t => by rw [star_cons h1, List.any_cons, t.star]; rfl
theorem SndA.len : ∀ {rs : REs} {es : List Expr}, SndA X Φ G rs es → es.length = rs.len
  | _, _, .nil => rfl
  | _, _, .cons _ _ _ t => by rw [List.length_cons, t.len]; rfl
theorem SndA.pps {pos : Pos} : ∀ {keys : List (Option Expr)} {ks : List Str} {rs : REs} {es : List Expr}, strKs keys ks = true → ks.length = rs.len → SndA X Φ G rs es → PPs X pos keys es (tKvs Φ G X.K ks rs)
  | [], [], _, _, _, _, .nil => pps_nil
  | [], [], _, _, _, h, .cons _ _ _ _ => by simp [REs.len] at h
  | [], _ :: _, _, _, h, _, _ => by simp [strKs] at h
  | none :: _, [], _, _, h, _, _ => by simp [strKs] at h
  | some _ :: _, [], _, _, h, _, _ => by simp [strKs] at h
  | none :: _, _ :: _, _, _, h, _, _ => by simp [strKs] at h
  | some k :: keys, s :: ks, _, _, _, h, .nil => by simp [REs.len] at h
  | some k :: keys, s :: ks, _, _, hk, hl, .cons h1 h2 _ t => by
    simp only [strKs, Bool.and_eq_true] at hk
    exact pps_cons (strK_pe hk.1) h2 (SndA.pps hk.2 (by simpa [REs.len] using hl) t)
theorem ownW_snd (own : List Nat) : own = (ownW N own).map (·.2) := by
  unfold ownW
  rw [List.map_map]
  exact (List.map_id own).symm
theorem set_ok {e : Expr} {env : PySem.Env} (h : notSet e = true) : ∀ x, foldedSetIterable e env x = pure x := fun x => by
  cases e <;> first | rfl | cases h
theorem lc_build {own : List Nat} {elt : RE} {t : Tg} {it : RI} {c : RO} {e tgE iter : Expr} {ifs : List Expr} {scope : Scope} {pos : Pos} (g : Good X N sg Φ G sc)
    (h1 : (∃ i, it = .keys i ∧ PE X iter (tVar i)) ∨ PI X tgE iter (tIt Φ G X.K it)) (h2 : notSet iter = true) (h3 : blkC N sc scope (ownW N own) = true) (h4 : tgOk N (fun x => scope.names.lookup x == some .cell) (relB scope sc) tgE t = true) (h5 : (t.ixs.all fun i => own.contains i) = true)
    (h6 : ∀ {X' : Cx}, X'.K = X.K → Good X' N sg Φ G (relB scope sc) → PE X' e (tEv Φ G X.K elt)) (h7 : ∀ {X' : Cx}, X'.K = X.K → Good X' N sg Φ G (relB scope sc) → PTs X' ifs (tCo Φ G X.K c)) :
    PE X (.ListComp e [⟨tgE, iter, ifs, 0⟩] scope pos) (tEv Φ G X.K (.lc own elt t it c)) ∧
    ∀ (i : Nat) (y : Str) (py spos : Pos), X.N[i]? = some y → X.env.scope.names.lookup y = some .local → swapsWith (.ListComp e [⟨tgE, iter, ifs, 0⟩] scope pos) (some (.Name y py)) spos.line X.env = pure true →
      PS X (.Assign [.Name y py] (.ListComp e [⟨tgE, iter, ifs, 0⟩] scope pos) spos) (tAsg (tEv Φ G X.K (.lc own elt t it c)) (gName i)) := by
  have bo := blkOk_by h3
  have bo' : BlkOk X.N X.env.scope scope (ownW N own) := by rw [g.hN, g.scE]; exact bo
  have nd' : X.N.Nodup := by rw [g.hN]; exact g.nd
  have gd := fun s H C cl fp => g.blk bo s H C cl fp
  obtain ⟨gt, hgt⟩ : ∃ gt : TG, gOk X.K t gt ∧ ∀ (s : Shared) (H : Hp) (C : Addr) (cl : List (Str × Addr)) (fp : List Addr), PG (X.blk s H scope (compEnvC scope cl C X.env) fp) tgE gt := by
    unfold tgOk at h4
    split at h4
    · rename_i x p i
      simp only [nmsOk, Bool.and_eq_true, Bool.or_eq_true, decide_eq_true_eq] at h4
      obtain ⟨⟨q1, q2⟩, -⟩ := h4
      refine ⟨_, gok_nm i, fun s H C cl fp => ?_⟩
      have gb := gd s H C cl fp
      refine pg_name (by rw [gb.hN]; exact gb.nd) (by rw [gb.hN]; exact q1) ?_ ?_
      · rw [gb.scE]; exact q2.imp id (·.1)
      · rw [gb.scE]; exact q2.elim .inr fun z => .inl z.2
    · rename_i es k p is
      refine ⟨_, gok_tup is, fun s H C cl fp => ?_⟩
      have gb := gd s H C cl fp
      obtain ⟨q1, q2, q3⟩ := nms_pgs (X := X.blk s H scope (compEnvC scope cl C X.env) fp) (by rw [gb.hN]; exact gb.nd) (es := es) (is := is) (by rw [gb.hN, gb.scE]; exact h4)
      exact PG.or (pg_tup gb.calm q1 q2 q3) (pg_unl gb.calm q1 q2 q3)
    · cases h4
  have h5' : ∀ i ∈ t.ixs, i ∈ own := fun i hi => by
    have := List.all_eq_true.mp h5 i hi
    exact List.contains_iff_mem.mp this
  have he : ∀ (s : Shared) (H : Hp) (C : Addr) (cl : List (Str × Addr)) (fp : List Addr), PE (X.blk s H scope (compEnvC scope cl C X.env) fp) e (tEv Φ G X.K elt) := fun s H C cl fp => h6 rfl (gd s H C cl fp)
  have ht : ∀ (s : Shared) (H : Hp) (C : Addr) (cl : List (Str × Addr)) (fp : List Addr), PTs (X.blk s H scope (compEnvC scope cl C X.env) fp) ifs (tCo Φ G X.K c) := fun s H C cl fp => h7 rfl (gd s H C cl fp)
  rcases h1 with ⟨i, rfl, h1⟩ | h1
  · exact sd_lcK g.calm nd' (ownW_snd own) h1 bo' hgt.1 h5' hgt.2 ht he (set_ok h2)
  · exact sd_lc g.calm nd' (ownW_snd own) h1 bo' hgt.1 h5' hgt.2 ht he (set_ok h2)
mutual
theorem ok_snd (r : RE) : ∀ {X : Cx} {sc : Scope} {m : Bool} {e : Expr}, Good X N sg Φ G sc → ok N sg sc m r e = true → Snd X Φ G m r e := by
  intro X sc m e g h
  cases r with
  | non =>
    unfold ok at h
    split at h
    · exact .val (sd_const pe_non (fun ρ s => by unfold ev; rfl) fun R => .non) rfl (by simp)
    · cases h
  | bl b =>
    unfold ok at h
    split at h
    · have := of_decide_eq_true h
      subst this
      exact .val (sd_const pe_bl (fun ρ s => by unfold ev; rfl) fun R => .bl _) rfl (by simp)
    · cases h
  | int i =>
    unfold ok at h
    split at h
    · have := of_decide_eq_true h
      subst this
      exact .val (sd_const pe_int (fun ρ s => by unfold ev; rfl) fun R => .int _) rfl (by simp)
    · cases h
  | str x =>
    unfold ok at h
    split at h
    · have := of_decide_eq_true h
      subst this
      exact .val (sd_const pe_str (fun ρ s => by unfold ev; rfl) fun R => .str _) rfl (by simp)
    · cases h
  | v i =>
    unfold ok at h
    split at h
    · have q := fun p => varB_pe (p := p) g h
      exact ⟨fun _ => sd_v (q _), fun _ => sr_v (q _), fun _ => st_val (sd_v (q _)) (plT_ok rfl), fun _ op es p e' => by cases e'⟩
    · cases h
  | g x =>
    unfold ok at h
    split at h
    · simp only [Bool.and_eq_true, decide_eq_true_eq] at h
      obtain ⟨rfl, h⟩ := h
      exact .val (sd_g g h) rfl (by simp)
    · cases h
  | tup es =>
    unfold ok at h
    split at h
    · simp only [Bool.and_eq_true, decide_eq_true_eq] at h
      exact .val (sd_tup h.1 (oks_snd es g h.2).pa) rfl (by simp)
    · cases h
  | lst es =>
    unfold ok at h
    split at h
    · simp only [Bool.and_eq_true, decide_eq_true_eq] at h
      exact .val (sd_lst h.1 (oks_snd es g h.2).pa) rfl (by simp)
    · cases h
  | dct ks es =>
    unfold ok at h
    split at h
    · rename_i keys vals p
      simp only [Bool.and_eq_true, decide_eq_true_eq] at h
      obtain ⟨⟨⟨⟨h1, h2⟩, h3⟩, h4⟩, h5⟩ := h
      have q := oks_snd es g h5
      obtain ⟨l1, l2⟩ := strKs_ok h4
      cases keys with
      | nil =>
        cases vals with
        | nil =>
          cases ks with
          | nil =>
            cases es with
            | nil => exact .val sd_dct0 rfl (by simp)
            | cons _ _ => simp [REs.len] at h3
          | cons _ _ => simp at l1
        | cons _ _ => simp at h1
      | cons k keys => exact .val (sd_dct (q.pps h4 h3) l2 h1 (by simp) h2 h3 (by rw [← l1]; exact h2)) rfl (by simp)
    · cases h
  | bin o a b =>
    unfold ok at h
    split at h
    · simp only [Bool.and_eq_true] at h
      obtain ⟨⟨h1, h2⟩, h3⟩ := h
      have := opOk_eq h1
      subst this
      exact .val (sd_bin ((ok_snd a g h2).rd rfl) ((ok_snd b g h3).rd rfl)) rfl (by simp)
    · cases h
  | neg a =>
    unfold ok at h
    split at h
    · exact .val (sd_neg ((ok_snd a g h).pe rfl)) rfl (by simp)
    · cases h
  | cmp o a b =>
    unfold ok at h
    split at h
    · simp only [Bool.and_eq_true, Bool.not_eq_true'] at h
      obtain ⟨⟨⟨h1, h2⟩, h3⟩, h4⟩ := h
      have := cOk_eq h1
      subst this
      have q1 := (ok_snd a g h3).rd rfl
      have q2 := (ok_snd b g h4).rd rfl
      exact ⟨fun _ => sd_cmp g.hu h2 q1 q2, fun _ => sr_of (by simp) (sd_cmp g.hu h2 q1 q2), fun _ => st_cmp g.hu h2 q1 q2, fun _ op es p e' => by cases e'⟩
    · cases h
  | cmp2 o p a b c =>
    unfold ok at h
    split at h
    · simp only [Bool.and_eq_true, Bool.not_eq_true'] at h
      obtain ⟨⟨⟨⟨⟨h1, h2⟩, h3⟩, h4⟩, h5⟩, h6⟩ := h
      have := cOk_eq h1
      subst this
      have := cOk_eq h2
      subst this
      have q1 := (ok_snd a g h4).rd rfl
      have q2 := (ok_snd b g h5).rd rfl
      have q3 := (ok_snd c g h6).rd rfl
      exact ⟨fun _ => sd_cmp2 g.hu h3 q1 q2 q3, fun _ => sr_of (by simp) (sd_cmp2 g.hu h3 q1 q2 q3), fun _ => st_cmp2 g.hu h3 q1 q2 q3, fun _ op es p e' => by cases e'⟩
    · cases h
  | and a b =>
    unfold ok at h
    split at h
    · simp only [Bool.and_eq_true] at h
      obtain ⟨h1, h2⟩ := h
      have qa := ok_snd a g h1
      split at h2
      · have qb := ok_snd b g h2
        refine ⟨fun e' => ?_, fun e' => ?_, fun e' => ?_, fun e' _ _ _ e2 => ?_⟩
        · exact sd_and (qa.pe e') (pe_one (qb.pe e'))
        · exact sr_of (by simp) (sd_and (qa.pe e') (pe_one (qb.pe e')))
        · exact PT.of_pw (sw_and (qa.pt e') (pw_and1 (qb.pt e')))
        · exact sw_and (qa.pt e') (pw_and1 (qb.pt e'))
      · have qb := ok_snd b g h2
        refine ⟨fun e' => ?_, fun e' => ?_, fun e' => ?_, fun e' _ _ _ e2 => ?_⟩
        · exact sd_and (qa.pe e') (qb.pe e')
        · exact sr_of (by simp) (sd_and (qa.pe e') (qb.pe e'))
        · exact PT.of_pw (sw_and (qa.pt e') (qb.pw e' _ _ _ rfl))
        · exact sw_and (qa.pt e') (qb.pw e' _ _ _ rfl)
    · cases h
  | or a b =>
    unfold ok at h
    split at h
    · simp only [Bool.and_eq_true] at h
      obtain ⟨h1, h2⟩ := h
      have qa := ok_snd a g h1
      split at h2
      · have qb := ok_snd b g h2
        refine ⟨fun e' => ?_, fun e' => ?_, fun e' => ?_, fun e' _ _ _ e2 => ?_⟩
        · exact sd_or (qa.pe e') (pe_one (qb.pe e'))
        · exact sr_of (by simp) (sd_or (qa.pe e') (pe_one (qb.pe e')))
        · exact PT.of_pw (sw_or (qa.pt e') (pw_or1 (qb.pt e')))
        · exact sw_or (qa.pt e') (pw_or1 (qb.pt e'))
      · have qb := ok_snd b g h2
        refine ⟨fun e' => ?_, fun e' => ?_, fun e' => ?_, fun e' _ _ _ e2 => ?_⟩
        · exact sd_or (qa.pe e') (qb.pe e')
        · exact sr_of (by simp) (sd_or (qa.pe e') (qb.pe e'))
        · exact PT.of_pw (sw_or (qa.pt e') (qb.pw e' _ _ _ rfl))
        · exact sw_or (qa.pt e') (qb.pw e' _ _ _ rfl)
    · cases h
  | not a =>
    unfold ok at h
    split at h
    · have q := ok_snd a g h
      exact ⟨fun e' => sd_not (q.pe e'), fun e' => sr_of (by simp) (sd_not (q.pe e')), fun e' => st_not (q.pt e'), fun _ op es p e' => by cases e'⟩
    · cases h
  | ite c a b =>
    unfold ok at h
    split at h
    · simp only [Bool.and_eq_true, Bool.not_eq_true'] at h
      obtain ⟨⟨⟨h1, h2⟩, h3⟩, h4⟩ := h
      have q := sd_ite (pos := by assumption) ((ok_snd c g h2).pt rfl) ((ok_snd a g h3).pe rfl) ((ok_snd b g h4).pe rfl)
      exact ⟨fun _ => q, fun _ => sr_of (by simp) q, fun e' => (by rw [h1] at e'; cases e'), fun e' => (by rw [h1] at e'; cases e')⟩
    · cases h
  | ix a b =>
    unfold ok at h
    split at h
    · simp only [Bool.and_eq_true] at h
      obtain ⟨⟨h1, h2⟩, h3⟩ := h
      exact .val (sd_ix (Nat.lt_of_le_of_lt (Nat.add_le_add_left (by decide : 1 ≤ 65) _) g.hu) ((ok_snd a g h2).rd rfl) ((ok_snd b g h3).pe rfl) (plainIx h1)) rfl (by simp)
    · cases h
  | sl a lo hi =>
    unfold ok at h
    split at h
    · simp only [Bool.and_eq_true] at h
      obtain ⟨⟨h1, h2⟩, h3⟩ := h
      exact .val (sd_sl ((ok_snd a g h1).rd rfl) (okO_snd lo g h2) (okO_snd hi g h3)) rfl (by simp)
    · cases h
  | call f es =>
    unfold ok at h
    split at h
    · simp only [Bool.and_eq_true, decide_eq_true_eq] at h
      obtain ⟨⟨⟨rfl, h2⟩, h3⟩, h4⟩ := h
      obtain ⟨gl, db⟩ := glB_gl g h2
      obtain ⟨k, fa, fd, ps, F, hr, hm, hk, hb, hl⟩ := g.fns _ _ _ h3
      have q := oks_snd es g h4
      rename_i args p
      cases args with
      | nil =>
        cases q with
        | nil => exact .val (sd_call0 F hr gl hm hk hb hl.symm db) rfl (by simp)
      | cons a args =>
        have st := q.star (env := X.env)
        cases q with
        | cons n1 n2 n3 n4 =>
          exact .val (sd_call (CX := CX0) F hr gl hm hk hb (SndA.cons n1 n2 n3 n4).pa hl.symm db (star_cons n1) (by rw [back_any]; exact n4.star)) rfl (by simp)
    · cases h
  | wcall f i es =>
    unfold ok at h
    split at h
    · simp only [Bool.and_eq_true, decide_eq_true_eq] at h
      obtain ⟨⟨⟨⟨rfl, h2⟩, h3⟩, h4⟩, h5⟩ := h
      obtain ⟨gl, db⟩ := glB_gl g h2
      obtain ⟨k, fa, fd, ps, F, hr, hm, hk, hb, hl⟩ := g.fns _ _ _ h3
      have q := oks_snd es g h5
      exact .val (sd_wcall F hr gl hm hk hb (varB_pe g h4) q.pa hl.symm db (star_cons rfl) (by rw [back_any]; exact q.star)) rfl (by simp)
    · cases h
  | blt b es =>
    unfold ok at h
    split at h
    · rename_i t
      cases es with
      | nil => cases h
      | cons r rs =>
        cases rs with
        | cons _ _ => cases h
        | nil =>
          simp only at h
          split at h
          · simp only [Bool.and_eq_true, decide_eq_true_eq] at h
            obtain ⟨⟨⟨⟨⟨rfl, h2⟩, rfl⟩, h4⟩, h5⟩, h6⟩ := h
            obtain ⟨gl, db⟩ := glB_gl g h2
            obtain ⟨gl2, db2⟩ := glB_gl g h4
            obtain ⟨t1, t2, t3⟩ := tn_boot t
            have q := ok_snd r g h6
            exact .val (sd_isi gl (g.blt _ (by decide)) (q.rd rfl) (pe_bltn gl2 (g.blt _ t3) t1 rfl t2 db2) (star_cons h5) (star_cons rfl) (by rw [back_any]; rfl)) rfl (by simp)
          · cases h
    · cases es with
      | nil => cases h
      | cons r rs =>
        cases rs with
        | cons _ _ => cases h
        | nil =>
          simp only at h
          split at h
          · simp only [Bool.and_eq_true, decide_eq_true_eq] at h
            obtain ⟨⟨⟨⟨⟨rfl, h2⟩, rfl⟩, h4⟩, h5⟩, h6⟩ := h
            obtain ⟨gl, db⟩ := glB_gl g h2
            obtain ⟨gl2, db2⟩ := glB_gl g h4
            have q := ok_snd r g h6
            exact .val (sd_lenset g.calm gl (g.blt _ (by decide)) gl2 (g.blt _ (by decide)) (q.rd rfl) (star_cons h5)) rfl (by simp)
          · cases h
    · split at h
      · simp only [Bool.and_eq_true, decide_eq_true_eq] at h
        obtain ⟨⟨⟨h1, rfl⟩, h3⟩, h4⟩ := h
        obtain ⟨gl, db⟩ := glB_gl g h3
        obtain ⟨t1, t2, t3, _⟩ := bn_ok h1
        have q := oks_snd es g h4
        cases q with
        | cons n1 n2 n3 n4 =>
          exact .val (sd_blt (plainB_cr g h1) gl (g.blt _ t3) t1 (SndA.cons n1 n2 n3 n4).rd t2 db (star_cons n1) (by rw [back_any]; exact n4.star)) rfl (by simp)
      · cases h
  | split a b =>
    unfold ok at h
    split at h
    · simp only [Bool.and_eq_true, decide_eq_true_eq] at h
      obtain ⟨⟨⟨⟨⟨rfl, h2⟩, h3⟩, h4⟩, h5⟩, h6⟩ := h
      exact .val (sd_split ((ok_snd a g h5).pe rfl) ((ok_snd b g h6).pe rfl) (star_cons h4) (base_ok h2) h3) rfl (by simp)
    · cases h
  | get a k d =>
    unfold ok at h
    split at h
    · simp only [Bool.and_eq_true, decide_eq_true_eq] at h
      obtain ⟨⟨⟨⟨⟨⟨⟨rfl, h2⟩, h3⟩, h4⟩, h5⟩, h6⟩, h7⟩, h8⟩ := h
      exact .val (sd_get (Nat.lt_of_le_of_lt (Nat.add_le_add_left (by decide : 1 ≤ 65) _) g.hu) ((ok_snd a g h6).rd rfl) ((ok_snd k g h7).pe rfl) ((ok_snd d g h8).pe rfl) (m2_ok (base_ok h2) h4 h5 h3)) rfl (by simp)
    · cases h
  | wix i k =>
    unfold ok at h
    split at h
    · simp only [Bool.and_eq_true] at h
      exact .val (sd_wix (Nat.lt_of_le_of_lt (Nat.add_le_add_left (by decide : 1 ≤ 65) _) g.hu) (varB_pe g h.1) (strK_pe h.2) (strK_noSl h.2).1) rfl (by simp)
    · cases h
  | wget i k d =>
    unfold ok at h
    split at h
    · simp only [Bool.and_eq_true, decide_eq_true_eq] at h
      obtain ⟨⟨⟨⟨⟨rfl, h2⟩, h3⟩, h4⟩, h5⟩, h6⟩ := h
      exact .val (sd_wget (Nat.lt_of_le_of_lt (Nat.add_le_add_left (by decide : 1 ≤ 65) _) g.hu) (varB_pe g h3) (strK_pe h4) ((ok_snd d g h6).pe rfl) (m2_ok (base_ok rfl) (strK_noSl h4).2.1 h5 h2)) rfl (by simp)
    · cases h
  | lc own elt t it c =>
    unfold ok at h
    split at h
    · simp only [Bool.and_eq_true] at h
      obtain ⟨⟨⟨⟨⟨⟨h1, h2⟩, h3⟩, h4⟩, h5⟩, h6⟩, h7⟩ := h
      exact .val (lc_build g (okI_snd it g h1) h2 h3 h4 h5 (fun hk g' => by rw [← hk]; exact (ok_snd elt g' h6).pe rfl) (fun hk g' => by rw [← hk]; exact okC_snd c g' h7)).1 rfl (by simp)
    · cases h
theorem oks_snd (rs : REs) : ∀ {X : Cx} {sc : Scope} {es : List Expr}, Good X N sg Φ G sc → oks N sg sc rs es = true → SndA X Φ G rs es := by
  intro X sc es g h
  cases rs with
  | nil =>
    unfold oks at h
    split at h
    · exact .nil
    · cases h
  | cons r rs =>
    unfold oks at h
    split at h
    · simp only [Bool.and_eq_true] at h
      obtain ⟨⟨h1, h2⟩, h3⟩ := h
      have q := ok_snd r g h2
      exact .cons h1 (q.pe rfl) (q.rd rfl) (oks_snd rs g h3)
    · cases h
theorem okO_snd (r : RO) : ∀ {X : Cx} {sc : Scope} {o : Option Expr}, Good X N sg Φ G sc → okO N sg sc r o = true → PO X o (tEvO Φ G X.K r) := by
  intro X sc o g h
  cases r with
  | no =>
    unfold okO at h
    split at h
    · exact so_no
    · cases h
  | yes r =>
    unfold okO at h
    split at h
    · exact so_yes ((ok_snd r g h).pe rfl)
    · cases h
theorem okC_snd (r : RO) : ∀ {X : Cx} {sc : Scope} {es : List Expr}, Good X N sg Φ G sc → okC N sg sc r es = true → PTs X es (tCo Φ G X.K r) := by
  intro X sc es g h
  cases r with
  | no =>
    unfold okC at h
    split at h
    · exact sc_no
    · cases h
  | yes r =>
    unfold okC at h
    split at h
    · exact sc_yes ((ok_snd r g h).pt rfl)
    · cases h
theorem okI_snd (ri : RI) : ∀ {X : Cx} {sc : Scope} {tg e : Expr}, Good X N sg Φ G sc → okI N sg sc ri tg e = true → (∃ i, ri = .keys i ∧ PE X e (tVar i)) ∨ PI X tg e (tIt Φ G X.K ri) := by
  intro X sc tg e g h
  cases ri with
  | seq r =>
    unfold okI at h
    exact .inr (si_seq ((ok_snd r g h).pe rfl))
  | keys i =>
    unfold okI at h
    split at h
    · exact .inl ⟨i, rfl, varB_pe g h⟩
    · cases h
  | rng1 r =>
    unfold okI at h
    split at h
    · simp only [Bool.and_eq_true, decide_eq_true_eq] at h
      obtain ⟨⟨⟨rfl, h2⟩, h3⟩, h4⟩ := h
      exact .inr (si_rng1 (glB_gl g h2).1 (g.blt _ (by decide)) ((ok_snd r g h4).pe rfl) (star_cons h3))
    · cases h
  | rng2 r1 r2 =>
    unfold okI at h
    split at h
    · simp only [Bool.and_eq_true, decide_eq_true_eq] at h
      obtain ⟨⟨⟨⟨⟨rfl, h2⟩, h3⟩, h4⟩, h5⟩, h6⟩ := h
      exact .inr (si_rng2 (glB_gl g h2).1 (g.blt _ (by decide)) ((ok_snd r1 g h5).pe rfl) ((ok_snd r2 g h6).pe rfl) (by rw [star_cons h3, star_cons h4]; rfl) (star_cons h4))
    · cases h
  | enm r =>
    unfold okI at h
    split at h
    · simp only [Bool.and_eq_true, decide_eq_true_eq] at h
      obtain ⟨⟨⟨rfl, h2⟩, h3⟩, h4⟩ := h
      exact .inr (si_enm (glB_gl g h2).1 (g.blt _ (by decide)) ((ok_snd r g h4).pe rfl) (star_cons h3))
    · cases h
end
end
end PL

set_option Elab.async false
set_option linter.all false
set_option maxRecDepth 100000
set_option maxHeartbeats 4000000
set_option autoImplicit false
/-! PL16: what the table's text says holds of the program's text: statements. -/
namespace PL
open PySem L2 PySem.Spec PyProof.Rows
structure GoodS (X : Cx) (N : List Str) (sg : Str → Option (Bool × Nat)) (Φ : Fn) (G : Str → Option D) (sc : Scope) : Prop where
  gd : Good X N sg Φ G sc
  fn : X.fn = fun _ => true
  hp : PassesOwn (model X.prog X.w) X.A X.env X.xe
section
variable {X : Cx} {N : List Str} {sg : Str → Option (Bool × Nat)} {Φ : Fn} {G : Str → Option D} {sc : Scope} {g : Nat} {top : Bool}
theorem hu1 (h : Good X N sg Φ G sc) : X.A.units + 1 < cLine := Nat.lt_of_le_of_lt (Nat.add_le_add_left (by decide : 1 ≤ 65) _) h.hu
theorem tg_snd (h : GoodS X N sg Φ G sc) {tg : Expr} {t : Tg} (q : tgOk N (fun _ => true) sc tg t = true) : ∃ gt, PG X tg gt ∧ gOk X.K t gt := by
  refine tg_ok (by rw [h.gd.hN]; exact h.gd.nd) h.gd.calm ?_
  rw [h.gd.hN, h.fn, h.gd.scE]
  exact q
theorem nm_snd (h : GoodS X N sg Φ G sc) {x : Str} {p : Pos} {i : Nat} (q : tgOk N (fun _ => true) sc (.Name x p) (.nm i) = true) : X.N[i]? = some x ∧ L2.Loc X.env.scope x ∧ PG X (.Name x p) (gName i) := by
  simp only [tgOk, nmsOk, Bool.and_eq_true, Bool.or_eq_true, decide_eq_true_eq] at q
  obtain ⟨⟨q1, q2⟩, -⟩ := q
  have l : L2.Loc X.env.scope x := by rw [h.gd.scE]; exact q2.imp id (·.1)
  have n : X.N[i]? = some x := by rw [h.gd.hN]; exact q1
  exact ⟨n, l, pg_name (by rw [h.gd.hN]; exact h.gd.nd) n l (.inl (by rw [h.fn]))⟩
theorem okP_snd (h : Good X N sg Φ G sc) : ∀ {ps : RPs} {es : List Expr}, okP N sg sc ps es = true → PA X es (tPrs Φ G X.K ps)
  | .nil, es, q => by
    unfold okP at q
    split at q
    · exact sp_nil
    · cases q
  | .fr r rs, es, q => by
    unfold okP at q
    split at q
    · simp only [Bool.and_eq_true] at q
      exact sp_fr ((ok_snd r h q.1.2).pe rfl) (okP_snd h q.2) (star_cons q.1.1)
    · cases q
  | .nl rs, es, q => by
    unfold okP at q
    split at q
    · exact sp_nl (okP_snd h q) (star_cons rfl)
    · cases q
  | .nd rs, es, q => by
    unfold okP at q
    split at q
    · exact sp_nd (okP_snd h q) (star_cons rfl)
    · cases q
theorem sw_false {value : Expr} {t : Option Expr} {l : Nat} {env : PySem.Env} (h : match value with | .ListComp .. => False | .SetComp .. => False | .DictComp .. => False | _ => True) : swapsWith value t l env = pure false := by
  cases value <;> first | rfl | exact h.elim
theorem sw_sub {value : Expr} {o k : Expr} {p1 : Pos} {l : Nat} {env : PySem.Env} : swapsWith value (some (.Subscript o k p1)) l env = pure false := by
  cases value <;> rfl
theorem sw_tup {value : Expr} {ts : List Expr} {k : Nat} {p1 : Pos} {l : Nat} {env : PySem.Env} : swapsWithSole [.Tuple ts k p1] value l env = pure false := by
  cases value <;> rfl
theorem sws_name {value : Expr} {x : Str} {p : Pos} {env : PySem.Env} : swappedStores [.Name x p] value env = pure none := by
  cases value <;> rfl
theorem sws_tup {value : Expr} {ts : List Expr} {k : Nat} {p : Pos} {env : PySem.Env} (h : isTupE value = false) : swappedStores [.Tuple ts k p] value env = pure none := by
  cases value <;> first | rfl | cases h
theorem sw_name {value : Expr} {x : Str} {p : Pos} {l : Nat} (h : Good X N sg Φ G sc) {b : Bool} (q : swB sc (.Name x p) value = some b) : swapsWith value (some (.Name x p)) l X.env = pure b := by
  have hb : X.env.blockKind = .function := by unfold Env.blockKind; rw [h.scE, h.kind]; rfl
  have hk : X.env.kindOf x = sc.names.lookup x := by unfold Env.kindOf; rw [h.scE]
  cases value with
  | ListComp e gs scope pos =>
    simp only [swB, Option.some.injEq] at q
    unfold swapsWith
    simp only [hb, hk, Expr.pos]
    rw [← q]
    congr 1
    by_cases c : List.lookup x sc.names = some NameKind.local
    · rw [c]; rfl
    · have : (List.lookup x sc.names == some NameKind.local) = false := by
        rw [beq_eq_false_iff_ne]; exact c
      rw [this]
      simp [c]
  | SetComp _ _ _ _ => simp [swB] at q
  | DictComp _ _ _ _ _ => simp [swB] at q
  | _ => simp only [swB, Option.some.injEq] at q; rw [← q]; rfl
theorem lc_of {r : RE} {e : Expr} {x : Str} {p : Pos} {i : Nat} {pos : Pos} (h : GoodS X N sg Φ G sc) (h1 : X.N[i]? = some x) (q : ok N sg sc false r e = true) (b : swB sc (.Name x p) e = some true) : PS X (.Assign [.Name x p] e pos) (tAsg (tEv Φ G X.K r) (gName i)) := by
  have sw := fun l => sw_name (l := l) h.gd b
  cases e with
  | ListComp e gs scope pos =>
    cases r with
    | lc own elt t it c =>
      unfold ok at q
      split at q
      · rename_i heq
        cases heq
        simp only [Bool.and_eq_true] at q
        obtain ⟨⟨⟨⟨⟨⟨h1', h2⟩, h3⟩, h4⟩, h5⟩, h6⟩, h7⟩ := q
        have hl : X.env.scope.names.lookup x = some .local := by
          simp only [swB, Option.some.injEq, Bool.and_eq_true, decide_eq_true_eq] at b
          rw [h.gd.scE]; exact b.1.1
        exact (lc_build h.gd (okI_snd it h.gd h1') h2 h3 h4 h5 (fun hk g' => by rw [← hk]; exact (ok_snd elt g' h6).pe rfl) (fun hk g' => by rw [← hk]; exact okC_snd c g' h7)).2 i x p _ h1 hl (sw _)
      · cases q
    | blt b es =>
      unfold ok at q
      cases b with
      | isi t =>
        cases es with
        | nil => cases q
        | cons r rs =>
          cases rs with
          | nil => simp at q
          | cons _ _ => cases q
      | lenset =>
        cases es with
        | nil => cases q
        | cons r rs =>
          cases rs with
          | nil => simp at q
          | cons _ _ => cases q
      | _ => simp at q
    | _ =>
      unfold ok at q
      split at q <;> first | (rename_i heq; cases heq; done) | cases q
  | SetComp _ _ _ _ => simp [swB] at b
  | DictComp _ _ _ _ _ => simp [swB] at b
  | _ => simp [swB] at b
theorem asg_snd {t : Tg} {r : RE} {tg e : Expr} {pos : Pos} (h : GoodS X N sg Φ G sc) (q1 : tgOk N (fun _ => true) sc tg t = true) (q2 : ok N sg sc false r e = true)
    (q3 : asgB sc tg e = true) : PS X (.Assign [tg] e pos) (tSt Φ G g X.K top (.asg t r)) := by
  obtain ⟨gt, p1, p2⟩ := tg_snd h q1
  have pe := (ok_snd r h.gd q2).pe rfl
  cases tg with
  | Name x p =>
    simp only [asgB] at q3
    cases t with
    | tup is => cases q1
    | nm i =>
      obtain ⟨n1, n2, n3⟩ := nm_snd h q1
      cases e0 : swB sc (.Name x p) e with
      | none => rw [e0] at q3; cases q3
      | some b =>
        cases b with
        | true => exact ss_asgLc (lc_of h n1 q2 e0)
        | false => exact ss_asg p2 p1 pe (show swapsWithSole [_] _ _ _ = _ from sw_name (l := pos.line) h.gd e0) sws_name rfl
  | Tuple ts k p => exact ss_asg p2 p1 pe sw_tup (sws_tup (by simpa [asgB] using q3)) rfl
  | _ => cases q3
theorem names_two {sc : Scope} {fn : Str → Bool} {is : List Nat} : ∀ {ts : List Expr}, nmsOk N fn sc ts is = true → ts.length = is.length := by
  induction is with
  | nil =>
    intro ts h
    cases ts with
    | nil => rfl
    | cons e es => cases e <;> simp [nmsOk] at h
  | cons i is ih =>
    intro ts h
    cases ts with
    | nil => simp [nmsOk] at h
    | cons e es =>
      cases e with
      | Name x p =>
        simp only [nmsOk, Bool.and_eq_true] at h
        rw [List.length_cons, List.length_cons, ih h.2]
      | _ => simp [nmsOk] at h
theorem par_snd {is : List Nat} {ps : RPs} {ts es : List Expr} {k k2 : Nat} {p p2 pos : Pos} (h : GoodS X N sg Φ G sc) (h1 : is.length ≤ 1000) (h2 : nmsOk N (fun _ => true) sc ts is = true) (h3 : okP N sg sc ps es = true) (h4 : is.Nodup)
    (h6 : (match swSt (fun x => sc.names.lookup x) ts es with
      | some none => true
      | some (some xs) => decide (xs = namesOf ts) && (xs.all fun x => decide (sc.names.lookup x = some .local)) && decide (xs.length = is.length) && decide (es.length = is.length) && (decide (is.length = 2) || decide (is.length = 3))
      | none => false) = true) : PS X (.Assign [.Tuple ts k p] (.Tuple es k2 p2) pos) (tSt Φ G g X.K top (.par is ps)) := by
  have pa := okP_snd h.gd h3
  have nd' : X.N.Nodup := by rw [h.gd.hN]; exact h.gd.nd
  have hk : X.env.scope.kind = .function := by rw [h.gd.scE]; exact h.gd.kind
  have kf : X.env.kindOf = fun x => sc.names.lookup x := by funext x; unfold Env.kindOf; rw [h.gd.scE]
  have nms : nmsOk X.N X.fn X.env.scope ts is = true := by rw [h.gd.hN, h.fn, h.gd.scE]; exact h2
  split at h6
  · rename_i e0
    exact sp_plain h.gd.calm h1 (nms_pgs nd' nms) pa (swSt_ok hk (by rw [kf]; exact e0))
  · rename_i xs e0
    have sw := swSt_ok (k := k) (k2 := k2) (p := p) (p2 := p2) hk (by rw [kf]; exact e0)
    simp only [Bool.and_eq_true, decide_eq_true_eq, Bool.or_eq_true] at h6
    obtain ⟨⟨⟨⟨rfl, h7⟩, h8⟩, h9⟩, h10⟩ := h6
    have hl := names_two h2
    have hloc : ∀ x ∈ namesOf ts, X.env.scope.names.lookup x = some .local := fun x hx => by
      rw [h.gd.scE]
      exact of_decide_eq_true (List.all_eq_true.mp h7 x hx)
    rcases h10 with h10 | h10
    · match is, h10, ts, es, hl, h9 with
      | [i, j], _, [t1, t2], [e1, e2], _, _ =>
        cases t1 with
        | Name x px =>
          cases t2 with
          | Name y py =>
            simp only [nmsOk, Bool.and_eq_true, decide_eq_true_eq] at nms
            have nij : i ≠ j := by
              intro e; subst e; simp at h4
            exact sp_two h.gd.calm nd' nms.1.1 nms.2.1.1 nij (hloc x (by simp [namesOf])) (hloc y (by simp [namesOf])) pa sw
          | _ => simp [nmsOk] at nms
        | _ => simp [nmsOk] at nms
    · match is, h10, ts, es, hl, h9 with
      | [i, j, l], _, [t1, t2, t3], [e1, e2, e3], _, _ =>
        cases t1 with
        | Name x px =>
          cases t2 with
          | Name y py =>
            cases t3 with
            | Name z pz =>
              simp only [nmsOk, Bool.and_eq_true, decide_eq_true_eq] at nms
              have n1 : i ≠ j := by intro e; subst e; simp at h4
              have n2 : i ≠ l := by intro e; subst e; simp at h4
              have n3 : j ≠ l := by intro e; subst e; simp at h4
              exact sp_three h.gd.calm nd' nms.1.1 nms.2.1.1 nms.2.2.1.1 n1 n2 n3 (hloc x (by simp [namesOf])) (hloc y (by simp [namesOf])) (hloc z (by simp [namesOf])) pa sw
            | _ => simp [nmsOk] at nms
          | _ => simp [nmsOk] at nms
        | _ => simp [nmsOk] at nms
  · cases h6
mutual
theorem okS_snd (r : RS) : ∀ {X : Cx} {st : Stmt}, GoodS X N sg Φ G sc → okS N sg top sc r st = true → PS X st (tSt Φ G g X.K top r) := by
  intro X st h q
  cases r with
  | asg t r =>
    unfold okS at q
    split at q
    · simp only [Bool.and_eq_true] at q
      exact asg_snd h q.1.1 q.1.2 q.2
    · cases q
  | par is ps =>
    unfold okS at q
    split at q
    · simp only [Bool.and_eq_true, decide_eq_true_eq] at q
      obtain ⟨⟨⟨⟨⟨q1, q2⟩, q3⟩, q4⟩, q5⟩, q6⟩ := q
      exact par_snd h q1 q2 q3 q4 q6
    · cases q
  | newl i =>
    unfold okS at q
    split at q
    · obtain ⟨n1, n2, n3⟩ := nm_snd h q
      exact ss_newl n3 rfl sws_name rfl
    · cases q
  | newd i =>
    unfold okS at q
    split at q
    · obtain ⟨n1, n2, n3⟩ := nm_snd h q
      exact ss_newd n3 rfl sws_name rfl
    · cases q
  | put i rk re =>
    unfold okS at q
    split at q
    · simp only [Bool.and_eq_true] at q
      obtain ⟨⟨⟨q1, q2⟩, q3⟩, q4⟩ := q
      exact ss_put (hu1 h.gd) (varB_pe h.gd q1) ((ok_snd rk h.gd q3).pe rfl) ((ok_snd re h.gd q4).pe rfl) sw_sub
    · cases q
  | wput i ks re =>
    unfold okS at q
    split at q
    · simp only [Bool.and_eq_true] at q
      obtain ⟨⟨q1, q2⟩, q4⟩ := q
      exact ss_wput (hu1 h.gd) (varB_pe h.gd q1) (strK_pe q2) ((ok_snd re h.gd q4).pe rfl) sw_sub
    · cases q
  | waug i ks re =>
    unfold okS at q
    split at q
    · simp only [Bool.and_eq_true] at q
      obtain ⟨⟨q1, q2⟩, q4⟩ := q
      exact ss_waug (hu1 h.gd) (varB_pe h.gd q1) (strK_pe q2) ((ok_snd re h.gd q4).pe rfl) (strK_noSl q2).2.2
    · cases q
  | wnew i ks rs =>
    unfold okS at q
    split at q
    · simp only [Bool.and_eq_true, decide_eq_true_eq, Bool.not_eq_true'] at q
      obtain ⟨⟨⟨⟨⟨⟨⟨q1, q2⟩, q3⟩, q4⟩, q5⟩, q6⟩, q7⟩, q8⟩ := q
      obtain ⟨n1, n2, n3⟩ := nm_snd h q2
      obtain ⟨l1, l2⟩ := strKs_ok q7
      exact ss_wnew q1 n3 ((oks_snd rs h.gd q8).pps q7 q5) l2 q3 (fun e => by rw [e] at q6; cases q6) q4 q5 (by rw [← l1]; exact q4) rfl sws_name rfl
    · cases q
  | aug i o r =>
    unfold okS at q
    split at q
    · simp only [Bool.and_eq_true] at q
      obtain ⟨⟨⟨q1, q2⟩, q3⟩, q4⟩ := q
      obtain ⟨n1, n2, n3⟩ := nm_snd h q1
      have := opOk_eq q3
      subst this
      refine ss_aug ?_ (by rw [h.gd.hN]; exact h.gd.nd) n1 n2 ((ok_snd r h.gd q4).pe rfl) (.inl (by rw [h.fn]))
      cases o <;> first | exact .inl rfl | exact .inr rfl | cases q2
    · cases q
  | app i r =>
    unfold okS at q
    split at q
    · simp only [Bool.and_eq_true, decide_eq_true_eq] at q
      obtain ⟨⟨⟨⟨rfl, q2⟩, q3⟩, q4⟩, q5⟩ := q
      exact ss_app (varB_pe h.gd q3) ((ok_snd r h.gd q5).pe rfl) (base_ok rfl) q2 (star_cons q4) (by rw [star_cons q4]; rfl)
    · cases q
  | ext i e => unfold okS at q; cases q
  | ret r =>
    unfold okS at q
    split at q
    · exact ss_ret ((ok_snd r h.gd q).pe rfl)
    · split at q
      · exact ss_retN
      · cases q
    · cases q
  | ite c a b =>
    unfold okS at q
    split at q
    · simp only [Bool.and_eq_true] at q
      exact ss_if ((ok_snd c h.gd q.1.1).pt rfl) (okSs_snd a h q.1.2) (okSs_snd b h q.2)
    · cases q
  | for_ t it body =>
    unfold okS at q
    split at q
    · simp only [Bool.and_eq_true] at q
      obtain ⟨⟨⟨q1, q2⟩, q3⟩, q4⟩ := q
      obtain ⟨gt, p1, p2⟩ := tg_snd h q1
      rcases okI_snd it h.gd q2 with ⟨i, rfl, h1⟩ | h1
      · exact ss_forK h.hp h.gd.calm h1 p2 p1 (okSs_snd body h q4) (set_ok q3)
      · exact ss_for h.hp h.gd.calm h1 p2 p1 (okSs_snd body h q4) (set_ok q3)
    · cases q
  | whl c body =>
    unfold okS at q
    split at q
    · simp only [Bool.and_eq_true] at q
      exact ss_while h.hp ((ok_snd c h.gd q.1).pt rfl) (okSs_snd body h q.2)
    · cases q
  | frz i => unfold okS at q; cases q
theorem okSs_snd (rs : RSs) : ∀ {X : Cx} {sts : List Stmt}, GoodS X N sg Φ G sc → okSs N sg top sc rs sts = true → PSs X sts (tSts Φ G g X.K top rs) := by
  intro X sts h q
  cases rs with
  | nil =>
    unfold okSs at q
    split at q
    · exact ss_nil
    · cases q
  | cons r0 rs =>
    unfold okSs at q
    split at q
    · exact ss_frz (okSs_snd rs h q)
    · split at q
      · simp only [Bool.and_eq_true] at q
        exact ss_cons (okS_snd r0 h q.1) (okSs_snd rs h q.2)
      · cases q
end
end
end PL

set_option Elab.async false
set_option linter.all false
set_option maxRecDepth 100000
set_option maxHeartbeats 4000000
set_option autoImplicit false
/-! PL17: defs, the whole table, the law. -/
namespace PL
open PySem L2 PySem.Spec PyProof.Rows

/-- a def of the table: its text, its slots, its parameters, what the table says of it -/
structure Ent where
  name : Str
  st : Stmt
  N : List Str
  ps : List Str
  fd : FD
def Ent.chk (sg : Str → Option (Bool × Nat)) (top : Bool) (e : Ent) : Bool :=
  let sc := defScope e.st
  decide (sc.kind = .function) && !sc.isCoroutine && !sc.isGenerator && decide e.N.Nodup && decide (e.N.take e.ps.length = e.ps) &&
    (e.ps.all fun x => decide (sc.names.lookup x = some .local) || decide (sc.names.lookup x = some .cell)) && (sc.names.all fun y => decide (y.2 ≠ .free)) &&
    decide (e.ps.length = e.fd.np + (if e.fd.usesW then 1 else 0)) && decide (e.N.length = e.fd.n) && decide (e.ps.length ≤ e.N.length) && okSs e.N sg top sc e.fd.body (defBody e.st)
theorem Ent.scope {sg : Str → Option (Bool × Nat)} {top : Bool} {e : Ent} (h : e.chk sg top = true) : FnScope e.N e.ps (defScope e.st) := by
  simp only [Ent.chk, Bool.and_eq_true, decide_eq_true_eq, Bool.not_eq_true', List.all_eq_true, Bool.or_eq_true] at h
  obtain ⟨⟨⟨⟨⟨⟨⟨⟨⟨⟨h1, h2⟩, h3⟩, h4⟩, h5⟩, h6⟩, h7⟩, h8⟩, h9⟩, h10⟩, h11⟩ := h
  exact ⟨h1, h2, h3, h4, h5, h6, h7⟩
/-! ### where a def begins -/
theorem start_pre {K : PySem.W.Frag} {H R : Hp} {wa : Option Addr} {s : W} {xs : List D} {vs : List V} {N : List Str} {fd : FD} (hn : N.length = fd.n) (hl : vs.length ≤ N.length) (sb : Sub R H) (w : Ws K R H wa s) (a : ArgsR K fd.usesW wa R xs vs) :
    Pre K (L2.start N vs) H (fd.start xs) R wa s ∧ ∀ (i : Nat) (x : D), (fd.start xs)[i]? ≠ some (Cell.own x) := by
  have cells : ∀ (xs : List D) (vs : List V), RpA K R xs vs → ∀ (m : Nat) (i : Nat) (c : Cell), (xs.map Cell.fz ++ List.replicate m Cell.no)[i]? = some c → CellR K R H wa c ((vs.map some ++ List.replicate m none)[i]?) ∧ ∀ x, c ≠ .own x := by
    intro xs
    induction xs with
    | nil =>
      intro vs r m i c e
      cases r
      have : c = .no := by
        have := List.getElem?_eq_some_iff.mp e
        obtain ⟨h1, h2⟩ := this
        simp at h2
        exact h2.symm
      subst this
      exact ⟨trivial, by simp⟩
    | cons x xs ih =>
      intro vs r m i c e
      cases r with
      | cons r1 r2 =>
        cases i with
        | zero =>
          simp at e
          subst e
          exact ⟨⟨_, by simp, r1⟩, by simp⟩
        | succ i =>
          have := ih _ r2 m i c (by simpa using e)
          simpa using this
  unfold ArgsR at a
  unfold FD.start L2.start
  by_cases hw : fd.usesW = true
  · rw [if_pos hw] at a
    obtain ⟨p, vs', rfl, hp, r⟩ := a
    rw [if_pos hw, if_pos hw]
    have lx := r.length
    rw [List.length_cons] at hl
    have e1 : N.length - (V.ref p :: vs').length = fd.n - 1 - xs.length := by
      rw [List.length_cons, hn, lx]; omega
    rw [e1]
    refine ⟨⟨by simp [lx], fun i c e => ?_, sb, w⟩, fun i x e => ?_⟩
    · cases i with
      | zero =>
        simp at e
        subst e
        exact ⟨p, by simp, hp⟩
      | succ i =>
        have := (cells xs vs' r (fd.n - 1 - xs.length) i c (by simpa using e)).1
        simpa using this
    · cases i with
      | zero => simp at e
      | succ i => exact (cells xs vs' r (fd.n - 1 - xs.length) i _ (by simpa using e)).2 x rfl
  · rw [if_neg hw] at a
    rw [if_neg hw, if_neg hw]
    have lx := a.length
    have e1 : N.length - vs.length = fd.n - 0 - xs.length := by rw [hn, lx]; omega
    rw [e1]
    refine ⟨⟨by simp [lx], fun i c e => ?_, sb, w⟩, fun i x e => ?_⟩
    · exact (cells xs vs a (fd.n - 0 - xs.length) i c (by simpa using e)).1
    · exact (cells xs vs a (fd.n - 0 - xs.length) i _ (by simpa using e)).2 x rfl
theorem Gx.ex {K : PySem.W.Frag} {wa : Option Addr} {H R H' R' : Hp} {M : Addr → Prop} {s : W} (g : Gx M H R H' R') (m : ∀ a, M a → wa = some a) (sb : Sub R' H') (w : Ws K R' H' wa s) : Ex wa H R H' R' := by
  refine ⟨g.le, sb, fun b o e n => g.keep b o e fun z => n (m b z), fun a u e => ?_, w.st⟩
  rcases g.new a u e with q | q | q
  · exact .inl q
  · exact .inr q
  · have := w.st a (m a q)
    rw [this] at e; cases e
/-- the facts of the program's top that the table leans on -/
structure World1 (P : Program) (w : World) (K : PySem.W.Frag) (mg : Str → Option Value) (base : Heap) (es : List Ent) (T : Tab) (G : Str → Option D) (sg : Str → Option (Bool × Nat)) : Prop where
  glo : ∀ x d, G x = some d → ∃ v u, mg x = some u ∧ RelV v u ∧ ∀ R, Rp K R d v
  blt : ∀ x ∈ bnames, mg x = none
  sgT : ∀ f b n, sg f = some (b, n) → ∃ e ∈ es, e.name = f ∧ T f = some e.fd ∧ e.fd.usesW = b ∧ e.fd.np = n
  fns : ∀ e ∈ es, e.chk sg false = true ∧ T e.name = some e.fd ∧ ∃ fa fd, FunD K e.name e.name (defArgs e.st) (defBody e.st) (defScope e.st) [] [] fa fd ∧ mg e.name = some (.ref fa) ∧ L2.Binds K fd e.ps []
section
variable {P : Program} {w : World} {K : PySem.W.Frag} {mg : Str → Option Value} {base : Heap} {es : List Ent} {T : Tab} {G : Str → Option D} {sg : Str → Option (Bool × Nat)} {g : Nat}
theorem FnOk.never {k : Nat} {fa : Addr} {fd : FuncData} {ps : List Str} {sp : Sp} (h : ∀ vs H Q E, ¬ sp vs H Q E) : FnOk P w K mg base CX0 k fa fd ps sp :=
  ⟨fun vs H Q E q => (h vs H Q E q).elim, fun A outer s H args us vs Q E _ _ _ _ q => (h vs H Q E q).elim⟩
/-- the body of a def, run -/
theorem body_run {top : Bool} {e : Ent} {n : Nat} {f : Addr} (W1 : World1 P w K mg base es T G sg) (hc : e.chk sg top = true)
    (ih : ∀ e ∈ es, ∃ fa fd, FnOk P w K mg base CX0 n fa fd e.ps (spF K (interp T G g n) e.name e.fd.usesW e.ps.length) ∧ mg e.name = some (.ref fa) ∧ PySem.W.keepIn K (.ref fa) = true ∧ L2.Binds K fd e.ps [])
    (cdv : Value) (A : Around) (outer : List PySem.Env) (s : Shared) (H : Hp) (E : XK) (hr : Room n (A.deeper (envOfC e.name (defScope e.st) s.heap.objs.size f cdv))) :
    PSs (cxOf CX0 P w K mg base e.N e.name (defScope e.st) f cdv A outer s H E) (defBody e.st) (tSts (interp T G g n) G g K top e.fd.body) := by
  simp only [Ent.chk, Bool.and_eq_true, decide_eq_true_eq, Bool.not_eq_true', List.all_eq_true, Bool.or_eq_true] at hc
  obtain ⟨⟨⟨⟨⟨⟨⟨⟨⟨⟨h1, h2⟩, h3⟩, h4⟩, h5⟩, h6⟩, h7⟩, h8⟩, h9⟩, h10⟩, h11⟩ := hc
  refine okSs_snd (N := e.N) (sg := sg) (sc := defScope e.st) e.fd.body ⟨⟨rfl, h4, rfl, h1, rfl, ?_, W1.glo, fun f b m hf => ?_, W1.blt⟩, rfl, PassesOwn.leaving⟩ h11
  · have := hr.un
    show (A.deeper _).units + 65 < cLine
    omega
  · obtain ⟨e', he, rfl, _, rfl, rfl⟩ := W1.sgT f b m hf
    obtain ⟨fa, fd, q1, q2, q3, q4⟩ := ih e' he
    have hc' := (W1.fns e' he).1
    simp only [Ent.chk, Bool.and_eq_true, decide_eq_true_eq] at hc'
    exact ⟨n, fa, fd, e'.ps, q1, hr, q2, q3, q4, hc'.1.1.1.2⟩
theorem table_ok (W1 : World1 P w K mg base es T G sg) : ∀ n : Nat, ∀ e ∈ es, ∃ fa fd, FnOk P w K mg base CX0 n fa fd e.ps (spF K (interp T G g n) e.name e.fd.usesW e.ps.length) ∧ mg e.name = some (.ref fa) ∧ PySem.W.keepIn K (.ref fa) = true ∧ L2.Binds K fd e.ps []
  | 0, e, he => by
    obtain ⟨hc, hT, fa, fd, F, hm, hb⟩ := W1.fns e he
    refine ⟨fa, fd, FnOk.never fun vs H Q E q => ?_, hm, F.kp, hb⟩
    obtain ⟨_, R, wa, s, xs, x, s', _, _, _, q, _⟩ := q
    cases q
  | n + 1, e, he => by
    obtain ⟨hc, hT, fa, fd, F, hm, hb⟩ := W1.fns e he
    refine ⟨fa, fd, ?_, hm, F.kp, hb⟩
    refine F.ok (Ent.scope hc) (fun vs H Q E q => q.1) fun cdv A outer s H vs Q E hr q => ⟨_, body_run W1 hc (table_ok W1 n) cdv A outer s H E hr, ?_⟩
    simp only [Ent.chk, Bool.and_eq_true, decide_eq_true_eq, Bool.not_eq_true', List.all_eq_true, Bool.or_eq_true] at hc
    obtain ⟨⟨⟨⟨⟨⟨⟨⟨⟨⟨h1, h2⟩, h3⟩, h4⟩, h5⟩, h6⟩, h7⟩, h8⟩, h9⟩, h10⟩, h11⟩ := hc
    obtain ⟨hl, R, wa, s0, xs, x, s', sb, ws, ar, hi, k⟩ := q
    obtain ⟨p, no⟩ := start_pre (fd := e.fd) h9 (by rw [hl]; exact h10) sb ws ar
    unfold interp at hi
    simp only [hT] at hi
    split at hi
    · have mo : ∀ a, Mo (L2.start e.N vs) (e.fd.start xs) wa a → wa = some a := fun a m => by
        rcases m with z | ⟨i, y, z, _⟩
        · exact z
        · exact (no i y z).elim
      have dis : Dis (L2.start e.N vs) (e.fd.start xs) := fun i j a y z h _ _ _ => (no i y h).elim
      split at hi
      · rename_i y s1 e1
        cases hi
        refine ⟨_, R, wa, s0, _, _, p, dis, e1, fun _ e => (by cases e), fun z ez v H' R' wa' sb' w' gx hw r => ?_⟩
        cases ez
        have ew : wa' = wa := hw.elim id fun z => by cases z.1
        subst ew
        exact k v H' R' (gx.ex mo sb' w') w' r
      · rename_i ρ s1 e1
        cases hi
        refine ⟨_, R, wa, s0, _, _, p, dis, e1, fun ρ' _ σ' H' R' wa' sx => ?_, fun _ e => (by cases e)⟩
        have ew : wa' = wa := sx.wa.elim id fun z => by cases z.1
        subst ew
        exact k .non H' R' (sx.gx.ex mo sx.pre.sub sx.pre.ws) sx.pre.ws .non
      · cases hi
    · cases hi
/-- the law: it gives True -/
def spL (n : Nat) (T : Tab) (G : Str → Option D) (g : Nat) (K : PySem.W.Frag) : Sp := fun vs H Q _ => ∃ (a : Addr) (ns : List Int) (s' : W), vs = [.ref a] ∧ SqL K H a (ns.map V.int) ∧ interp T G g n "law" [PyData.list (ns.map PyData.int)] none = some (PyData.bool true, s') ∧ ∀ H', Q (.bl true) H'
theorem rpA_ints {K : PySem.W.Frag} {R : Hp} : ∀ ns : List Int, RpA K R (ns.map PyData.int) (ns.map V.int)
  | [] => .nil
  | _ :: ns => .cons (.int _) (rpA_ints ns)
theorem law_ok {eL : Ent} {n : Nat} {fL : Addr} {fdL : FuncData} (W1 : World1 P w K mg base es T G sg) (hc : eL.chk sg true = true) (hn : eL.name = "law") (hT : T "law" = some eL.fd) (hu : eL.fd.usesW = false) (hp : eL.ps.length = 1)
    (F : FunD K eL.name eL.name (defArgs eL.st) (defBody eL.st) (defScope eL.st) [] [] fL fdL) : FnOk P w K mg base CX0 (n + 1) fL fdL eL.ps (spL (n + 1) T G g K) := by
  refine F.ok (Ent.scope hc) (fun vs H Q E q => ?_) fun cdv A outer s H vs Q E hr q => ⟨_, body_run (n := n) (g := g) W1 hc (table_ok W1 n) cdv A outer s H E hr, ?_⟩
  · obtain ⟨a, ns, s', rfl, _⟩ := q
    exact hp.symm
  simp only [Ent.chk, Bool.and_eq_true, decide_eq_true_eq, Bool.not_eq_true', List.all_eq_true, Bool.or_eq_true] at hc
  obtain ⟨⟨⟨⟨⟨⟨⟨⟨⟨⟨h1, h2⟩, h3⟩, h4⟩, h5⟩, h6⟩, h7⟩, h8⟩, h9⟩, h10⟩, h11⟩ := hc
  obtain ⟨a, ns, s', rfl, hS, hi, k⟩ := q
  obtain ⟨R, sb, rp⟩ : ∃ R, Sub R H ∧ LiR K R a (ns.map V.int) := by
    rcases hS with hS | hS
    · refine ⟨fun b => if b = a then some (.lst (ns.map V.int)) else none, fun b u e => ?_, .inl (if_pos rfl)⟩
      replace e : (if b = a then some (HO.lst (ns.map V.int)) else none) = some u := e
      by_cases z : b = a
      · rw [if_pos z] at e; cases e; rw [z]; exact hS
      · rw [if_neg z] at e; cases e
    · exact ⟨fun _ => none, fun b u e => (by cases e), .inr (.inr hS)⟩
  have ar : ArgsR K eL.fd.usesW none R [PyData.list (ns.map PyData.int)] [.ref a] := by
    unfold ArgsR
    rw [if_neg (by rw [hu]; exact Bool.false_ne_true)]
    exact .cons (.lst rp (rpA_ints ns)) .nil
  obtain ⟨p, no⟩ := start_pre (fd := eL.fd) (s := none) (wa := none) h9 (by show 1 ≤ _; omega) sb trivial ar
  unfold interp at hi
  simp only [hT] at hi
  split at hi
  · have dis : Dis (L2.start eL.N [.ref a]) (eL.fd.start [PyData.list (ns.map PyData.int)]) := fun i j a y z h _ _ _ => (no i y h).elim
    split at hi
    · rename_i y s1 e1
      cases hi
      refine ⟨_, R, none, none, _, _, p, dis, e1, fun _ e => (by cases e), fun z ez v H' R' wa' sb' w' gx hw r => ?_⟩
      cases ez
      cases r
      exact k H'
    · rename_i ρ s1 e1
      cases hi
    · cases hi
  · cases hi
end
end PL
namespace PL
open PySem L2 PySem.Spec PyProof.Rows
theorem all_nil {α : Type} {P : α → Prop} : ∀ e ∈ ([] : List α), P e := fun _ h => by cases h
theorem all_cons {α : Type} {P : α → Prop} {a : α} {as : List α} (h : P a) (t : ∀ e ∈ as, P e) : ∀ e ∈ a :: as, P e := fun e he => by
  rcases List.mem_cons.mp he with z | z
  · rw [z]; exact h
  · exact t e z
theorem lookup_map {es : List Ent} {f : Str} {x : Bool × Nat} : (es.map fun e => (e.name, (e.fd.usesW, e.fd.np))).lookup f = some x → ∃ e ∈ es, e.name = f ∧ x = (e.fd.usesW, e.fd.np) := by
  induction es with
  | nil => intro h; cases h
  | cons e es ih =>
    intro h
    rw [List.map_cons, List.lookup_cons] at h
    split at h
    · rename_i q
      cases h
      exact ⟨e, List.mem_cons_self, (beq_iff_eq.mp q).symm, rfl⟩
    · obtain ⟨e', h1, h2⟩ := ih h
      exact ⟨e', List.mem_cons_of_mem _ h1, h2⟩
/-- the facts of a def, as the head tells them -/
def Fact (K : PySem.W.Frag) (mg : Str → Option Value) (e : Ent) : Prop := ∃ fa fd, FunD K e.name e.name (defArgs e.st) (defBody e.st) (defScope e.st) [] [] fa fd ∧ mg e.name = some (.ref fa) ∧ L2.Binds K fd e.ps []
theorem world_of {P : Program} {w : World} {K : PySem.W.Frag} {mg : Str → Option Value} {base : Heap} {es : List Ent} {T : Tab} {G : Str → Option D} {sg : Str → Option (Bool × Nat)}
    (glo : ∀ x d, G x = some d → ∃ v u, mg x = some u ∧ RelV v u ∧ ∀ R, Rp K R d v) (blt : ∀ x ∈ bnames, mg x = none) (hs : ∀ f, sg f = (es.map fun e => (e.name, (e.fd.usesW, e.fd.np))).lookup f)
    (hc : ∀ e ∈ es, e.chk sg false = true ∧ T e.name = some e.fd) (hf : ∀ e ∈ es, Fact K mg e) : World1 P w K mg base es T G sg where
  glo := glo
  blt := blt
  sgT := fun f b n h => by
    rw [hs] at h
    obtain ⟨e, h1, h2, h3⟩ := lookup_map h
    cases h3
    exact ⟨e, h1, h2, by rw [← h2]; exact (hc e h1).2, rfl, rfl⟩
  fns := fun e he => ⟨(hc e he).1, (hc e he).2, hf e he⟩
end PL

set_option Elab.async false
set_option linter.all false
set_option maxRecDepth 100000
set_option maxHeartbeats 4000000
set_option autoImplicit false
/-! PL18: the head's hook, with the module's constants. -/
namespace PL
open PySem L2 PySem.Spec PyProof.Rows
mutual
/-- the value stands for the datum, by what the fragment holds -/
def datB (K : PySem.W.Frag) : D → Value → Bool
  | .none, .none => true
  | .bool b, .bool c => decide (b = c)
  | .int i, .int j _ => decide (i = j)
  | .str x, .str y _ => decide (x = y)
  | .tuple xs, .ref a => match K.lookup a with
    | some ⟨.type c, _, .seq its _, _⟩ => decide (c = "tuple") && (decide (its.size ≤ sizeLine) && datBs K xs its.toList)
    | _ => false
  | .list xs, .ref a => match K.lookup a with
    | some ⟨.type c, none, .seq its _, _⟩ => decide (c = "list") && (decide (its.size ≤ sizeLine) && datBs K xs its.toList)
    | _ => false
  | _, _ => false
def datBs (K : PySem.W.Frag) : List D → List Value → Bool
  | [], [] => true
  | x :: xs, v :: vs => datB K x v && datBs K xs vs
  | _, _ => false
end
mutual
theorem datB_ok {K : PySem.W.Frag} : ∀ (d : D) (v : Value), datB K d v = true → ∃ x, RelV x v ∧ ∀ R, Rp K R d x
  | .none, v, h => by
    cases v <;> simp [datB] at h
    exact ⟨.non, rfl, fun R => .non⟩
  | .bool b, v, h => by
    cases v <;> simp [datB] at h
    subst h
    exact ⟨.bl b, rfl, fun R => .bl b⟩
  | .int b, v, h => by
    cases v <;> simp [datB] at h
    subst h
    exact ⟨.int b, ⟨_, rfl⟩, fun R => .int b⟩
  | .str b, v, h => by
    cases v <;> simp [datB] at h
    subst h
    exact ⟨.str b, ⟨_, rfl⟩, fun R => .str b⟩
  | .tuple xs, v, h => by
    cases v with
    | ref a =>
      simp only [datB] at h
      split at h
      · rename_i c od its n sl e
        simp only [Bool.and_eq_true, decide_eq_true_eq] at h
        obtain ⟨rfl, h2, h3⟩ := h
        obtain ⟨vs, q1, q2⟩ := datBs_ok xs its.toList h3
        exact ⟨.ref a, rfl, fun R => .tup (.inr (.inr ⟨_, its, n, e, rfl, rfl, h2, q1⟩)) (q2 R)⟩
      · cases h
    | _ => simp [datB] at h
  | .list xs, v, h => by
    cases v with
    | ref a =>
      simp only [datB] at h
      split at h
      · rename_i c its n sl e
        simp only [Bool.and_eq_true, decide_eq_true_eq] at h
        obtain ⟨rfl, h2, h3⟩ := h
        obtain ⟨vs, q1, q2⟩ := datBs_ok xs its.toList h3
        exact ⟨.ref a, rfl, fun R => .lst (.inr (.inr ⟨_, its, n, e, rfl, rfl, rfl, h2, q1⟩)) (q2 R)⟩
      · cases h
    | _ => simp [datB] at h
  | .dict xs, v, h => by cases v <;> simp [datB] at h
theorem datBs_ok {K : PySem.W.Frag} : ∀ (ds : List D) (vs : List Value), datBs K ds vs = true → ∃ xs, Vals xs vs ∧ ∀ R, RpA K R ds xs
  | [], [], _ => ⟨[], .nil, fun R => .nil⟩
  | [], _ :: _, h => by simp [datBs] at h
  | _ :: _, [], h => by simp [datBs] at h
  | d :: ds, v :: vs, h => by
    simp only [datBs, Bool.and_eq_true] at h
    obtain ⟨x, q1, q2⟩ := datB_ok d v h.1
    obtain ⟨xs, q3, q4⟩ := datBs_ok ds vs h.2
    exact ⟨x :: xs, .cons q1 q3, fun R => .cons (q2 R) (q4 R)⟩
end
def consB (cs : List (Str × D)) (K : PySem.W.Frag) : Bool := cs.all fun c => match PySem.W.nsIn K mainGlobals c.1 with
  | some (some u) => datB K c.2 u
  | _ => false
theorem lookup_mem {α : Type} {x : Str} {d : α} : ∀ {l : List (Str × α)}, l.lookup x = some d → (x, d) ∈ l
  | [], h => by cases h
  | (y, e) :: l, h => by
    rw [List.lookup_cons] at h
    split at h
    · rename_i q
      cases h
      have := beq_iff_eq.mp q
      subst this
      exact List.mem_cons_self
    · exact List.mem_cons_of_mem _ (lookup_mem h)
theorem consB_ok {cs : List (Str × D)} {K : PySem.W.Frag} {h : Heap} {mg : Str → Option Value} (hc : consB cs K = true) (X : K.In h) (g : h.Ns mainGlobals mg) : ∀ x d, cs.lookup x = some d → ∃ v u, mg x = some u ∧ RelV v u ∧ ∀ R, Rp K R d v := by
  intro x d hx
  have q := List.all_eq_true.mp hc _ (lookup_mem hx)
  simp only at q
  split at q
  · rename_i u e
    obtain ⟨v, q1, q2⟩ := datB_ok d u q
    exact ⟨v, u, PySem.W.mg_of X g e, q1, q2⟩
  · cases q
/-! ### the hook -/
abbrev AlC : Type := He.AlD × Bool
def obsC (n : Nat) (fa : List He.Fa) (fn : List He.DefD) (cs : List (Str × D)) (g : Addr → Option Obj) : AlC := (He.obsDG n fa fn g, consB cs (He.frG g (He.asD g n)))
def hookC (n : Nat) (fa : List He.Fa) (fn : List He.DefD) (cs : List (Str × D)) : PySem.W.Hook where
  α := AlC
  obs := fun s => obsC n fa fn cs s.heap.get?
  val := fun _ => (He.valD fn, true)
  says := fun _ h => ∃ K : PySem.W.Frag, K.In h ∧ He.SaysD fa fn K ∧ consB cs K = true
  of := fun _ _ e => ⟨_, He.frG_in, congrArg Prod.fst e, congrArg Prod.snd e⟩
  keeps := fun _ _ _ ⟨K, hK, c⟩ k => ⟨K, PySem.W.Frag.In.keeps hK k, c⟩
theorem obsC_eq {n : Nat} {fa : List He.Fa} {fn : List He.DefD} {cs : List (Str × D)} {g : Addr → Option Obj} {s : Shared} (h : ∀ a, g a = s.heap.get? a) : obsC n fa fn cs g = (hookC n fa fn cs).obs s := by
  have e : g = s.heap.get? := funext h
  rw [e] <;> rfl
end PL

set_option Elab.async false
set_option linter.all false
set_option maxRecDepth 100000
set_option maxHeartbeats 1000000
set_option autoImplicit false
/-! PB: runs of the evaluator: what a def gives at every level from N on; rules for simp. -/
namespace PL
open PySem

/-! ### runs -/
def Run (T : Tab) (G : Str → Option D) (g N : Nat) (f : Str) (xs : List D) (s : W) (r : D × W) : Prop := ∀ n, N ≤ n → interp T G g n f xs s = some r
/-- the functions below a level -/
def Lv (T : Tab) (G : Str → Option D) (g N : Nat) (Φ : Fn) : Prop := ∃ n, N ≤ n ∧ Φ = interp T G g n
section
variable {T : Tab} {G : Str → Option D} {g : Nat}
theorem Run.mono {N M : Nat} {f : Str} {xs : List D} {s : W} {r : D × W} (h : Run T G g N f xs s r) (l : N ≤ M) : Run T G g M f xs s r := fun n hn => h n (Nat.le_trans l hn)
theorem Lv.mono {N M : Nat} {Φ : Fn} (e : Lv T G g M Φ) (h : N ≤ M) : Lv T G g N Φ := by
  obtain ⟨n, hn, q⟩ := e
  exact ⟨n, Nat.le_trans h hn, q⟩
theorem Run.use {N M : Nat} {f : Str} {xs : List D} {s : W} {r : D × W} (h : Run T G g N f xs s r) {Φ : Fn} (e : Lv T G g M Φ) (l : N ≤ M) : Φ f xs s = some r := by
  obtain ⟨n, hn, rfl⟩ := e
  exact h n (Nat.le_trans l hn)
/-- a def that ends by a return -/
theorem Run.of {N : Nat} {f : Str} {fd : FD} {xs : List D} {s s' : W} {x : D} (hT : T f = some fd) (hl : xs.length = fd.np) (hw : (!fd.usesW || s.isSome) = true)
    (h : ∀ Φ : Fn, Lv T G g N Φ → evSs Φ G g fd.body (fd.start xs) s = some (.rt x, s')) : Run T G g (N + 1) f xs s (x, s') := by
  intro n hn
  obtain ⟨m, rfl⟩ : ∃ m, n = m + 1 := ⟨n - 1, by omega⟩
  have q := h (interp T G g m) ⟨m, by omega, rfl⟩
  unfold interp
  rw [hT]
  simp only [hl, hw, decide_true, Bool.and_self, if_true]
  rw [q]
/-- what a def gives, told by a relation -/
def RunP (T : Tab) (G : Str → Option D) (g N : Nat) (f : Str) (xs : List D) (s : W) (P : D → W → Prop) : Prop := ∃ x s', Run T G g N f xs s (x, s') ∧ P x s'
end

/-! ### simp: names, reads -/
section
variable {ρ : PL.Env} {k : W → Option (D × W)} {s : W}
@[simp] theorem fzC_fz (x : D) : fzC (some (.fz x)) = some x := rfl
@[simp] theorem rdC_fz (x : D) : rdC (some (.fz x)) = some x := rfl
@[simp] theorem rdC_own (x : D) : rdC (some (.own x)) = some x := rfl
@[simp] theorem bindT_nm (i : Nat) (x : D) : bindT (.nm i) x ρ = some (ρ.set i (.fz x)) := rfl
@[simp] theorem bindT_tupT (is : List Nat) (xs : List D) : bindT (.tup is) (.tuple xs) ρ = setAll ρ is xs := rfl
@[simp] theorem bindT_tupL (is : List Nat) (xs : List D) : bindT (.tup is) (.list xs) ρ = setAll ρ is xs := rfl
@[simp] theorem setAll_nil : setAll ρ [] [] = some ρ := rfl
@[simp] theorem setAll_cons (i : Nat) (is : List Nat) (x : D) (xs : List D) : setAll ρ (i :: is) (x :: xs) = setAll (ρ.set i (.fz x)) is xs := rfl
@[simp] theorem isSt_st : isSt (some .st) = true := rfl
@[simp] theorem rdE_v (i : Nat) : rdE ρ (.v i) k s = match rdC ρ[i]? with | some x => some (x, s) | none => none := rfl
@[simp] theorem rdE_non : rdE ρ .non k s = k s := rfl
@[simp] theorem rdE_bl (b) : rdE ρ (.bl b) k s = k s := rfl
@[simp] theorem rdE_int (b) : rdE ρ (.int b) k s = k s := rfl
@[simp] theorem rdE_str (b) : rdE ρ (.str b) k s = k s := rfl
@[simp] theorem rdE_g (b) : rdE ρ (.g b) k s = k s := rfl
@[simp] theorem rdE_tup (b) : rdE ρ (.tup b) k s = k s := rfl
@[simp] theorem rdE_lst (b) : rdE ρ (.lst b) k s = k s := rfl
@[simp] theorem rdE_dct (a b) : rdE ρ (.dct a b) k s = k s := rfl
@[simp] theorem rdE_bin (o a b) : rdE ρ (.bin o a b) k s = k s := rfl
@[simp] theorem rdE_neg (b) : rdE ρ (.neg b) k s = k s := rfl
@[simp] theorem rdE_cmp (o a b) : rdE ρ (.cmp o a b) k s = k s := rfl
@[simp] theorem rdE_cmp2 (o p a b c) : rdE ρ (.cmp2 o p a b c) k s = k s := rfl
@[simp] theorem rdE_and (a b) : rdE ρ (.and a b) k s = k s := rfl
@[simp] theorem rdE_or (a b) : rdE ρ (.or a b) k s = k s := rfl
@[simp] theorem rdE_not (b) : rdE ρ (.not b) k s = k s := rfl
@[simp] theorem rdE_ite (a b c) : rdE ρ (.ite a b c) k s = k s := rfl
@[simp] theorem rdE_ix (a b) : rdE ρ (.ix a b) k s = k s := rfl
@[simp] theorem rdE_sl (a b c) : rdE ρ (.sl a b c) k s = k s := rfl
@[simp] theorem rdE_call (a b) : rdE ρ (.call a b) k s = k s := rfl
@[simp] theorem rdE_wcall (a b c) : rdE ρ (.wcall a b c) k s = k s := rfl
@[simp] theorem rdE_blt (a b) : rdE ρ (.blt a b) k s = k s := rfl
@[simp] theorem rdE_split (a b) : rdE ρ (.split a b) k s = k s := rfl
@[simp] theorem rdE_get (a b c) : rdE ρ (.get a b c) k s = k s := rfl
@[simp] theorem rdE_wix (a b) : rdE ρ (.wix a b) k s = k s := rfl
@[simp] theorem rdE_wget (a b c) : rdE ρ (.wget a b c) k s = k s := rfl
@[simp] theorem rdE_lc (a b c d e) : rdE ρ (.lc a b c d e) k s = k s := rfl
end
/-! ### simp: data -/
@[simp] theorem ofS (a b : String) : (Str.ofString a = Str.ofString b) ↔ (a = b) := by
  constructor
  · intro h
    rw [Str.ofString_eq_toList, Str.ofString_eq_toList] at h
    injection h with h
    have h2 := congrArg Array.toList h
    simp only at h2
    have : a.toList = b.toList := by
      have inj : ∀ (xs ys : List Char), xs.map Char.toNat = ys.map Char.toNat → xs = ys := by
        intro xs
        induction xs with
        | nil => intro ys h; cases ys with | nil => rfl | cons _ _ => cases h
        | cons x xs ih =>
          intro ys h
          cases ys with
          | nil => cases h
          | cons y ys =>
            rw [List.map_cons, List.map_cons] at h
            injection h with h1 h2
            rw [ih ys h2, Char.toNat_inj.mp h1]
      exact inj _ _ h2
    exact String.toList_inj.mp this
  · intro h; rw [h]
@[simp] theorem eqv_ss (a b : Str) : PyData.eqv (.str a) (.str b) = decide (a = b) := by
  simp only [PyData.eqv]
  by_cases h : a = b <;> simp [h]
@[simp] theorem eqv_ii (a b : Int) : PyData.eqv (.int a) (.int b) = decide (a = b) := by
  simp only [PyData.eqv]
  by_cases h : a = b <;> simp [h]
@[simp] theorem eqv_bb (a b : Bool) : PyData.eqv (.bool a) (.bool b) = decide (a = b) := by
  simp only [PyData.eqv]
  by_cases h : a = b <;> simp [h]
@[simp] theorem cmp_eq_ss (a b : Str) : cmpD .eq (.str a) (.str b) = some (decide (a = b)) := by simp [cmpD, eqOk, scalD]
@[simp] theorem cmp_ne_ss (a b : Str) : cmpD .ne (.str a) (.str b) = some (!decide (a = b)) := by simp [cmpD, eqOk, scalD]
@[simp] theorem cmp_eq_ii (a b : Int) : cmpD .eq (.int a) (.int b) = some (decide (a = b)) := by simp [cmpD, eqOk, scalD]
@[simp] theorem cmp_ne_ii (a b : Int) : cmpD .ne (.int a) (.int b) = some (!decide (a = b)) := by simp [cmpD, eqOk, scalD]
@[simp] theorem cmp_eq_bb (a b : Bool) : cmpD .eq (.bool a) (.bool b) = some (decide (a = b)) := by simp [cmpD, eqOk, scalD]
@[simp] theorem cmp_lt_ii (a b : Int) : cmpD .lt (.int a) (.int b) = some (decide (a < b)) := rfl
@[simp] theorem cmp_gt_ii (a b : Int) : cmpD .gt (.int a) (.int b) = some (decide (b < a)) := rfl
@[simp] theorem cmp_le_ii (a b : Int) : cmpD .le (.int a) (.int b) = some (decide (a ≤ b)) := rfl
@[simp] theorem cmp_ge_ii (a b : Int) : cmpD .ge (.int a) (.int b) = some (decide (b ≤ a)) := rfl
@[simp] theorem cmp_is_n (a : D) : cmpD .is_ a .none = some (isNon a) := rfl
@[simp] theorem cmp_isnot_n (a : D) : cmpD .isnot a .none = some (!isNon a) := rfl
@[simp] theorem cmp_in (a b : D) : cmpD .isin a b = inD a b := rfl
@[simp] theorem cmp_notin (a b : D) : cmpD .notin a b = (inD a b).map (!·) := rfl
@[simp] theorem binD_add (i j : Int) : binD .add (.int i) (.int j) = some (.int (i + j)) := rfl
@[simp] theorem binD_sub (i j : Int) : binD .sub (.int i) (.int j) = some (.int (i - j)) := rfl
@[simp] theorem binD_mul (i j : Int) : binD .mul (.int i) (.int j) = if bigOk i && bigOk j then some (.int (i * j)) else none := rfl
@[simp] theorem binD_mod (i j : Int) : binD .mod (.int i) (.int j) = if decide (0 < j) then some (.int (i % j)) else none := rfl
@[simp] theorem binD_fdiv (i j : Int) : binD .fdiv (.int i) (.int j) = if decide (0 < j) && decide (j.natAbs.log2 < 9000) then some (.int (i / j)) else none := rfl
@[simp] theorem binD_addS (a b : Str) : binD .add (.str a) (.str b) = if lineOk (a.length + b.length) then some (.str (a ++ b)) else none := rfl
@[simp] theorem binD_addL (a b : List D) : binD .add (.list a) (.list b) = if lineOk (a.length + b.length) then some (.list (a ++ b)) else none := rfl
@[simp] theorem binD_addT (a b : List D) : binD .add (.tuple a) (.tuple b) = if lineOk (a.length + b.length) then some (.tuple (a ++ b)) else none := rfl
@[simp] theorem ixD_tup (xs : List D) (i : Int) : ixD (.tuple xs) (.int i) = L2.atI xs i := rfl
@[simp] theorem ixD_lst (xs : List D) (i : Int) : ixD (.list xs) (.int i) = L2.atI xs i := rfl
@[simp] theorem ixD_dctS (ds : KV) (x : Str) : ixD (.dict ds) (.str x) = dGet ds (.inr x) := rfl
@[simp] theorem dGet_nil (k : L2.Key) : dGet [] k = none := rfl
@[simp] theorem dGet_cons (a b : Str) (x : D) (ds : KV) : dGet ((.str a, x) :: ds) (.inr b) = if a = b then some x else dGet ds (.inr b) := by
  unfold dGet
  rw [List.find?_cons]
  by_cases h : a = b
  · subst h; simp [isK, kOf]
  · have : isK (.inr b) (.str a) = false := by simp [isK, kOf, h]
    rw [this]
    simp [h]
theorem atI_nat {α : Type} (xs : List α) (k : Nat) : L2.atI xs (k : Int) = xs[k]? := by
  unfold L2.atI L2.ixN
  have h0 : (0 : Int) ≤ (k : Int) := Int.natCast_nonneg k
  rw [if_pos h0]
  by_cases h : (k : Int) < xs.length
  · rw [if_pos h]; rfl
  · rw [if_neg h]
    have : xs.length ≤ k := by omega
    rw [List.getElem?_eq_none this]; rfl
@[simp] theorem at0 {α : Type} (x : α) (xs : List α) : L2.atI (x :: xs) 0 = some x := atI_nat (x :: xs) 0
@[simp] theorem at1 {α : Type} (x y : α) (xs : List α) : L2.atI (x :: y :: xs) 1 = some y := atI_nat (x :: y :: xs) 1
@[simp] theorem at2 {α : Type} (x y z : α) (xs : List α) : L2.atI (x :: y :: z :: xs) 2 = some z := atI_nat (x :: y :: z :: xs) 2
@[simp] theorem at3 {α : Type} (x y z u : α) (xs : List α) : L2.atI (x :: y :: z :: u :: xs) 3 = some u := atI_nat (x :: y :: z :: u :: xs) 3
@[simp] theorem at4 {α : Type} (x y z u v : α) (xs : List α) : L2.atI (x :: y :: z :: u :: v :: xs) 4 = some v := atI_nat (x :: y :: z :: u :: v :: xs) 4
theorem at_last {α : Type} (xs : List α) (x : α) : L2.atI (xs ++ [x]) (-1) = some x := by
  unfold L2.atI L2.ixN
  rw [if_neg (by omega), List.length_append, List.length_singleton, if_pos (by omega)]
  have : (-1 + ((xs.length + 1 : Nat) : Int)).toNat = xs.length := by omega
  show (some (-1 + ((xs.length + 1 : Nat) : Int)).toNat).bind _ = _
  rw [this]
  simp

/-! ### loops, by names -/
section
variable (Φ : Fn) (G : Str → Option D) (g : Nat)
def cnd (c : RE) : PL.Env → W → Option (Bool × W) := fun ρ s => match ev Φ G ρ c s with
  | some (.bool t, s1) => some (t, s1)
  | _ => none
def forT (t : Tg) (b : RSs) : D → PL.Env → W → Option (Fl × W) := fun x ρ s => match bindT t x ρ with
  | some ρ1 => evSs Φ G g b ρ1 s
  | none => none
def lcT (ρ : PL.Env) (own : List Nat) (elt : RE) (t : Tg) (c : RO) : D → W → Option (Option D × W) := fun x s => match bindT t x (wipeE ρ own) with
  | none => none
  | some ρ1 => match evC Φ G ρ1 c s with
    | some (true, s2) => match ev Φ G ρ1 elt s2 with
      | some (y, s3) => some (some y, s3)
      | none => none
    | some (false, s2) => some (none, s2)
    | none => none
end
section
variable {Φ : Fn} {G : Str → Option D} {g : Nat} {ρ : PL.Env} {s : W}
@[simp high] theorem evS_whl (c : RE) (b : RSs) : evS Φ G g (.whl c b) ρ s = whLoop (cnd Φ G c) (fun ρ s => evSs Φ G g b ρ s) g ρ s := by
  unfold evS cnd; rfl
@[simp high] theorem evS_for (t : Tg) (it : RI) (b : RSs) : evS Φ G g (.for_ t it b) ρ s = match evI Φ G ρ it s with
    | some (xs, s1) => forLoop (forT Φ G g t b) xs ρ s1
    | none => none := by
  unfold evS forT; rfl
@[simp high] theorem ev_lc (own : List Nat) (elt : RE) (t : Tg) (it : RI) (c : RO) : ev Φ G ρ (.lc own elt t it c) s = match evI Φ G ρ it s with
    | some (xs, s1) => match lcLoop (lcT Φ G ρ own elt t c) xs s1 with
      | some (ys, s2) => some (.list ys, s2)
      | none => none
    | none => none := by
  unfold ev lcT; rfl
/-- a comprehension that changes nothing: the kept ones, mapped -/
theorem lc_map {turn : D → W → Option (Option D × W)} {f : D → Option D} : ∀ {xs : List D}, (∀ x ∈ xs, turn x s = some (f x, s)) → lcLoop turn xs s = some (xs.filterMap f, s)
  | [], _ => rfl
  | x :: xs, h => by
    unfold lcLoop
    rw [h x List.mem_cons_self]
    simp only
    rw [lc_map fun y hy => h y (List.mem_cons_of_mem _ hy)]
    cases e : f x <;> simp [List.filterMap_cons, e]
theorem lc_each {turn : D → W → Option (Option D × W)} {f : D → D} {xs : List D} (h : ∀ x ∈ xs, turn x s = some (some (f x), s)) : lcLoop turn xs s = some (xs.map f, s) := by
  rw [lc_map (f := fun x => some (f x)) h]
  simp [List.filterMap_eq_map]
theorem lc_eachM {α : Type} {turn : D → W → Option (Option D × W)} {f h : α → D} {xs : List α} (e : ∀ x ∈ xs, turn (f x) s = some (some (h x), s)) : lcLoop turn (xs.map f) s = some (xs.map h, s) := by
  induction xs with
  | nil => rfl
  | cons x xs ih =>
    rw [List.map_cons]
    unfold lcLoop
    rw [e x List.mem_cons_self]
    simp only
    rw [ih fun y hy => e y (List.mem_cons_of_mem _ hy)]
    rfl
theorem lc_filtM {α : Type} {turn : D → W → Option (Option D × W)} {f h : α → D} {b : α → Bool} {xs : List α} (e : ∀ x ∈ xs, turn (f x) s = some (if b x then some (h x) else none, s)) : lcLoop turn (xs.map f) s = some ((xs.filter b).map h, s) := by
  induction xs with
  | nil => rfl
  | cons x xs ih =>
    rw [List.map_cons]
    unfold lcLoop
    rw [e x List.mem_cons_self]
    simp only
    rw [ih fun y hy => e y (List.mem_cons_of_mem _ hy)]
    cases q : b x <;> simp [q]
end
end PL

set_option Elab.async false
set_option linter.all false
set_option maxRecDepth 100000
set_option maxHeartbeats 1000000
set_option autoImplicit false
/-! PE: the evaluator's equations, one a construct, as rules for simp (printed by gen_eqs.py). -/
namespace PL
open PySem
section
variable {Φ : Fn} {G : Str → Option D} {g : Nat} {ρ : PL.Env} {s : W}
@[simp] theorem evq_0  : ev Φ G ρ (.non) s = some (.none, s) := by
  first
  | ((conv => lhs; rw [ev]); try rfl)
  | (cases s <;> ((conv => lhs; rw [ev]) <;> try rfl))
@[simp] theorem evq_1 (b) : ev Φ G ρ (.bl b) s = some (.bool b, s) := by
  first
  | ((conv => lhs; rw [ev]); try rfl)
  | (cases s <;> ((conv => lhs; rw [ev]) <;> try rfl))
@[simp] theorem evq_2 (i) : ev Φ G ρ (.int i) s = some (.int i, s) := by
  first
  | ((conv => lhs; rw [ev]); try rfl)
  | (cases s <;> ((conv => lhs; rw [ev]) <;> try rfl))
@[simp] theorem evq_3 (x) : ev Φ G ρ (.str x) s = some (.str x, s) := by
  first
  | ((conv => lhs; rw [ev]); try rfl)
  | (cases s <;> ((conv => lhs; rw [ev]) <;> try rfl))
@[simp] theorem evq_4 (i) : ev Φ G ρ (.v i) s = match fzC ρ[i]? with
    | some x => some (x, s)
    | none => none := by
  first
  | ((conv => lhs; rw [ev]); try rfl)
  | (cases s <;> ((conv => lhs; rw [ev]) <;> try rfl))
@[simp] theorem evq_5 (x) : ev Φ G ρ (.g x) s = match G x with
    | some d => some (d, s)
    | none => none := by
  first
  | ((conv => lhs; rw [ev]); try rfl)
  | (cases s <;> ((conv => lhs; rw [ev]) <;> try rfl))
@[simp] theorem evq_6 (es) : ev Φ G ρ (.tup es) s = match evs Φ G ρ es s with
    | some (xs, s1) => some (.tuple xs, s1)
    | none => none := by
  first
  | ((conv => lhs; rw [ev]); try rfl)
  | (cases s <;> ((conv => lhs; rw [ev]) <;> try rfl))
@[simp] theorem evq_7 (es) : ev Φ G ρ (.lst es) s = match evs Φ G ρ es s with
    | some (xs, s1) => some (.list xs, s1)
    | none => none := by
  first
  | ((conv => lhs; rw [ev]); try rfl)
  | (cases s <;> ((conv => lhs; rw [ev]) <;> try rfl))
@[simp] theorem evq_8 (ks) (es) : ev Φ G ρ (.dct ks es) s = match evs Φ G ρ es s with
    | some (xs, s1) => some (.dict (dMerge [] ((ks.map Sum.inr).zip xs)), s1)
    | none => none := by
  first
  | ((conv => lhs; rw [ev]); try rfl)
  | (cases s <;> ((conv => lhs; rw [ev]) <;> try rfl))
@[simp] theorem evq_9 (o) (a) (b) : ev Φ G ρ (.bin o a b) s = match rdE ρ a (ev Φ G ρ a) s with
    | some (x, s1) => match rdE ρ b (ev Φ G ρ b) s1 with
      | some (y, s2) => match binD o x y with
        | some z => some (z, s2)
        | none => none
      | none => none
    | none => none := by
  first
  | ((conv => lhs; rw [ev]); try rfl)
  | (cases s <;> ((conv => lhs; rw [ev]) <;> try rfl))
@[simp] theorem evq_10 (a) : ev Φ G ρ (.neg a) s = match ev Φ G ρ a s with
    | some (.int i, s1) => some (.int (-i), s1)
    | _ => none := by
  first
  | ((conv => lhs; rw [ev]); try rfl)
  | (cases s <;> ((conv => lhs; rw [ev]) <;> try rfl))
@[simp] theorem evq_11 (o) (a) (b) : ev Φ G ρ (.cmp o a b) s = match rdE ρ a (ev Φ G ρ a) s with
    | some (x, s1) => match rdE ρ b (ev Φ G ρ b) s1 with
      | some (y, s2) => match cmpD o x y with
        | some z => some (.bool z, s2)
        | none => none
      | none => none
    | none => none := by
  first
  | ((conv => lhs; rw [ev]); try rfl)
  | (cases s <;> ((conv => lhs; rw [ev]) <;> try rfl))
@[simp] theorem evq_12 (o) (p) (a) (b) (c) : ev Φ G ρ (.cmp2 o p a b c) s = match rdE ρ a (ev Φ G ρ a) s with
    | some (x, s1) => match rdE ρ b (ev Φ G ρ b) s1 with
      | some (y, s2) => match cmpD o x y with
        | some true => match rdE ρ c (ev Φ G ρ c) s2 with
          | some (z, s3) => match cmpD p y z with
            | some t => some (.bool t, s3)
            | none => none
          | none => none
        | some false => some (.bool false, s2)
        | none => none
      | none => none
    | none => none := by
  first
  | ((conv => lhs; rw [ev]); try rfl)
  | (cases s <;> ((conv => lhs; rw [ev]) <;> try rfl))
@[simp] theorem evq_13 (a) (b) : ev Φ G ρ (.and a b) s = match ev Φ G ρ a s with
    | some (.bool true, s1) => ev Φ G ρ b s1
    | some (.bool false, s1) => some (.bool false, s1)
    | _ => none := by
  first
  | ((conv => lhs; rw [ev]); try rfl)
  | (cases s <;> ((conv => lhs; rw [ev]) <;> try rfl))
@[simp] theorem evq_14 (a) (b) : ev Φ G ρ (.or a b) s = match ev Φ G ρ a s with
    | some (.bool true, s1) => some (.bool true, s1)
    | some (.bool false, s1) => ev Φ G ρ b s1
    | _ => none := by
  first
  | ((conv => lhs; rw [ev]); try rfl)
  | (cases s <;> ((conv => lhs; rw [ev]) <;> try rfl))
@[simp] theorem evq_15 (a) : ev Φ G ρ (.not a) s = match ev Φ G ρ a s with
    | some (.bool t, s1) => some (.bool (!t), s1)
    | _ => none := by
  first
  | ((conv => lhs; rw [ev]); try rfl)
  | (cases s <;> ((conv => lhs; rw [ev]) <;> try rfl))
@[simp] theorem evq_16 (c) (a) (b) : ev Φ G ρ (.ite c a b) s = match ev Φ G ρ c s with
    | some (.bool true, s1) => ev Φ G ρ a s1
    | some (.bool false, s1) => ev Φ G ρ b s1
    | _ => none := by
  first
  | ((conv => lhs; rw [ev]); try rfl)
  | (cases s <;> ((conv => lhs; rw [ev]) <;> try rfl))
@[simp] theorem evq_17 (a) (b) : ev Φ G ρ (.ix a b) s = match rdE ρ a (ev Φ G ρ a) s with
    | some (x, s1) => match ev Φ G ρ b s1 with
      | some (y, s2) => match ixD x y with
        | some z => some (z, s2)
        | none => none
      | none => none
    | none => none := by
  first
  | ((conv => lhs; rw [ev]); try rfl)
  | (cases s <;> ((conv => lhs; rw [ev]) <;> try rfl))
@[simp] theorem evq_18 (a) (lo) (hi) : ev Φ G ρ (.sl a lo hi) s = match rdE ρ a (ev Φ G ρ a) s with
    | some (x, s1) => match evO Φ G ρ lo s1 with
      | some (l, s2) => match evO Φ G ρ hi s2 with
        | some (h, s3) => match slD x l h with
          | some z => some (z, s3)
          | none => none
        | none => none
      | none => none
    | none => none := by
  first
  | ((conv => lhs; rw [ev]); try rfl)
  | (cases s <;> ((conv => lhs; rw [ev]) <;> try rfl))
@[simp] theorem evq_19 (f) (es) : ev Φ G ρ (.call f es) s = match evs Φ G ρ es s with
    | some (xs, s1) => Φ f xs s1
    | none => none := by
  first
  | ((conv => lhs; rw [ev]); try rfl)
  | (cases s <;> ((conv => lhs; rw [ev]) <;> try rfl))
@[simp] theorem evq_20 (f) (i) (es) : ev Φ G ρ (.wcall f i es) s = if isSt ρ[i]? then match evs Φ G ρ es s with
    | some (xs, s1) => Φ f xs s1
    | none => none
    else none := by
  first
  | ((conv => lhs; rw [ev]); try rfl)
  | (cases s <;> ((conv => lhs; rw [ev]) <;> try rfl))
@[simp] theorem evq_21 (b) (es) : ev Φ G ρ (.blt b es) s = match evRs Φ G ρ es s with
    | some (xs, s1) => match bltD b xs with
      | some z => some (z, s1)
      | none => none
    | none => none := by
  first
  | ((conv => lhs; rw [ev]); try rfl)
  | (cases s <;> ((conv => lhs; rw [ev]) <;> try rfl))
@[simp] theorem evq_22 (a) (b) : ev Φ G ρ (.split a b) s = match ev Φ G ρ a s with
    | some (.str x, s1) => match ev Φ G ρ b s1 with
      | some (.str y, s2) => if (y.length == 0) == false && lineOk (x.length + 2) then some (.list ((Txt.split x y).map .str), s2) else none
      | _ => none
    | _ => none := by
  first
  | ((conv => lhs; rw [ev]); try rfl)
  | (cases s <;> ((conv => lhs; rw [ev]) <;> try rfl))
@[simp] theorem evq_23 (a) (k) (d) : ev Φ G ρ (.get a k d) s = match rdE ρ a (ev Φ G ρ a) s with
    | some (.dict ds, s1) => match ev Φ G ρ k s1 with
      | some (y, s2) => match ev Φ G ρ d s2 with
        | some (z, s3) => match kOf y with
          | some k => some ((dGet ds k).getD z, s3)
          | none => none
        | none => none
      | none => none
    | _ => none := by
  first
  | ((conv => lhs; rw [ev]); try rfl)
  | (cases s <;> ((conv => lhs; rw [ev]) <;> try rfl))
@[simp] theorem evq_24 (i) (k) : ev Φ G ρ (.wix i k) s = if isSt ρ[i]? then match s with
    | some ds => match dGet ds (.inr k) with
      | some x => some (x, s)
      | none => none
    | none => none
    else none := by
  first
  | ((conv => lhs; rw [ev]); try rfl)
  | (cases s <;> ((conv => lhs; rw [ev]) <;> try rfl))
@[simp] theorem evq_25 (i) (k) (d) : ev Φ G ρ (.wget i k d) s = if isSt ρ[i]? then match ev Φ G ρ d s with
    | some (z, some ds) => some ((dGet ds (.inr k)).getD z, some ds)
    | _ => none
    else none := by
  first
  | ((conv => lhs; rw [ev]); try rfl)
  | (cases s <;> ((conv => lhs; rw [ev]) <;> try rfl))
@[simp] theorem evsq_0  : evs Φ G ρ (.nil) s = some ([], s) := by
  first
  | ((conv => lhs; rw [evs]); try rfl)
  | (cases s <;> ((conv => lhs; rw [evs]) <;> try rfl))
@[simp] theorem evsq_1 (e) (r) : evs Φ G ρ (.cons e r) s = match ev Φ G ρ e s with
    | some (x, s1) => match evs Φ G ρ r s1 with
      | some (xs, s2) => some (x :: xs, s2)
      | none => none
    | none => none := by
  first
  | ((conv => lhs; rw [evs]); try rfl)
  | (cases s <;> ((conv => lhs; rw [evs]) <;> try rfl))
@[simp] theorem evRsq_0  : evRs Φ G ρ (.nil) s = some ([], s) := by
  first
  | ((conv => lhs; rw [evRs]); try rfl)
  | (cases s <;> ((conv => lhs; rw [evRs]) <;> try rfl))
@[simp] theorem evRsq_1 (e) (r) : evRs Φ G ρ (.cons e r) s = match rdE ρ e (ev Φ G ρ e) s with
    | some (x, s1) => match evRs Φ G ρ r s1 with
      | some (xs, s2) => some (x :: xs, s2)
      | none => none
    | none => none := by
  first
  | ((conv => lhs; rw [evRs]); try rfl)
  | (cases s <;> ((conv => lhs; rw [evRs]) <;> try rfl))
@[simp] theorem evOq_0  : evO Φ G ρ (.no) s = some (none, s) := by
  first
  | ((conv => lhs; rw [evO]); try rfl)
  | (cases s <;> ((conv => lhs; rw [evO]) <;> try rfl))
@[simp] theorem evOq_1 (e) : evO Φ G ρ (.yes e) s = match ev Φ G ρ e s with
    | some (.int i, s1) => some (some i, s1)
    | _ => none := by
  first
  | ((conv => lhs; rw [evO]); try rfl)
  | (cases s <;> ((conv => lhs; rw [evO]) <;> try rfl))
@[simp] theorem evCq_0  : evC Φ G ρ (.no) s = some (true, s) := by
  first
  | ((conv => lhs; rw [evC]); try rfl)
  | (cases s <;> ((conv => lhs; rw [evC]) <;> try rfl))
@[simp] theorem evCq_1 (e) : evC Φ G ρ (.yes e) s = match ev Φ G ρ e s with
    | some (.bool i, s1) => some (i, s1)
    | _ => none := by
  first
  | ((conv => lhs; rw [evC]); try rfl)
  | (cases s <;> ((conv => lhs; rw [evC]) <;> try rfl))
@[simp] theorem evIq_0 (e) : evI Φ G ρ (.seq e) s = match ev Φ G ρ e s with
    | some (x, s1) => match seqOf x with
      | some xs => some (xs, s1)
      | none => none
    | none => none := by
  first
  | ((conv => lhs; rw [evI]); try rfl)
  | (cases s <;> ((conv => lhs; rw [evI]) <;> try rfl))
@[simp] theorem evIq_1 (i) : evI Φ G ρ (.keys i) s = match fzC ρ[i]? with
    | some (.dict ds) => some (ds.map (·.1), s)
    | _ => none := by
  first
  | ((conv => lhs; rw [evI]); try rfl)
  | (cases s <;> ((conv => lhs; rw [evI]) <;> try rfl))
@[simp] theorem evIq_2 (e) : evI Φ G ρ (.rng1 e) s = match ev Φ G ρ e s with
    | some (.int j, s1) => if decide (j ≤ 16777216) && decide (-16777216 ≤ j) then some (rngD 0 j.toNat, s1) else none
    | _ => none := by
  first
  | ((conv => lhs; rw [evI]); try rfl)
  | (cases s <;> ((conv => lhs; rw [evI]) <;> try rfl))
@[simp] theorem evIq_3 (a) (b) : evI Φ G ρ (.rng2 a b) s = match ev Φ G ρ a s with
    | some (.int i, s1) => match ev Φ G ρ b s1 with
      | some (.int j, s2) => if decide (-16777216 ≤ i) && decide (j ≤ 16777216) && decide (i ≤ 16777216) && decide (-16777216 ≤ j) && decide (j - i ≤ 16777216) then some (rngD i (j - i).toNat, s2) else none
      | _ => none
    | _ => none := by
  first
  | ((conv => lhs; rw [evI]); try rfl)
  | (cases s <;> ((conv => lhs; rw [evI]) <;> try rfl))
@[simp] theorem evIq_4 (e) : evI Φ G ρ (.enm e) s = match ev Φ G ρ e s with
    | some (x, s1) => match seqOf x with
      | some xs => some (enmD 0 xs, s1)
      | none => none
    | none => none := by
  first
  | ((conv => lhs; rw [evI]); try rfl)
  | (cases s <;> ((conv => lhs; rw [evI]) <;> try rfl))
@[simp] theorem evPq_0  : evP Φ G ρ (.nil) s = some ([], s) := by
  first
  | ((conv => lhs; rw [evP]); try rfl)
  | (cases s <;> ((conv => lhs; rw [evP]) <;> try rfl))
@[simp] theorem evPq_1 (e) (r) : evP Φ G ρ (.fr e r) s = match ev Φ G ρ e s with
    | some (x, s1) => match evP Φ G ρ r s1 with
      | some (cs, s2) => some (.fz x :: cs, s2)
      | none => none
    | none => none := by
  first
  | ((conv => lhs; rw [evP]); try rfl)
  | (cases s <;> ((conv => lhs; rw [evP]) <;> try rfl))
@[simp] theorem evPq_2 (r) : evP Φ G ρ (.nl r) s = match evP Φ G ρ r s with
    | some (cs, s2) => some (.own (.list []) :: cs, s2)
    | none => none := by
  first
  | ((conv => lhs; rw [evP]); try rfl)
  | (cases s <;> ((conv => lhs; rw [evP]) <;> try rfl))
@[simp] theorem evPq_3 (r) : evP Φ G ρ (.nd r) s = match evP Φ G ρ r s with
    | some (cs, s2) => some (.own (.dict []) :: cs, s2)
    | none => none := by
  first
  | ((conv => lhs; rw [evP]); try rfl)
  | (cases s <;> ((conv => lhs; rw [evP]) <;> try rfl))
@[simp] theorem evSq_0 (t) (e) : evS Φ G g (.asg t e) ρ s = match ev Φ G ρ e s with
    | some (x, s1) => match bindT t x ρ with
      | some ρ1 => some (.nx ρ1, s1)
      | none => none
    | none => none := by
  first
  | ((conv => lhs; rw [evS]); try rfl)
  | (cases s <;> ((conv => lhs; rw [evS]) <;> try rfl))
@[simp] theorem evSq_1 (is) (ps) : evS Φ G g (.par is ps) ρ s = match evP Φ G ρ ps s with
    | some (cs, s1) => match setCs ρ is cs with
      | some ρ1 => some (.nx ρ1, s1)
      | none => none
    | none => none := by
  first
  | ((conv => lhs; rw [evS]); try rfl)
  | (cases s <;> ((conv => lhs; rw [evS]) <;> try rfl))
@[simp] theorem evSq_2 (i) : evS Φ G g (.newl i) ρ s = some (.nx (ρ.set i (.own (.list []))), s) := by
  first
  | ((conv => lhs; rw [evS]); try rfl)
  | (cases s <;> ((conv => lhs; rw [evS]) <;> try rfl))
@[simp] theorem evSq_3 (i) : evS Φ G g (.newd i) ρ s = some (.nx (ρ.set i (.own (.dict []))), s) := by
  first
  | ((conv => lhs; rw [evS]); try rfl)
  | (cases s <;> ((conv => lhs; rw [evS]) <;> try rfl))
@[simp] theorem evSq_4 (i) (k) (e) : evS Φ G g (.put i k e) ρ s = match ev Φ G ρ e s with
    | some (x, s1) => match ev Φ G ρ k s1 with
      | some (y, s2) => match ρ[i]?, kOf y with
        | some (.own (.dict ds)), some k => if lineOk (ds.length + 1) then some (.nx (ρ.set i (.own (.dict (dPut ds k x)))), s2) else none
        | _, _ => none
      | none => none
    | none => none := by
  first
  | ((conv => lhs; rw [evS]); try rfl)
  | (cases s <;> ((conv => lhs; rw [evS]) <;> try rfl))
@[simp] theorem evSq_5 (i) (k) (e) : evS Φ G g (.wput i k e) ρ s = match ev Φ G ρ e s with
    | some (x, some ds) => if isSt ρ[i]? && lineOk (ds.length + 1) then some (.nx ρ, some (dPut ds (.inr k) x)) else none
    | _ => none := by
  first
  | ((conv => lhs; rw [evS]); try rfl)
  | (cases s <;> ((conv => lhs; rw [evS]) <;> try rfl))
@[simp] theorem evSq_6 (i) (k) (e) : evS Φ G g (.waug i k e) ρ s = match s with
    | some ds => match dGet ds (.inr k) with
      | some (.int a) => match ev Φ G ρ e s with
        | some (.int b, some ds1) => if isSt ρ[i]? && lineOk (ds1.length + 1) then some (.nx ρ, some (dPut ds1 (.inr k) (.int (a + b)))) else none
        | _ => none
      | _ => none
    | none => none := by
  first
  | ((conv => lhs; rw [evS]); try rfl)
  | (cases s <;> ((conv => lhs; rw [evS]) <;> try rfl))
@[simp] theorem evSq_7 (i) (ks) (es) : evS Φ G g (.wnew i ks es) ρ s = match s with
    | none => match evs Φ G ρ es none with
      | some (xs, none) => some (.nx (ρ.set i .st), some (dMerge [] ((ks.map Sum.inr).zip xs)))
      | _ => none
    | some _ => none := by
  first
  | ((conv => lhs; rw [evS]); try rfl)
  | (cases s <;> ((conv => lhs; rw [evS]) <;> try rfl))
@[simp] theorem evSq_8 (i) (o) (e) : evS Φ G g (.aug i o e) ρ s = match fzC ρ[i]? with
    | some x => match ev Φ G ρ e s with
      | some (y, s1) => match o, x, y with
        | .add, .int a, .int b => some (.nx (ρ.set i (.fz (.int (a + b)))), s1)
        | .sub, .int a, .int b => some (.nx (ρ.set i (.fz (.int (a - b)))), s1)
        | _, _, _ => none
      | none => none
    | none => none := by
  first
  | ((conv => lhs; rw [evS]); try rfl)
  | (cases s <;> ((conv => lhs; rw [evS]) <;> try rfl))
@[simp] theorem evSq_9 (i) (e) : evS Φ G g (.app i e) ρ s = match ev Φ G ρ e s with
    | some (x, s1) => match ρ[i]? with
      | some (.own (.list xs)) => if lineOk (xs.length + 1) then some (.nx (ρ.set i (.own (.list (xs ++ [x])))), s1) else none
      | _ => none
    | none => none := by
  first
  | ((conv => lhs; rw [evS]); try rfl)
  | (cases s <;> ((conv => lhs; rw [evS]) <;> try rfl))
@[simp] theorem evSq_10 (i) (e) : evS Φ G g (.ext i e) ρ s = match ev Φ G ρ e s with
    | some (.list ys, s1) => match ρ[i]? with
      | some (.own (.list xs)) => if lineOk (xs.length + ys.length) then some (.nx (ρ.set i (.own (.list (xs ++ ys)))), s1) else none
      | _ => none
    | _ => none := by
  first
  | ((conv => lhs; rw [evS]); try rfl)
  | (cases s <;> ((conv => lhs; rw [evS]) <;> try rfl))
@[simp] theorem evSq_11 (e) : evS Φ G g (.ret e) ρ s = match ev Φ G ρ e s with
    | some (x, s1) => some (.rt x, s1)
    | none => none := by
  first
  | ((conv => lhs; rw [evS]); try rfl)
  | (cases s <;> ((conv => lhs; rw [evS]) <;> try rfl))
@[simp] theorem evSq_12 (c) (a) (b) : evS Φ G g (.ite c a b) ρ s = match ev Φ G ρ c s with
    | some (.bool true, s1) => evSs Φ G g a ρ s1
    | some (.bool false, s1) => evSs Φ G g b ρ s1
    | _ => none := by
  first
  | ((conv => lhs; rw [evS]); try rfl)
  | (cases s <;> ((conv => lhs; rw [evS]) <;> try rfl))
@[simp] theorem evSq_15 (i) : evS Φ G g (.frz i) ρ s = some (.nx (frz i ρ), s) := by
  first
  | ((conv => lhs; rw [evS]); try rfl)
  | (cases s <;> ((conv => lhs; rw [evS]) <;> try rfl))
@[simp] theorem evSsq_0  : evSs Φ G g (.nil) ρ s = some (.nx ρ, s) := by
  first
  | ((conv => lhs; rw [evSs]); try rfl)
  | (cases s <;> ((conv => lhs; rw [evSs]) <;> try rfl))
@[simp] theorem evSsq_1 (a) (r) : evSs Φ G g (.cons a r) ρ s = match evS Φ G g a ρ s with
    | some (.nx ρ1, s1) => evSs Φ G g r ρ1 s1
    | some (.rt x, s1) => some (.rt x, s1)
    | none => none := by
  first
  | ((conv => lhs; rw [evSs]); try rfl)
  | (cases s <;> ((conv => lhs; rw [evSs]) <;> try rfl))
end
end PL

set_option Elab.async false
set_option linter.all false
set_option maxRecDepth 100000
set_option maxHeartbeats 1000000
set_option autoImplicit false
/-! PM: more levels give the same. -/
namespace PL
open PySem
def Fle (Φ Ψ : Fn) : Prop := ∀ f xs s r, Φ f xs s = some r → Ψ f xs s = some r
section
variable {Φ Ψ : Fn} {G : Str → Option D} {g : Nat}
theorem rdE_mono {ρ : PL.Env} {e : RE} {k k' : W → Option (D × W)} (h : ∀ s r, k s = some r → k' s = some r) : ∀ s r, rdE ρ e k s = some r → rdE ρ e k' s = some r := by
  intro s r
  cases e <;> simp only [rdE] <;> first | exact h s r | exact id
theorem lc_mono {t t' : D → W → Option (Option D × W)} (h : ∀ x s r, t x s = some r → t' x s = some r) : ∀ xs s r, lcLoop t xs s = some r → lcLoop t' xs s = some r := by
  intro xs
  induction xs with
  | nil => intro s r e; exact e
  | cons x xs ih =>
    intro s r e
    unfold lcLoop at e ⊢
    cases h1 : t x s with
    | none => rw [h1] at e; simp at e
    | some p =>
      rw [h1] at e
      rw [h _ _ _ h1]
      obtain ⟨o, s1⟩ := p
      simp only at e ⊢
      cases h2 : lcLoop t xs s1 with
      | none => rw [h2] at e; simp at e
      | some p2 => rw [h2] at e; rw [ih _ _ h2]; exact e
variable (le : Fle Φ Ψ)
include le
set_option maxHeartbeats 8000000 in
mutual
theorem ev_mono : ∀ (ρ : PL.Env) (e : RE) (s : W) (r : D × W), ev Φ G ρ e s = some r → ev Ψ G ρ e s = some r
  | ρ, .non, s, r => fun h => by
    cases s <;> (simp only [ev] at h ⊢ <;> exact h)
  | ρ, .bl b, s, r => fun h => by
    cases s <;> (simp only [ev] at h ⊢ <;> exact h)
  | ρ, .int i, s, r => fun h => by
    cases s <;> (simp only [ev] at h ⊢ <;> exact h)
  | ρ, .str x, s, r => fun h => by
    cases s <;> (simp only [ev] at h ⊢ <;> exact h)
  | ρ, .v i, s, r => fun h => by
    cases s <;> (simp only [ev] at h ⊢ <;> exact h)
  | ρ, .g x, s, r => fun h => by
    cases s <;> (simp only [ev] at h ⊢ <;> exact h)
  | ρ, .wix i k, s, r => fun h => by
    cases s <;> (simp only [ev] at h ⊢ <;> exact h)
  | ρ, .tup es, s, r => by
    have ms := evs_mono ρ es
    intro h
    grind [ev]
  | ρ, .lst es, s, r => by
    have ms := evs_mono ρ es
    intro h
    grind [ev]
  | ρ, .dct ks es, s, r => by
    have ms := evs_mono ρ es
    intro h
    grind [ev]
  | ρ, .bin o a b, s, r => by
    have ra := rdE_mono (e := a) (ρ := ρ) (ev_mono ρ a)
    have rb := rdE_mono (e := b) (ρ := ρ) (ev_mono ρ b)
    intro h
    grind [ev]
  | ρ, .neg a, s, r => by
    have ma := ev_mono ρ a
    intro h
    grind [ev]
  | ρ, .cmp o a b, s, r => by
    have ra := rdE_mono (e := a) (ρ := ρ) (ev_mono ρ a)
    have rb := rdE_mono (e := b) (ρ := ρ) (ev_mono ρ b)
    intro h
    grind [ev]
  | ρ, .cmp2 o p a b c, s, r => by
    have ra := rdE_mono (e := a) (ρ := ρ) (ev_mono ρ a)
    have rb := rdE_mono (e := b) (ρ := ρ) (ev_mono ρ b)
    have rc := rdE_mono (e := c) (ρ := ρ) (ev_mono ρ c)
    intro h
    simp only [ev] at h ⊢
    cases h1 : rdE ρ a (ev Φ G ρ a) s with
    | none => rw [h1] at h; cases h
    | some p1 =>
      rw [h1] at h
      rw [ra _ _ h1]
      obtain ⟨x, s1⟩ := p1
      simp only at h ⊢
      cases h2 : rdE ρ b (ev Φ G ρ b) s1 with
      | none => rw [h2] at h; cases h
      | some p2 =>
        rw [h2] at h
        rw [rb _ _ h2]
        obtain ⟨y, s2⟩ := p2
        simp only at h ⊢
        cases h3 : rdE ρ c (ev Φ G ρ c) s2 with
        | none =>
          rw [h3] at h
          cases h4 : cmpD o x y with
          | none => rw [h4] at h; cases h
          | some q => cases q <;> rw [h4] at h <;> simp_all
        | some p3 => rw [h3] at h; rw [rc _ _ h3]; exact h
  | ρ, .and a b, s, r => by
    have ma := ev_mono ρ a
    have mb := ev_mono ρ b
    intro h
    grind [ev]
  | ρ, .or a b, s, r => by
    have ma := ev_mono ρ a
    have mb := ev_mono ρ b
    intro h
    grind [ev]
  | ρ, .not a, s, r => by
    have ma := ev_mono ρ a
    intro h
    grind [ev]
  | ρ, .ite c a b, s, r => by
    have mc := ev_mono ρ c
    have ma := ev_mono ρ a
    have mb := ev_mono ρ b
    intro h
    grind [ev]
  | ρ, .ix a b, s, r => by
    have ra := rdE_mono (e := a) (ρ := ρ) (ev_mono ρ a)
    have mb := ev_mono ρ b
    intro h
    grind [ev]
  | ρ, .sl a lo hi, s, r => by
    have ra := rdE_mono (e := a) (ρ := ρ) (ev_mono ρ a)
    have mlo := evO_mono ρ lo
    have mhi := evO_mono ρ hi
    intro h
    grind [ev]
  | ρ, .call f es, s, r => by
    have ms := evs_mono ρ es
    have ml := le f
    intro h
    grind [ev]
  | ρ, .wcall f i es, s, r => by
    have ms := evs_mono ρ es
    have ml := le f
    intro h
    grind [ev]
  | ρ, .blt b es, s, r => by
    have ms := evRs_mono ρ es
    intro h
    grind [ev]
  | ρ, .split a b, s, r => by
    have ma := ev_mono ρ a
    have mb := ev_mono ρ b
    intro h
    grind [ev]
  | ρ, .get a k d, s, r => by
    have ra := rdE_mono (e := a) (ρ := ρ) (ev_mono ρ a)
    have mk := ev_mono ρ k
    have md := ev_mono ρ d
    intro h
    grind [ev]
  | ρ, .wget i k d, s, r => by
    have md := ev_mono ρ d
    intro h
    grind [ev]
  | ρ, .lc own elt t it c, s, r => by
    have mi := evI_mono ρ it
    have ht : ∀ x s r, lcT Φ G ρ own elt t c x s = some r → lcT Ψ G ρ own elt t c x s = some r := by
      intro x s r
      unfold lcT
      cases hb : bindT t x (wipeE ρ own) with
      | none => exact id
      | some ρ1 =>
        have mc := evC_mono ρ1 c
        have me := ev_mono ρ1 elt
        intro h
        grind
    have hl := lc_mono ht
    intro h
    rw [ev_lc] at h ⊢
    grind
theorem evs_mono : ∀ (ρ : PL.Env) (es : REs) (s : W) (r : List D × W), evs Φ G ρ es s = some r → evs Ψ G ρ es s = some r
  | ρ, .nil, s, r => by
    intro h
    simp only [evs] at h ⊢
    exact h
  | ρ, .cons e es, s, r => by
    have m1 := ev_mono ρ e
    have m2 := evs_mono ρ es
    intro h
    grind [evs]
theorem evRs_mono : ∀ (ρ : PL.Env) (es : REs) (s : W) (r : List D × W), evRs Φ G ρ es s = some r → evRs Ψ G ρ es s = some r
  | ρ, .nil, s, r => by
    intro h
    simp only [evRs] at h ⊢
    exact h
  | ρ, .cons e es, s, r => by
    have m1 := rdE_mono (e := e) (ρ := ρ) (ev_mono ρ e)
    have m2 := evRs_mono ρ es
    intro h
    grind [evRs]
theorem evO_mono : ∀ (ρ : PL.Env) (e : RO) (s : W) (r : Option Int × W), evO Φ G ρ e s = some r → evO Ψ G ρ e s = some r
  | ρ, .no, s, r => by
    intro h
    simp only [evO] at h ⊢
    exact h
  | ρ, .yes e, s, r => by
    have m1 := ev_mono ρ e
    intro h
    grind [evO]
theorem evC_mono : ∀ (ρ : PL.Env) (e : RO) (s : W) (r : Bool × W), evC Φ G ρ e s = some r → evC Ψ G ρ e s = some r
  | ρ, .no, s, r => by
    intro h
    simp only [evC] at h ⊢
    exact h
  | ρ, .yes e, s, r => by
    have m1 := ev_mono ρ e
    intro h
    grind [evC]
theorem evI_mono : ∀ (ρ : PL.Env) (e : RI) (s : W) (r : List D × W), evI Φ G ρ e s = some r → evI Ψ G ρ e s = some r
  | ρ, .seq e, s, r => by
    have m1 := ev_mono ρ e
    intro h
    grind [evI]
  | ρ, .keys i, s, r => by
    intro h
    simp only [evI] at h ⊢
    exact h
  | ρ, .rng1 e, s, r => by
    have m1 := ev_mono ρ e
    intro h
    grind [evI]
  | ρ, .rng2 a b, s, r => by
    have m1 := ev_mono ρ a
    have m2 := ev_mono ρ b
    intro h
    grind [evI]
  | ρ, .enm e, s, r => by
    have m1 := ev_mono ρ e
    intro h
    grind [evI]
end
theorem evP_mono (ρ : PL.Env) : ∀ (e : RPs) (s : W) (r : List Cell × W), evP Φ G ρ e s = some r → evP Ψ G ρ e s = some r
  | .nil, s, r => by
    intro h
    simp only [evP] at h ⊢
    exact h
  | .fr e es, s, r => by
    have m1 := ev_mono (G := G) le ρ e
    have m2 := evP_mono ρ es
    intro h
    grind [evP]
  | .nl es, s, r => by
    have m2 := evP_mono ρ es
    intro h
    grind [evP]
  | .nd es, s, r => by
    have m2 := evP_mono ρ es
    intro h
    grind [evP]
omit le in
theorem for_mono {t t' : D → PL.Env → W → Option (Fl × W)} (h : ∀ x ρ s r, t x ρ s = some r → t' x ρ s = some r) : ∀ xs ρ s r, forLoop t xs ρ s = some r → forLoop t' xs ρ s = some r := by
  intro xs
  induction xs with
  | nil => intro ρ s r e; exact e
  | cons x xs ih =>
    intro ρ s r e
    have h1 := h x ρ s
    unfold forLoop at e ⊢
    grind
omit le in
theorem wh_mono {c c' : PL.Env → W → Option (Bool × W)} {t t' : PL.Env → W → Option (Fl × W)} (hc : ∀ ρ s r, c ρ s = some r → c' ρ s = some r) (h : ∀ ρ s r, t ρ s = some r → t' ρ s = some r) :
    ∀ n ρ s r, whLoop c t n ρ s = some r → whLoop c' t' n ρ s = some r := by
  intro n
  induction n with
  | zero => intro ρ s r e; exact e
  | succ n ih =>
    intro ρ s r e
    have h1 := hc ρ s
    unfold whLoop at e ⊢
    grind
set_option maxHeartbeats 8000000 in
mutual
theorem evS_mono : ∀ (c : RS) (ρ : PL.Env) (s : W) (r : Fl × W), evS Φ G g c ρ s = some r → evS Ψ G g c ρ s = some r
  | .asg t e, ρ, s, r => by
    have m1 := ev_mono (G := G) le ρ e
    intro h
    grind [evS]
  | .par is ps, ρ, s, r => by
    have m1 := evP_mono (G := G) le ρ ps
    intro h
    grind [evS]
  | .newl i, ρ, s, r => by
    intro h
    simp only [evS] at h ⊢
    exact h
  | .newd i, ρ, s, r => by
    intro h
    simp only [evS] at h ⊢
    exact h
  | .put i k e, ρ, s, r => by
    have m1 := ev_mono (G := G) le ρ e
    have m2 := ev_mono (G := G) le ρ k
    intro h
    grind [evS]
  | .wput i k e, ρ, s, r => by
    have m1 := ev_mono (G := G) le ρ e
    intro h
    grind [evS]
  | .waug i k e, ρ, s, r => by
    have m1 := ev_mono (G := G) le ρ e
    intro h
    cases s <;> grind [evS]
  | .wnew i ks es, ρ, s, r => by
    have m1 := evs_mono (G := G) le ρ es
    intro h
    cases s <;> grind [evS]
  | .aug i o e, ρ, s, r => by
    have m1 := ev_mono (G := G) le ρ e
    intro h
    grind [evS]
  | .app i e, ρ, s, r => by
    have m1 := ev_mono (G := G) le ρ e
    intro h
    grind [evS]
  | .ext i e, ρ, s, r => by
    have m1 := ev_mono (G := G) le ρ e
    intro h
    grind [evS]
  | .ret e, ρ, s, r => by
    have m1 := ev_mono (G := G) le ρ e
    intro h
    grind [evS]
  | .ite c a b, ρ, s, r => by
    have m1 := ev_mono (G := G) le ρ c
    have m2 := evSs_mono a
    have m3 := evSs_mono b
    intro h
    grind [evS]
  | .for_ t it body, ρ, s, r => by
    have mi := evI_mono (G := G) le ρ it
    have mb : ∀ x ρ s r, forT Φ G g t body x ρ s = some r → forT Ψ G g t body x ρ s = some r := by
      intro x ρ s r
      unfold forT
      have mb := evSs_mono body
      intro h
      grind
    have ml := for_mono mb
    intro h
    rw [evS_for] at h ⊢
    grind
  | .whl c body, ρ, s, r => by
    have mc : ∀ ρ s r, cnd Φ G c ρ s = some r → cnd Ψ G c ρ s = some r := by
      intro ρ s r
      unfold cnd
      have mc := ev_mono (G := G) le ρ c
      intro h
      grind
    have ml := wh_mono mc (fun ρ s r => evSs_mono body ρ s r) g ρ s r
    intro h
    rw [evS_whl] at h ⊢
    exact ml h
  | .frz i, ρ, s, r => by
    intro h
    simp only [evS] at h ⊢
    exact h
theorem evSs_mono : ∀ (c : RSs) (ρ : PL.Env) (s : W) (r : Fl × W), evSs Φ G g c ρ s = some r → evSs Ψ G g c ρ s = some r
  | .nil, ρ, s, r => by
    intro h
    simp only [evSs] at h ⊢
    exact h
  | .cons a b, ρ, s, r => by
    have m1 := evS_mono a
    have m2 := evSs_mono b
    intro h
    grind [evSs]
end
end
theorem interp_step {T : Tab} {G : Str → Option D} {g : Nat} : ∀ n, Fle (interp T G g n) (interp T G g (n + 1))
  | 0 => fun f xs s r h => by unfold interp at h; cases h
  | n + 1 => fun f xs s r h => by
    have ih := interp_step (T := T) (G := G) (g := g) n
    rw [interp] at h ⊢
    cases hT : T f with
    | none => rw [hT] at h; cases h
    | some fd =>
      rw [hT] at h
      have m := evSs_mono (G := G) (g := g) ih fd.body (fd.start xs) s
      grind
theorem interp_mono {T : Tab} {G : Str → Option D} {g : Nat} {n m : Nat} (h : n ≤ m) : Fle (interp T G g n) (interp T G g m) := by
  induction h with
  | refl => exact fun _ _ _ _ h => h
  | step _ ih => exact fun f xs s r h => interp_step _ f xs s r (ih f xs s r h)
/-- a run at one level -/
theorem Run.at {T : Tab} {G : Str → Option D} {g N : Nat} {f : Str} {xs : List D} {s : W} {r : D × W} (h : interp T G g N f xs s = some r) : Run T G g N f xs s r := fun n hn => interp_mono hn f xs s r h
/-- what a def gives, told by one level's functions -/
theorem Run.ex {T : Tab} {G : Str → Option D} {g N : Nat} {f : Str} {fd : FD} {xs : List D} {s : W} {P : D → W → Prop} (hT : T f = some fd) (hl : xs.length = fd.np) (hw : (!fd.usesW || s.isSome) = true)
    (h : ∀ Φ : Fn, Lv T G g N Φ → ∃ x s', evSs Φ G g fd.body (fd.start xs) s = some (.rt x, s') ∧ P x s') : ∃ x s', Run T G g (N + 1) f xs s (x, s') ∧ P x s' := by
  obtain ⟨x, s', e, p⟩ := h (interp T G g N) ⟨N, Nat.le_refl _, rfl⟩
  refine ⟨x, s', Run.at ?_, p⟩
  unfold interp
  rw [hT]
  simp only [hl, hw, decide_true, Bool.and_self, if_true]
  rw [e]
end PL

namespace Hd
open PySem PySem.Spec PyProof.Rows L2
def top (i : Nat) : Stmt := PySem.Challenge.pw_storewrought_k09_how_many_rows.main.body.getD i (.Pass ⟨0, 0, 0, 0⟩)
def dd (x : Str) (i : Nat) : He.DefD := ⟨(x, none), x, x, defArgs (top i), defBody (top i), defScope (top i), [], []⟩
def fn : List He.DefD := [dd "divisor" 1, dd "fraction" 2, dd "plus" 3, dd "times" 4, dd "minus" 5, dd "is_less" 6, dd "parts_of" 8, dd "columns_of" 10, dd "counts_of" 13, dd "lesser" 14, dd "upward" 15, dd "comes_from" 16, dd "unlike_in" 17, dd "share_of_same" 18, dd "asked_columns" 19, dd "share" 20, dd "guess_join" 21, dd "guess_group" 22, dd "guess" 23, dd "_law_draws" 25, dd "_law_next" 26, dd "_law_pick" 27, dd "_law_says" 28, dd "_law_same" 29, dd "_law_fraction" 30, dd "_law_add" 31, dd "_law_times" 32, dd "_law_sum" 33, dd "_law_less" 34, dd "_law_is_fraction" 35, dd "_law_shares" 36, dd "_law_minus" 37, dd "_law_over" 38, dd "_law_share" 39, dd "_law_place" 40, dd "_law_bag" 41, dd "_law_bag_less" 42, dd "_law_columns" 43, dd "_law_fold" 44, dd "_law_value" 45, dd "_law_look" 46, dd "_law_truth" 47, dd "_law_with" 48, dd "_law_join" 49, dd "_law_group" 50, dd "_law_ahead" 51, dd "_law_tops" 52, dd "_law_answer" 53, dd "_law_schemas" 54, dd "_law_facts" 55, dd "_law_tables" 56, dd "_law_take" 57, dd "_law_term" 58, dd "_law_term_of" 59, dd "_law_test" 60, dd "_law_test_of" 61, dd "_law_made" 62, dd "_law_sides" 63, dd "_law_alike" 64, dd "_law_ask" 65, dd "_law_same_dict" 66, dd "_law_is_counts" 67, dd "_law_up" 68, dd "_law_unlike" 69, dd "_law_part" 70, dd "_law_guess" 71, dd "law" 72]
def fa : List He.Fa := [.glo "divisor", .glo "fraction", .glo "plus", .glo "times", .glo "minus", .glo "is_less", .glo "parts_of", .glo "columns_of", .glo "counts_of", .glo "lesser", .glo "upward", .glo "comes_from", .glo "unlike_in", .glo "share_of_same", .glo "asked_columns", .glo "share", .glo "guess_join", .glo "guess_group", .glo "guess", .glo "_law_draws", .glo "_law_next", .glo "_law_pick", .glo "_law_says", .glo "_law_same", .glo "_law_fraction", .glo "_law_add", .glo "_law_times", .glo "_law_sum", .glo "_law_less", .glo "_law_is_fraction", .glo "_law_shares", .glo "_law_minus", .glo "_law_over", .glo "_law_share", .glo "_law_place", .glo "_law_bag", .glo "_law_bag_less", .glo "_law_columns", .glo "_law_fold", .glo "_law_value", .glo "_law_look", .glo "_law_truth", .glo "_law_with", .glo "_law_join", .glo "_law_group", .glo "_law_ahead", .glo "_law_tops", .glo "_law_answer", .glo "_law_schemas", .glo "_law_facts", .glo "_law_tables", .glo "_law_take", .glo "_law_term", .glo "_law_term_of", .glo "_law_test", .glo "_law_test_of", .glo "_law_made", .glo "_law_sides", .glo "_law_alike", .glo "_law_ask", .glo "_law_same_dict", .glo "_law_is_counts", .glo "_law_up", .glo "_law_unlike", .glo "_law_part", .glo "_law_guess", .glo "law", .free "abs", .free "all", .free "any", .free "bool", .free "dict", .free "enumerate", .free "int", .free "isinstance", .free "len", .free "list", .free "max", .free "min", .free "ord", .free "range", .free "set", .free "sorted", .free "str", .free "sum", .free "tuple", .free "zip"]
abbrev R : PySem.W.OpenRow := PySem.W.OpenLaw.row PySem.Challenge.rw_storewrought_k09_how_many_rows
def cs : List (Str × PL.D) := [(("WHOLE" : Str), .tuple [.int 1, .int 1])]
abbrev hk : PySem.W.Hook := PL.hookC 4 fa fn cs
def ob (s : PySem.W.SharedT) : PL.AlC := PL.obsC 4 fa fn cs (HandSHeadRun.getT s)
theorem ob_eq (s : PySem.W.SharedT) : ob s = hk.obs s.abs := PL.obsC_eq (HandSHeadRun.getT_eq s)
def nm0 : List Str := ["divisor", "fraction", "plus", "times", "minus", "is_less", "parts_of", "columns_of", "WHOLE", "counts_of", "lesser", "upward", "comes_from", "unlike_in", "share_of_same", "asked_columns", "share", "guess_join", "guess_group", "guess", "_law_draws", "_law_next", "_law_pick", "_law_says", "_law_same", "_law_fraction", "_law_add", "_law_times", "_law_sum", "_law_less"]
def nm1 : List Str := ["_law_is_fraction", "_law_shares", "_law_minus", "_law_over", "_law_share", "_law_place", "_law_bag", "_law_bag_less", "_law_columns", "_law_fold", "_law_value", "_law_look", "_law_truth", "_law_with", "_law_join", "_law_group", "_law_ahead", "_law_tops", "_law_answer", "_law_schemas", "_law_facts", "_law_tables", "_law_take", "_law_term", "_law_term_of", "_law_test", "_law_test_of", "_law_made", "_law_sides", "_law_alike"]
def nm2 : List Str := ["_law_ask", "_law_same_dict", "_law_is_counts", "_law_up", "_law_unlike", "_law_part", "_law_guess"]
def nms : List Str := nm0 ++ nm1 ++ nm2
theorem run (w : World) : HandSHeadRun.RunEq R (PySem.W.view R.prog [72]) hk ob 4000 nms w := by
  intro os
  kernel_rfl
end Hd

namespace Tb
open PySem PL
def b_divisor : RSs := (.cons (.whl (.cmp .ne (.v 1) (.int 0)) (.cons (.par [0, 1] (.fr (.v 1) (.fr (.bin .mod (.v 0) (.v 1)) .nil)))
  .nil))
  (.cons (.ret (.ite (.cmp .ne (.v 0) (.int 0)) (.v 0) (.int 1)))
  .nil))
def f_divisor : FD := ⟨false, 2, 2, b_divisor⟩
def b_fraction : RSs := (.cons (.asg (.nm 2) (.bin .mul (.call "divisor" (.cons (.blt .abs (.cons (.v 0) .nil)) (.cons (.blt .abs (.cons (.v 1) .nil)) .nil))) (.ite (.cmp .gt (.v 1) (.int 0)) (.int 1) (.neg (.int 1)))))
  (.cons (.ret (.tup (.cons (.bin .fdiv (.v 0) (.v 2)) (.cons (.bin .fdiv (.v 1) (.v 2)) .nil))))
  .nil))
def f_fraction : FD := ⟨false, 2, 3, b_fraction⟩
def b_plus : RSs := (.cons (.ret (.call "fraction" (.cons (.bin .add (.bin .mul (.ix (.v 0) (.int 0)) (.ix (.v 1) (.int 1))) (.bin .mul (.ix (.v 1) (.int 0)) (.ix (.v 0) (.int 1)))) (.cons (.bin .mul (.ix (.v 0) (.int 1)) (.ix (.v 1) (.int 1))) .nil))))
  .nil)
def f_plus : FD := ⟨false, 2, 2, b_plus⟩
def b_times : RSs := (.cons (.ret (.call "fraction" (.cons (.bin .mul (.ix (.v 0) (.int 0)) (.ix (.v 1) (.int 0))) (.cons (.bin .mul (.ix (.v 0) (.int 1)) (.ix (.v 1) (.int 1))) .nil))))
  .nil)
def f_times : FD := ⟨false, 2, 2, b_times⟩
def b_minus : RSs := (.cons (.ret (.call "plus" (.cons (.v 0) (.cons (.tup (.cons (.neg (.ix (.v 1) (.int 0))) (.cons (.ix (.v 1) (.int 1)) .nil))) .nil))))
  .nil)
def f_minus : FD := ⟨false, 2, 2, b_minus⟩
def b_is_less : RSs := (.cons (.ret (.cmp .lt (.bin .mul (.ix (.v 0) (.int 0)) (.ix (.v 1) (.int 1))) (.bin .mul (.ix (.v 1) (.int 0)) (.ix (.v 0) (.int 1)))))
  .nil)
def f_is_less : FD := ⟨false, 2, 2, b_is_less⟩
def b_parts_of : RSs := (.cons (.ite (.cmp .isin (.ix (.v 0) (.int 0)) (.tup (.cons (.str "take") (.cons (.str "none") .nil)))) (.cons (.ret (.tup .nil))
  .nil) .nil)
  (.cons (.ret (.ite (.cmp .isin (.ix (.v 0) (.int 0)) (.tup (.cons (.str "both") (.cons (.str "less") (.cons (.str "common") (.cons (.str "join") .nil)))))) (.sl (.v 0) (.yes (.neg (.int 2))) .no) (.sl (.v 0) (.yes (.neg (.int 1))) .no)))
  .nil))
def f_parts_of : FD := ⟨false, 1, 1, b_parts_of⟩
def b_columns_of : RSs := (.cons (.asg (.nm 2) (.ix (.v 0) (.int 0)))
  (.cons (.ite (.cmp .eq (.v 2) (.str "take")) (.cons (.ret (.blt .tuple (.cons (.lc [4, 5] (.bin .add (.bin .add (.ix (.v 0) (.int 2)) (.str ".")) (.v 4)) (.tup [4, 5]) (.seq (.ix (.v 1) (.ix (.v 0) (.int 1)))) .no) .nil)))
  .nil) .nil)
  (.cons (.ite (.cmp .isin (.v 2) (.tup (.cons (.str "none") (.cons (.str "make") .nil)))) (.cons (.ret (.blt .tuple (.cons (.lc [4, 5] (.v 4) (.tup [4, 5]) (.seq (.ix (.v 0) (.int 1))) .no) .nil)))
  .nil) .nil)
  (.cons (.ite (.cmp .eq (.v 2) (.str "group")) (.cons (.ret (.blt .tuple (.cons (.lc [3] (.ix (.v 3) (.int 0)) (.nm 3) (.seq (.bin .add (.ix (.v 0) (.int 1)) (.ix (.v 0) (.int 2)))) .no) .nil)))
  .nil) .nil)
  (.cons (.ite (.and (.cmp .eq (.v 2) (.str "join")) (.cmp .isin (.ix (.v 0) (.int 1)) (.tup (.cons (.str "in") (.cons (.str "left") .nil))))) (.cons (.ret (.bin .add (.call "columns_of" (.cons (.ix (.v 0) (.int 3)) (.cons (.v 1) .nil))) (.call "columns_of" (.cons (.ix (.v 0) (.int 4)) (.cons (.v 1) .nil)))))
  .nil) .nil)
  (.cons (.ret (.call "columns_of" (.cons (.ix (.call "parts_of" (.cons (.v 0) .nil)) (.int 0)) (.cons (.v 1) .nil))))
  .nil))))))
def f_columns_of : FD := ⟨false, 2, 6, b_columns_of⟩
def b_counts_of : RSs := (.cons (.newd 1)
  (.cons (.for_ (.nm 2) (.seq (.blt .sorted (.cons (.v 0) .nil))) (.cons (.asg (.tup [4, 5]) (.ix (.v 0) (.v 2)))
  (.cons (.asg (.nm 3) (.blt .dict (.cons (.lc [6, 7] (.tup (.cons (.v 7) (.cons (.blt .lenset (.cons (.lc [8] (.ix (.v 8) (.v 6)) (.nm 8) (.seq (.v 5)) .no) .nil)) .nil))) (.tup [6, 7]) (.enm (.v 4)) .no) .nil)))
  (.cons (.put 1 (.v 2) (.tup (.cons (.blt .len (.cons (.v 5) .nil)) (.cons (.v 3) .nil))))
  .nil))))
  (.cons (.frz 1)
  (.cons (.ret (.v 1))
  .nil))))
def f_counts_of : FD := ⟨false, 1, 9, b_counts_of⟩
def b_lesser : RSs := (.cons (.ret (.ite (.call "is_less" (.cons (.v 0) (.cons (.v 1) .nil))) (.v 0) (.v 1)))
  .nil)
def f_lesser : FD := ⟨false, 2, 2, b_lesser⟩
def b_upward : RSs := (.cons (.ret (.neg (.bin .fdiv (.neg (.ix (.v 0) (.int 0))) (.ix (.v 0) (.int 1)))))
  .nil)
def f_upward : FD := ⟨false, 1, 1, b_upward⟩
def b_comes_from : RSs := (.cons (.asg (.nm 3) (.ix (.v 1) (.int 0)))
  (.cons (.ite (.cmp .isin (.v 3) (.tup (.cons (.str "where") (.cons (.str "once") (.cons (.str "tops") .nil))))) (.cons (.ret (.call "comes_from" (.cons (.v 0) (.cons (.ix (.v 1) (.neg (.int 1))) (.cons (.v 2) .nil)))))
  .nil) .nil)
  (.cons (.ite (.cmp .isin (.v 3) (.tup (.cons (.str "both") (.cons (.str "less") (.cons (.str "common") .nil))))) (.cons (.ret (.call "comes_from" (.cons (.v 0) (.cons (.ix (.v 1) (.int 1)) (.cons (.v 2) .nil)))))
  .nil) .nil)
  (.cons (.ite (.cmp .ne (.v 3) (.str "join")) (.cons (.ret (.v 1))
  .nil) .nil)
  (.cons (.asg (.nm 4) (.ite (.cmp .isin (.v 0) (.call "columns_of" (.cons (.ix (.v 1) (.int 3)) (.cons (.v 2) .nil)))) (.ix (.v 1) (.int 3)) (.ix (.v 1) (.int 4))))
  (.cons (.ret (.call "comes_from" (.cons (.v 0) (.cons (.v 4) (.cons (.v 2) .nil)))))
  .nil))))))
def f_comes_from : FD := ⟨false, 3, 5, b_comes_from⟩
def b_unlike_in : RSs := (.cons (.asg (.nm 4) (.call "comes_from" (.cons (.v 0) (.cons (.v 1) (.cons (.v 2) .nil)))))
  (.cons (.ite (.cmp .ne (.ix (.v 4) (.int 0)) (.str "take")) (.cons (.ret (.blt .max2 (.cons (.int 1) (.cons (.call "upward" (.cons (.call "guess" (.cons (.v 4) (.cons (.v 2) (.cons (.v 3) .nil)))) .nil)) .nil))))
  .nil) .nil)
  (.cons (.ret (.blt .max2 (.cons (.int 1) (.cons (.ix (.ix (.ix (.v 3) (.ix (.v 4) (.int 1))) (.int 1)) (.ix (.split (.v 0) (.str ".")) (.neg (.int 1)))) .nil))))
  .nil)))
def f_unlike_in : FD := ⟨false, 4, 5, b_unlike_in⟩
def b_share_of_same : RSs := (.cons (.asg (.nm 4) (.call "asked_columns" (.cons (.v 1) (.cons (.v 2) .nil))))
  (.cons (.asg (.nm 5) (.lc [7] (.ix (.v 7) (.int 1)) (.nm 7) (.seq (.sl (.v 0) (.yes (.int 1)) .no)) (.yes (.and (.cmp .eq (.ix (.v 7) (.int 0)) (.str "col")) (.cmp .isin (.ix (.v 7) (.int 1)) (.v 4))))))
  (.cons (.asg (.nm 6) (.lc [7] (.v 7) (.nm 7) (.seq (.sl (.v 0) (.yes (.int 1)) .no)) (.yes (.cmp .isin (.ix (.v 7) (.int 0)) (.tup (.cons (.str "num") (.cons (.str "text") .nil)))))))
  (.cons (.ite (.or (.cmp .ne (.bin .add (.blt .len (.cons (.v 5) .nil)) (.blt .len (.cons (.v 6) .nil))) (.int 2)) (.cmp .eq (.v 5) (.lst .nil))) (.cons (.ret (.tup (.cons (.int 1) (.cons (.int 2) .nil))))
  .nil) .nil)
  (.cons (.ret (.call "fraction" (.cons (.int 1) (.cons (.blt .max1 (.cons (.lc [8] (.call "unlike_in" (.cons (.v 8) (.cons (.v 1) (.cons (.v 2) (.cons (.v 3) .nil))))) (.nm 8) (.seq (.v 5)) .no) .nil)) .nil))))
  .nil)))))
def f_share_of_same : FD := ⟨false, 4, 9, b_share_of_same⟩
def b_asked_columns : RSs := (.cons (.ite (.cmp .eq (.ix (.v 0) (.int 0)) (.str "join")) (.cons (.ret (.bin .add (.call "columns_of" (.cons (.ix (.v 0) (.int 3)) (.cons (.v 1) .nil))) (.call "columns_of" (.cons (.ix (.v 0) (.int 4)) (.cons (.v 1) .nil)))))
  .nil) .nil)
  (.cons (.ret (.call "columns_of" (.cons (.v 0) (.cons (.v 1) .nil))))
  .nil))
def f_asked_columns : FD := ⟨false, 2, 2, b_asked_columns⟩
def b_share : RSs := (.cons (.asg (.nm 4) (.ix (.v 0) (.int 0)))
  (.cons (.ite (.cmp .isin (.v 4) (.tup (.cons (.str "yes") (.cons (.str "no") .nil)))) (.cons (.ret (.ite (.cmp .eq (.v 4) (.str "yes")) (.g "WHOLE") (.tup (.cons (.int 0) (.cons (.int 1) .nil)))))
  .nil) .nil)
  (.cons (.ite (.cmp .eq (.v 4) (.str "same")) (.cons (.ret (.call "share_of_same" (.cons (.v 0) (.cons (.v 1) (.cons (.v 2) (.cons (.v 3) .nil))))))
  .nil) .nil)
  (.cons (.ite (.cmp .eq (.v 4) (.str "not")) (.cons (.ret (.call "minus" (.cons (.g "WHOLE") (.cons (.call "share" (.cons (.ix (.v 0) (.int 1)) (.cons (.v 1) (.cons (.v 2) (.cons (.v 3) .nil))))) .nil))))
  .nil) .nil)
  (.cons (.ite (.cmp .isin (.v 4) (.tup (.cons (.str "and") (.cons (.str "or") .nil)))) (.cons (.asg (.tup [5, 6]) (.lc [7] (.call "share" (.cons (.v 7) (.cons (.v 1) (.cons (.v 2) (.cons (.v 3) .nil))))) (.nm 7) (.seq (.sl (.v 0) (.yes (.int 1)) .no)) .no))
  (.cons (.ret (.ite (.cmp .eq (.v 4) (.str "and")) (.call "times" (.cons (.v 5) (.cons (.v 6) .nil))) (.call "lesser" (.cons (.call "plus" (.cons (.v 5) (.cons (.v 6) .nil))) (.cons (.g "WHOLE") .nil)))))
  .nil)) .nil)
  (.cons (.ret (.get (.dct ["below", "isnull"] (.cons (.tup (.cons (.int 1) (.cons (.int 3) .nil))) (.cons (.tup (.cons (.int 1) (.cons (.int 10) .nil))) .nil))) (.v 4) (.tup (.cons (.int 1) (.cons (.int 2) .nil)))))
  .nil))))))
def f_share : FD := ⟨false, 4, 8, b_share⟩
def b_guess_join : RSs := (.cons (.asg (.tup [5, 6, 7, 8, 9]) (.v 0))
  (.cons (.asg (.nm 3) (.call "guess" (.cons (.v 8) (.cons (.v 1) (.cons (.v 2) .nil)))))
  (.cons (.ite (.cmp .isin (.v 6) (.tup (.cons (.str "semi") (.cons (.str "anti") .nil)))) (.cons (.ret (.call "times" (.cons (.v 3) (.cons (.tup (.cons (.int 1) (.cons (.int 2) .nil))) .nil))))
  .nil) .nil)
  (.cons (.asg (.nm 4) (.call "times" (.cons (.call "times" (.cons (.v 3) (.cons (.call "guess" (.cons (.v 9) (.cons (.v 1) (.cons (.v 2) .nil)))) .nil))) (.cons (.call "share" (.cons (.v 7) (.cons (.v 0) (.cons (.v 1) (.cons (.v 2) .nil))))) .nil))))
  (.cons (.ret (.ite (.and (.cmp .eq (.v 6) (.str "left")) (.call "is_less" (.cons (.v 4) (.cons (.v 3) .nil)))) (.v 3) (.v 4)))
  .nil)))))
def f_guess_join : FD := ⟨false, 3, 10, b_guess_join⟩
def b_guess_group : RSs := (.cons (.asg (.tup [3, 4, 3, 5]) (.v 0))
  (.cons (.ite (.cmp .eq (.v 4) (.tup .nil)) (.cons (.ret (.g "WHOLE"))
  .nil) .nil)
  (.cons (.par [6, 7, 8] (.fr (.call "guess" (.cons (.v 5) (.cons (.v 1) (.cons (.v 2) .nil)))) (.fr (.g "WHOLE") (.fr (.call "columns_of" (.cons (.v 5) (.cons (.v 1) .nil))) .nil))))
  (.cons (.for_ (.tup [3, 9]) (.seq (.v 4)) (.cons (.ite (.and (.cmp .eq (.ix (.v 9) (.int 0)) (.str "col")) (.cmp .isin (.ix (.v 9) (.int 1)) (.v 8))) (.cons (.asg (.nm 7) (.call "times" (.cons (.v 7) (.cons (.tup (.cons (.call "unlike_in" (.cons (.ix (.v 9) (.int 1)) (.cons (.v 5) (.cons (.v 1) (.cons (.v 2) .nil))))) (.cons (.int 1) .nil))) .nil))))
  .nil) (.cons (.asg (.nm 7) (.call "times" (.cons (.v 7) (.cons (.v 6) .nil))))
  .nil))
  .nil))
  (.cons (.ret (.call "lesser" (.cons (.v 7) (.cons (.v 6) .nil))))
  .nil)))))
def f_guess_group : FD := ⟨false, 3, 10, b_guess_group⟩
def b_guess : RSs := (.cons (.asg (.nm 3) (.ix (.v 0) (.int 0)))
  (.cons (.ite (.cmp .eq (.v 3) (.str "take")) (.cons (.ret (.tup (.cons (.ix (.ix (.v 2) (.ix (.v 0) (.int 1))) (.int 0)) (.cons (.int 1) .nil))))
  .nil) .nil)
  (.cons (.ite (.cmp .eq (.v 3) (.str "none")) (.cons (.ret (.tup (.cons (.int 0) (.cons (.int 1) .nil))))
  .nil) .nil)
  (.cons (.ite (.cmp .eq (.v 3) (.str "join")) (.cons (.ret (.call "guess_join" (.cons (.v 0) (.cons (.v 1) (.cons (.v 2) .nil)))))
  .nil) .nil)
  (.cons (.ite (.cmp .eq (.v 3) (.str "group")) (.cons (.ret (.call "guess_group" (.cons (.v 0) (.cons (.v 1) (.cons (.v 2) .nil)))))
  .nil) .nil)
  (.cons (.ite (.cmp .isin (.v 3) (.tup (.cons (.str "both") (.cons (.str "common") .nil)))) (.cons (.par [5, 6] (.fr (.call "guess" (.cons (.ix (.v 0) (.int 1)) (.cons (.v 1) (.cons (.v 2) .nil)))) (.fr (.call "guess" (.cons (.ix (.v 0) (.int 2)) (.cons (.v 1) (.cons (.v 2) .nil)))) .nil)))
  (.cons (.ret (.ite (.cmp .eq (.v 3) (.str "both")) (.call "plus" (.cons (.v 5) (.cons (.v 6) .nil))) (.call "lesser" (.cons (.v 5) (.cons (.v 6) .nil)))))
  .nil)) .nil)
  (.cons (.asg (.nm 4) (.call "guess" (.cons (.ite (.cmp .eq (.v 3) (.str "less")) (.ix (.v 0) (.int 1)) (.ix (.v 0) (.neg (.int 1)))) (.cons (.v 1) (.cons (.v 2) .nil)))))
  (.cons (.ite (.cmp .eq (.v 3) (.str "where")) (.cons (.ret (.call "times" (.cons (.v 4) (.cons (.call "share" (.cons (.ix (.v 0) (.int 1)) (.cons (.ix (.v 0) (.int 2)) (.cons (.v 1) (.cons (.v 2) .nil))))) .nil))))
  .nil) .nil)
  (.cons (.ret (.ite (.cmp .eq (.v 3) (.str "tops")) (.call "lesser" (.cons (.tup (.cons (.ix (.v 0) (.int 1)) (.cons (.int 1) .nil))) (.cons (.v 4) .nil))) (.v 4)))
  .nil)))))))))
def f_guess : FD := ⟨false, 3, 7, b_guess⟩
def b__law_draws : RSs := (.cons (.newl 2)
  (.cons (.asg (.nm 3) (.int 7))
  (.cons (.for_ (.nm 4) (.rng1 (.blt .len (.cons (.v 0) .nil))) (.cons (.asg (.nm 5) (.blt .abs (.cons (.blt .int (.cons (.ix (.v 0) (.v 4)) .nil)) .nil)))
  (.cons (.asg (.nm 3) (.bin .mod (.blt .int (.cons (.bin .add (.bin .add (.bin .mul (.v 3) (.int 48271)) (.bin .mod (.v 5) (.int 1000003))) (.v 4)) .nil)) (.int 65537)))
  (.cons (.asg (.nm 6) (.int 0))
  (.cons (.ite (.cmp .ge (.v 5) (.bin .pow (.int 10) (.int 18))) (.cons (.asg (.nm 6) (.v 5))
  .nil) (.cons (.app 2 (.bin .mod (.blt .int (.cons (.v 5) .nil)) (.int 997)))
  (.cons (.app 2 (.bin .mod (.bin .mod (.blt .int (.cons (.bin .add (.bin .mul (.v 3) (.int 69621)) (.int 5)) .nil)) (.int 65521)) (.int 997)))
  .nil)))
  (.cons (.for_ (.nm 7) (.rng1 (.int 60)) (.cons (.ite (.cmp .gt (.v 6) (.int 0)) (.cons (.app 2 (.bin .mod (.blt .int (.cons (.v 6) .nil)) (.int 997)))
  (.cons (.asg (.nm 6) (.bin .fdiv (.v 6) (.int 997)))
  .nil)) .nil)
  .nil))
  .nil))))))
  (.cons (.for_ (.nm 4) (.rng1 (.v 1)) (.cons (.asg (.nm 3) (.bin .mod (.blt .int (.cons (.bin .add (.bin .add (.bin .mul (.v 3) (.int 16807)) (.v 4)) (.int 1)) .nil)) (.int 65537)))
  (.cons (.app 2 (.bin .mod (.blt .int (.cons (.v 3) .nil)) (.int 997)))
  .nil)))
  (.cons (.ret (.sl (.v 2) .no (.yes (.v 1))))
  .nil)))))
def f__law_draws : FD := ⟨false, 2, 8, b__law_draws⟩
def b__law_next : RSs := (.cons (.waug 0 "at" (.int 1))
  (.cons (.ite (.cmp .gt (.wix 0 "at") (.blt .len (.cons (.wix 0 "draws") .nil))) (.cons (.ret (.int 0))
  .nil) .nil)
  (.cons (.ret (.bin .mod (.blt .int (.cons (.ix (.wix 0 "draws") (.bin .sub (.wix 0 "at") (.int 1))) .nil)) (.v 1)))
  .nil)))
def f__law_next : FD := ⟨true, 1, 2, b__law_next⟩
def b__law_pick : RSs := (.cons (.ret (.ix (.v 1) (.wcall "_law_next" 0 (.cons (.blt .len (.cons (.v 1) .nil)) .nil))))
  .nil)
def f__law_pick : FD := ⟨true, 1, 2, b__law_pick⟩
def b__law_same : RSs := (.cons (.ite (.blt (.isi .tuple) (.cons (.v 1) .nil)) (.cons (.ite (.or (.not (.blt (.isi .tuple) (.cons (.v 0) .nil))) (.cmp .ne (.blt .len (.cons (.v 0) .nil)) (.blt .len (.cons (.v 1) .nil)))) (.cons (.ret (.bl false))
  .nil) .nil)
  (.cons (.ret (.cmp .eq (.lc [2] (.v 2) (.nm 2) (.rng1 (.blt .len (.cons (.v 1) .nil))) (.yes (.not (.call "_law_same" (.cons (.ix (.v 0) (.v 2)) (.cons (.ix (.v 1) (.v 2)) .nil)))))) (.lst .nil)))
  .nil)) .nil)
  (.cons (.ite (.cmp .is_ (.v 1) .non) (.cons (.ret (.cmp .is_ (.v 0) .non))
  .nil) .nil)
  (.cons (.ite (.blt (.isi .str) (.cons (.v 1) .nil)) (.cons (.ret (.and (.blt (.isi .str) (.cons (.v 0) .nil)) (.cmp .eq (.v 0) (.v 1))))
  .nil) .nil)
  (.cons (.ret (.and (.blt (.isi .int) (.cons (.v 0) .nil)) (.and (.cmp .eq (.blt (.isi .bool) (.cons (.v 0) .nil)) (.blt (.isi .bool) (.cons (.v 1) .nil))) (.cmp .eq (.v 0) (.v 1)))))
  .nil))))
def f__law_same : FD := ⟨false, 2, 3, b__law_same⟩
def b__law_fraction : RSs := (.cons (.par [2, 3] (.fr (.blt .abs (.cons (.v 0) .nil)) (.fr (.blt .abs (.cons (.v 1) .nil)) .nil)))
  (.cons (.whl (.cmp .ne (.v 3) (.int 0)) (.cons (.par [2, 3] (.fr (.v 3) (.fr (.bin .mod (.v 2) (.v 3)) .nil)))
  .nil))
  (.cons (.ret (.ite (.cmp .gt (.v 1) (.int 0)) (.tup (.cons (.bin .fdiv (.v 0) (.v 2)) (.cons (.bin .fdiv (.v 1) (.v 2)) .nil))) (.tup (.cons (.bin .sub (.int 0) (.bin .fdiv (.v 0) (.v 2))) (.cons (.bin .sub (.int 0) (.bin .fdiv (.v 1) (.v 2))) .nil)))))
  .nil)))
def f__law_fraction : FD := ⟨false, 2, 4, b__law_fraction⟩
def b__law_add : RSs := (.cons (.ret (.call "_law_fraction" (.cons (.bin .add (.bin .mul (.ix (.v 0) (.int 0)) (.ix (.v 1) (.int 1))) (.bin .mul (.ix (.v 1) (.int 0)) (.ix (.v 0) (.int 1)))) (.cons (.bin .mul (.ix (.v 0) (.int 1)) (.ix (.v 1) (.int 1))) .nil))))
  .nil)
def f__law_add : FD := ⟨false, 2, 2, b__law_add⟩
def b__law_times : RSs := (.cons (.ret (.call "_law_fraction" (.cons (.bin .mul (.ix (.v 0) (.int 0)) (.ix (.v 1) (.int 0))) (.cons (.bin .mul (.ix (.v 0) (.int 1)) (.ix (.v 1) (.int 1))) .nil))))
  .nil)
def f__law_times : FD := ⟨false, 2, 2, b__law_times⟩
def b__law_less : RSs := (.cons (.ret (.cmp .lt (.bin .mul (.ix (.v 0) (.int 0)) (.ix (.v 1) (.int 1))) (.bin .mul (.ix (.v 1) (.int 0)) (.ix (.v 0) (.int 1)))))
  .nil)
def f__law_less : FD := ⟨false, 2, 2, b__law_less⟩
def b__law_minus : RSs := (.cons (.ret (.call "_law_add" (.cons (.v 0) (.cons (.tup (.cons (.bin .sub (.int 0) (.ix (.v 1) (.int 0))) (.cons (.ix (.v 1) (.int 1)) .nil))) .nil))))
  .nil)
def f__law_minus : FD := ⟨false, 2, 2, b__law_minus⟩
def b__law_place : RSs := (.cons (.ret (.ite (.cmp .is_ (.v 0) .non) (.tup (.cons (.int 0) (.cons (.int 0) (.cons (.str "") .nil)))) (.ite (.blt (.isi .str) (.cons (.v 0) .nil)) (.tup (.cons (.int 2) (.cons (.int 0) (.cons (.v 0) .nil)))) (.tup (.cons (.int 1) (.cons (.v 0) (.cons (.str "") .nil)))))))
  .nil)
def f__law_place : FD := ⟨false, 1, 1, b__law_place⟩
def b__law_bag : RSs := (.cons (.asg (.nm 0) (.blt .list (.cons (.v 0) .nil)))
  (.cons (.asg (.nm 1) (.lc [2] (.tup (.cons (.lc [3] (.call "_law_place" (.cons (.v 3) .nil)) (.nm 3) (.seq (.ix (.v 0) (.v 2))) .no) (.cons (.v 2) .nil))) (.nm 2) (.rng1 (.blt .len (.cons (.v 0) .nil))) .no))
  (.cons (.ret (.blt .tuple (.cons (.lc [4, 2] (.ix (.v 0) (.v 2)) (.tup [4, 2]) (.seq (.blt .sorted (.cons (.v 1) .nil))) .no) .nil)))
  .nil)))
def f__law_bag : FD := ⟨false, 1, 5, b__law_bag⟩
def b__law_columns : RSs := (.cons (.ite (.cmp .eq (.ix (.v 0) (.int 0)) (.str "take")) (.cons (.ret (.lc [2] (.bin .add (.bin .add (.ix (.v 0) (.int 2)) (.str ".")) (.v 2)) (.nm 2) (.seq (.ix (.ix (.v 1) (.ix (.v 0) (.int 1))) (.int 0))) .no))
  .nil) .nil)
  (.cons (.ite (.cmp .isin (.ix (.v 0) (.int 0)) (.tup (.cons (.str "none") (.cons (.str "make") .nil)))) (.cons (.ret (.lc [3] (.ix (.v 3) (.int 0)) (.nm 3) (.seq (.ix (.v 0) (.int 1))) .no))
  .nil) .nil)
  (.cons (.ite (.cmp .eq (.ix (.v 0) (.int 0)) (.str "group")) (.cons (.ret (.lc [3] (.ix (.v 3) (.int 0)) (.nm 3) (.seq (.bin .add (.ix (.v 0) (.int 1)) (.ix (.v 0) (.int 2)))) .no))
  .nil) .nil)
  (.cons (.ite (.cmp .eq (.ix (.v 0) (.int 0)) (.str "join")) (.cons (.ret (.bin .add (.call "_law_columns" (.cons (.ix (.v 0) (.int 3)) (.cons (.v 1) .nil))) (.ite (.cmp .isin (.ix (.v 0) (.int 1)) (.tup (.cons (.str "in") (.cons (.str "left") .nil)))) (.call "_law_columns" (.cons (.ix (.v 0) (.int 4)) (.cons (.v 1) .nil))) (.lst .nil))))
  .nil) .nil)
  (.cons (.ret (.call "_law_columns" (.cons (.ite (.cmp .isin (.ix (.v 0) (.int 0)) (.tup (.cons (.str "both") (.cons (.str "less") (.cons (.str "common") .nil))))) (.ix (.v 0) (.int 1)) (.ix (.v 0) (.bin .sub (.blt .len (.cons (.v 0) .nil)) (.int 1)))) (.cons (.v 1) .nil))))
  .nil)))))
def f__law_columns : FD := ⟨false, 2, 4, b__law_columns⟩
def b__law_schemas : RSs := (.cons (.ret (.dct ["t", "u"] (.cons (.tup (.cons (.tup (.cons (.str "k") (.cons (.str "num") .nil))) (.cons (.tup (.cons (.str "x") (.cons (.str "num") .nil))) (.cons (.tup (.cons (.str "s") (.cons (.str "text") .nil))) .nil)))) (.cons (.tup (.cons (.tup (.cons (.str "k") (.cons (.str "num") .nil))) (.cons (.tup (.cons (.str "t") (.cons (.str "num") .nil))) (.cons (.tup (.cons (.str "y") (.cons (.str "num") .nil))) (.cons (.tup (.cons (.str "z") (.cons (.str "text") .nil))) .nil))))) .nil))))
  .nil)
def f__law_schemas : FD := ⟨false, 0, 0, b__law_schemas⟩
def b__law_tables : RSs := (.cons (.par [2, 3] (.nd (.fr (.call "_law_schemas" .nil) .nil)))
  (.cons (.for_ (.nm 1) (.seq (.blt .sorted (.cons (.v 3) .nil))) (.cons (.newl 4)
  (.cons (.for_ (.nm 5) (.rng1 (.wcall "_law_next" 0 (.cons (.int 5) .nil))) (.cons (.asg (.nm 6) (.ite (.cmp .eq (.v 1) (.str "u")) (.tup (.cons (.v 5) (.cons (.wcall "_law_next" 0 (.cons (.int 3) .nil)) .nil))) (.tup (.cons (.v 5) .nil))))
  (.cons (.for_ (.tup [7, 8]) (.seq (.sl (.ix (.v 3) (.v 1)) (.yes (.blt .len (.cons (.v 6) .nil))) .no)) (.cons (.asg (.nm 6) (.bin .add (.v 6) (.tup (.cons (.wcall "_law_pick" 0 (.cons (.ite (.cmp .eq (.v 8) (.str "num")) (.lst (.cons .non (.cons (.int 0) (.cons (.int 1) (.cons (.int 2) (.cons (.int 5) .nil)))))) (.lst (.cons .non (.cons (.str "a") (.cons (.str "b") (.cons (.str "ab") .nil)))))) .nil)) .nil))))
  .nil))
  (.cons (.app 4 (.v 6))
  .nil))))
  (.cons (.frz 4)
  (.cons (.put 2 (.v 1) (.tup (.cons (.blt .tuple (.cons (.lc [7, 8] (.v 7) (.tup [7, 8]) (.seq (.ix (.v 3) (.v 1))) .no) .nil)) (.cons (.call "_law_bag" (.cons (.v 4) .nil)) .nil))))
  .nil)))))
  (.cons (.frz 2)
  (.cons (.ret (.v 2))
  .nil))))
def f__law_tables : FD := ⟨true, 0, 9, b__law_tables⟩
def b__law_take : RSs := (.cons (.asg (.nm 2) (.lc [6] (.v 6) (.nm 6) (.seq (.lst (.cons (.str "a") (.cons (.str "b") (.cons (.str "c") (.cons (.str "d") (.cons (.str "e") (.cons (.str "f") (.cons (.str "h") (.cons (.str "i") (.cons (.str "j") (.cons (.str "l") .nil)))))))))))) (.yes (.cmp .notin (.v 6) (.v 1)))))
  (.cons (.asg (.nm 3) (.sl (.v 2) .no (.yes (.blt .max2 (.cons (.int 1) (.cons (.bin .sub (.int 4) (.blt .len (.cons (.v 1) .nil))) .nil))))))
  (.cons (.par [4, 5] (.fr (.wcall "_law_pick" 0 (.cons (.lst (.cons (.str "t") (.cons (.str "u") .nil))) .nil)) (.fr (.wcall "_law_pick" 0 (.cons (.v 3) .nil)) .nil)))
  (.cons (.ret (.tup (.cons (.tup (.cons (.str "take") (.cons (.v 4) (.cons (.v 5) .nil)))) (.cons (.lc [6, 7] (.tup (.cons (.bin .add (.bin .add (.v 5) (.str ".")) (.v 6)) (.cons (.v 7) .nil))) (.tup [6, 7]) (.seq (.ix (.call "_law_schemas" .nil) (.v 4))) .no) .nil))))
  .nil))))
def f__law_take : FD := ⟨true, 1, 8, b__law_take⟩
def b__law_term : RSs := (.cons (.wput 0 "nest" (.bin .add (.wget 0 "nest" (.int 0)) (.int 1)))
  (.cons (.asg (.nm 4) (.wcall "_law_term_of" 0 (.cons (.v 1) (.cons (.v 2) (.cons (.v 3) (.cons (.ite (.cmp .lt (.wix 0 "nest") (.int 7)) (.wcall "_law_next" 0 (.cons (.int 9) .nil)) (.wcall "_law_next" 0 (.cons (.int 5) .nil))) .nil))))))
  (.cons (.wput 0 "nest" (.bin .sub (.wix 0 "nest") (.int 1)))
  (.cons (.ret (.v 4))
  .nil))))
def f__law_term : FD := ⟨true, 3, 5, b__law_term⟩
def b__law_term_of : RSs := (.cons (.asg (.nm 5) (.lc [10, 11] (.v 10) (.tup [10, 11]) (.seq (.v 1)) (.yes (.cmp .eq (.v 11) (.v 2)))))
  (.cons (.ite (.and (.cmp .lt (.v 4) (.int 5)) (.cmp .ne (.v 5) (.lst .nil))) (.cons (.ret (.tup (.cons (.str "col") (.cons (.wcall "_law_pick" 0 (.cons (.v 5) .nil)) .nil))))
  .nil) .nil)
  (.cons (.ite (.and (.cmp .eq (.v 2) (.str "num")) (.cmp .isin (.v 4) (.tup (.cons (.int 5) (.cons (.int 6) .nil))))) (.cons (.asg (.nm 6) (.wcall "_law_pick" 0 (.cons (.lst (.cons (.str "add") (.cons (.str "sub") (.cons (.str "mul") (.cons (.str "neg") .nil))))) .nil)))
  (.cons (.ret (.bin .add (.tup (.cons (.v 6) (.cons (.wcall "_law_term" 0 (.cons (.v 1) (.cons (.v 2) (.cons (.int 0) .nil)))) .nil))) (.ite (.cmp .ne (.v 6) (.str "neg")) (.tup (.cons (.wcall "_law_term" 0 (.cons (.v 1) (.cons (.v 2) (.cons (.int 0) .nil)))) .nil)) (.tup .nil))))
  .nil)) .nil)
  (.cons (.ite (.cmp .eq (.v 4) (.int 7)) (.cons (.ret (.tup (.cons (.str "first") (.cons (.wcall "_law_term" 0 (.cons (.v 1) (.cons (.v 2) (.cons (.int 0) .nil)))) (.cons (.wcall "_law_term" 0 (.cons (.v 1) (.cons (.v 2) (.cons (.int 0) .nil)))) .nil)))))
  .nil) .nil)
  (.cons (.ite (.and (.cmp .eq (.v 4) (.int 8)) (.cmp .gt (.v 3) (.int 0))) (.cons (.asg (.tup [7, 9]) (.wcall "_law_take" 0 (.cons (.lst .nil) .nil)))
  (.cons (.asg (.nm 7) (.tup (.cons (.str "where") (.cons (.wcall "_law_test" 0 (.cons (.bin .add (.v 9) (.v 1)) (.cons (.int 0) .nil))) (.cons (.v 7) .nil)))))
  (.cons (.asg (.nm 8) (.wcall "_law_pick" 0 (.cons (.ite (.cmp .eq (.v 2) (.str "num")) (.lst (.cons (.str "count") (.cons (.str "sum") (.cons (.str "least") (.cons (.str "most") .nil))))) (.lst (.cons (.str "least") (.cons (.str "most") .nil)))) .nil)))
  (.cons (.ret (.tup (.cons (.str "fold") (.cons (.v 8) (.cons (.tup (.cons (.str "make") (.cons (.tup (.cons (.tup (.cons (.str "n") (.cons (.wcall "_law_term" 0 (.cons (.bin .add (.v 9) (.v 1)) (.cons (.v 2) (.cons (.int 0) .nil)))) .nil))) .nil)) (.cons (.v 7) .nil)))) .nil)))))
  .nil)))) .nil)
  (.cons (.ite (.cmp .eq (.v 4) (.int 8)) (.cons (.ret (.tup (.cons (.str "pick") (.cons (.wcall "_law_test" 0 (.cons (.v 1) (.cons (.int 0) .nil))) (.cons (.wcall "_law_term" 0 (.cons (.lst .nil) (.cons (.v 2) (.cons (.int 0) .nil)))) (.cons (.wcall "_law_term" 0 (.cons (.v 1) (.cons (.v 2) (.cons (.int 0) .nil)))) .nil))))))
  .nil) .nil)
  (.cons (.ret (.wcall "_law_pick" 0 (.cons (.ite (.cmp .eq (.v 2) (.str "num")) (.lst (.cons (.tup (.cons (.str "num") (.cons (.int 0) .nil))) (.cons (.tup (.cons (.str "num") (.cons (.int 1) .nil))) (.cons (.tup (.cons (.str "num") (.cons (.int 2) .nil))) (.cons (.tup (.cons (.str "num") (.cons (.neg (.int 3)) .nil))) (.cons (.tup (.cons (.str "null") .nil)) .nil)))))) (.lst (.cons (.tup (.cons (.str "text") (.cons (.str "a") .nil))) (.cons (.tup (.cons (.str "text") (.cons (.str "") .nil))) (.cons (.tup (.cons (.str "text") (.cons (.str "ab") .nil))) (.cons (.tup (.cons (.str "null") .nil)) .nil)))))) .nil)))
  .nil)))))))
def f__law_term_of : FD := ⟨true, 4, 12, b__law_term_of⟩
def b__law_test : RSs := (.cons (.wput 0 "nest" (.bin .add (.wget 0 "nest" (.int 0)) (.int 1)))
  (.cons (.asg (.nm 3) (.wcall "_law_test_of" 0 (.cons (.v 1) (.cons (.v 2) (.cons (.ite (.cmp .lt (.wix 0 "nest") (.int 5)) (.wcall "_law_next" 0 (.cons (.int 12) .nil)) (.wcall "_law_next" 0 (.cons (.int 7) .nil))) .nil)))))
  (.cons (.wput 0 "nest" (.bin .sub (.wix 0 "nest") (.int 1)))
  (.cons (.ret (.v 3))
  .nil))))
def f__law_test : FD := ⟨true, 2, 4, b__law_test⟩
def b__law_test_of : RSs := (.cons (.ite (.cmp .lt (.v 3) (.int 6)) (.cons (.asg (.nm 4) (.wcall "_law_pick" 0 (.cons (.lst (.cons (.str "num") (.cons (.str "num") (.cons (.str "text") .nil)))) .nil)))
  (.cons (.ret (.tup (.cons (.wcall "_law_pick" 0 (.cons (.lst (.cons (.str "same") (.cons (.str "same") (.cons (.str "below") .nil)))) .nil)) (.cons (.wcall "_law_term" 0 (.cons (.v 1) (.cons (.v 4) (.cons (.v 2) .nil)))) (.cons (.wcall "_law_term" 0 (.cons (.v 1) (.cons (.v 4) (.cons (.int 0) .nil)))) .nil)))))
  .nil)) .nil)
  (.cons (.ite (.cmp .eq (.v 3) (.int 6)) (.cons (.ret (.tup (.cons (.str "isnull") (.cons (.wcall "_law_term" 0 (.cons (.v 1) (.cons (.wcall "_law_pick" 0 (.cons (.lst (.cons (.str "num") (.cons (.str "text") .nil))) .nil)) (.cons (.int 0) .nil)))) .nil))))
  .nil) .nil)
  (.cons (.ite (.and (.cmp .lt (.v 3) (.int 9)) (.cmp .gt (.v 2) (.int 0))) (.cons (.asg (.tup [5, 6]) (.wcall "_law_take" 0 (.cons (.lst .nil) .nil)))
  (.cons (.asg (.nm 5) (.tup (.cons (.str "where") (.cons (.wcall "_law_test" 0 (.cons (.bin .add (.v 6) (.v 1)) (.cons (.bin .sub (.v 2) (.int 1)) .nil))) (.cons (.v 5) .nil)))))
  (.cons (.ite (.cmp .eq (.v 3) (.int 7)) (.cons (.ret (.tup (.cons (.str "some") (.cons (.wcall "_law_pick" 0 (.cons (.lst (.cons (.v 5) (.cons (.tup (.cons (.str "once") (.cons (.v 5) .nil))) (.cons (.tup (.cons (.str "tops") (.cons (.int 1) (.cons (.tup .nil) (.cons (.v 5) .nil))))) .nil)))) .nil)) .nil))))
  .nil) .nil)
  (.cons (.ret (.tup (.cons (.str "among") (.cons (.wcall "_law_term" 0 (.cons (.v 1) (.cons (.str "num") (.cons (.int 0) .nil)))) (.cons (.tup (.cons (.str "make") (.cons (.tup (.cons (.tup (.cons (.str "m") (.cons (.wcall "_law_term" 0 (.cons (.v 6) (.cons (.str "num") (.cons (.int 0) .nil)))) .nil))) .nil)) (.cons (.v 5) .nil)))) .nil)))))
  .nil)))) .nil)
  (.cons (.ite (.cmp .eq (.v 3) (.int 9)) (.cons (.ret (.tup (.cons (.str "not") (.cons (.wcall "_law_test" 0 (.cons (.v 1) (.cons (.v 2) .nil))) .nil))))
  .nil) .nil)
  (.cons (.ite (.cmp .gt (.v 3) (.int 9)) (.cons (.ret (.tup (.cons (.wcall "_law_pick" 0 (.cons (.lst (.cons (.str "and") (.cons (.str "or") .nil))) .nil)) (.cons (.wcall "_law_test" 0 (.cons (.v 1) (.cons (.v 2) .nil))) (.cons (.wcall "_law_test" 0 (.cons (.v 1) (.cons (.int 0) .nil))) .nil)))))
  .nil) .nil)
  (.cons (.ret (.wcall "_law_pick" 0 (.cons (.lst (.cons (.tup (.cons (.str "yes") .nil)) (.cons (.tup (.cons (.str "no") .nil)) (.cons (.tup (.cons (.str "same") (.cons (.tup (.cons (.str "null") .nil)) (.cons (.tup (.cons (.str "num") (.cons (.int 1) .nil))) .nil)))) .nil)))) .nil)))
  .nil))))))
def f__law_test_of : FD := ⟨true, 3, 7, b__law_test_of⟩
def b__law_made : RSs := (.cons (.asg (.nm 3) (.tup (.cons (.tup (.cons (.str "m") (.cons (.wcall "_law_term" 0 (.cons (.v 2) (.cons (.str "num") (.cons (.int 0) .nil)))) .nil))) (.cons (.tup (.cons (.str "n") (.cons (.wcall "_law_term" 0 (.cons (.v 2) (.cons (.str "text") (.cons (.int 0) .nil)))) .nil))) .nil))))
  (.cons (.ret (.tup (.cons (.tup (.cons (.str "make") (.cons (.v 3) (.cons (.v 1) .nil)))) (.cons (.lst (.cons (.tup (.cons (.str "m") (.cons (.str "num") .nil))) (.cons (.tup (.cons (.str "n") (.cons (.str "text") .nil))) .nil))) .nil))))
  .nil))
def f__law_made : FD := ⟨true, 2, 4, b__law_made⟩
def b__law_sides : RSs := (.cons (.asg (.tup [6, 7]) (.wcall "_law_ask" 0 (.cons (.bin .sub (.v 1) (.int 1)) (.cons (.v 2) .nil))))
  (.cons (.asg (.tup [8, 9]) (.wcall "_law_ask" 0 (.cons (.bin .sub (.v 1) (.int 1)) (.cons (.bin .add (.v 2) (.lc [10, 11] (.ix (.split (.v 10) (.str ".")) (.int 0)) (.tup [10, 11]) (.seq (.v 7)) (.yes (.cmp .isin (.str ".") (.v 10))))) .nil))))
  (.cons (.asg (.nm 3) (.lc [10, 11] (.v 10) (.tup [10, 11]) (.seq (.v 7)) .no))
  (.cons (.ite (.cmp .ne (.lc [10, 11] (.v 10) (.tup [10, 11]) (.seq (.v 9)) (.yes (.cmp .isin (.v 10) (.v 3)))) (.lst .nil)) (.cons (.ret (.tup (.cons (.v 6) (.cons (.v 7) .nil))))
  .nil) .nil)
  (.cons (.asg (.nm 4) (.wcall "_law_pick" 0 (.cons (.lst (.cons (.str "in") (.cons (.str "in") (.cons (.str "left") (.cons (.str "semi") (.cons (.str "anti") .nil)))))) .nil)))
  (.cons (.asg (.nm 5) (.wcall "_law_pick" 0 (.cons (.lst (.cons (.wcall "_law_test" 0 (.cons (.bin .add (.v 7) (.v 9)) (.cons (.int 0) .nil))) (.cons (.wcall "_law_test" 0 (.cons (.bin .add (.v 7) (.v 9)) (.cons (.int 1) .nil))) (.cons (.call "_law_alike" (.cons (.v 7) (.cons (.v 9) .nil))) .nil)))) .nil)))
  (.cons (.ret (.tup (.cons (.tup (.cons (.str "join") (.cons (.v 4) (.cons (.v 5) (.cons (.v 6) (.cons (.v 8) .nil)))))) (.cons (.ite (.cmp .isin (.v 4) (.tup (.cons (.str "in") (.cons (.str "left") .nil)))) (.bin .add (.v 7) (.v 9)) (.v 7)) .nil))))
  .nil)))))))
def f__law_sides : FD := ⟨true, 2, 12, b__law_sides⟩
def b__law_alike : RSs := (.cons (.asg (.nm 2) (.lst .nil))
  (.cons (.for_ (.tup [3, 4]) (.seq (.v 0)) (.cons (.asg (.nm 2) (.bin .add (.v 2) (.lc [5, 6] (.tup (.cons (.v 3) (.cons (.v 5) .nil))) (.tup [5, 6]) (.seq (.v 1)) (.yes (.cmp .eq (.v 4) (.v 6))))))
  .nil))
  (.cons (.ret (.ite (.cmp .ne (.v 2) (.lst .nil)) (.tup (.cons (.str "same") (.cons (.tup (.cons (.str "col") (.cons (.ix (.ix (.v 2) (.int 0)) (.int 0)) .nil))) (.cons (.tup (.cons (.str "col") (.cons (.ix (.ix (.v 2) (.int 0)) (.int 1)) .nil))) .nil)))) (.tup (.cons (.str "yes") .nil))))
  .nil)))
def f__law_alike : FD := ⟨false, 2, 7, b__law_alike⟩
def b__law_ask : RSs := (.cons (.asg (.nm 3) (.ite (.cmp .gt (.v 1) (.int 0)) (.wcall "_law_next" 0 (.cons (.int 11) .nil)) (.int 0)))
  (.cons (.ite (.cmp .eq (.v 3) (.int 0)) (.cons (.ret (.wcall "_law_take" 0 (.cons (.v 2) .nil)))
  .nil) .nil)
  (.cons (.ite (.and (.cmp .lt (.v 3) (.int 4)) (.cmp .gt (.v 3) (.int 1))) (.cons (.ret (.wcall "_law_sides" 0 (.cons (.blt .min2 (.cons (.v 1) (.cons (.int 2) .nil))) (.cons (.v 2) .nil))))
  .nil) .nil)
  (.cons (.asg (.tup [4, 5]) (.wcall "_law_ask" 0 (.cons (.bin .sub (.v 1) (.int 1)) (.cons (.v 2) .nil))))
  (.cons (.ite (.or (.cmp .eq (.v 3) (.int 1)) (.cmp .eq (.v 3) (.int 9))) (.cons (.ret (.tup (.cons (.tup (.cons (.str "where") (.cons (.wcall "_law_test" 0 (.cons (.v 5) (.cons (.int 1) .nil))) (.cons (.v 4) .nil)))) (.cons (.v 5) .nil))))
  .nil) .nil)
  (.cons (.ite (.cmp .eq (.v 3) (.int 4)) (.cons (.ret (.wcall "_law_made" 0 (.cons (.v 4) (.cons (.v 5) .nil))))
  .nil) .nil)
  (.cons (.ite (.cmp .eq (.v 3) (.int 5)) (.cons (.asg (.tup [9, 10]) (.wcall "_law_ask" 0 (.cons (.bin .sub (.v 1) (.int 1)) (.cons (.v 2) .nil))))
  (.cons (.asg (.tup [11, 12]) (.wcall "_law_made" 0 (.cons (.v 4) (.cons (.v 5) .nil))))
  (.cons (.ret (.tup (.cons (.tup (.cons (.wcall "_law_pick" 0 (.cons (.lst (.cons (.str "both") (.cons (.str "less") (.cons (.str "common") .nil)))) .nil)) (.cons (.v 11) (.cons (.ix (.wcall "_law_made" 0 (.cons (.v 9) (.cons (.v 10) .nil))) (.int 0)) .nil)))) (.cons (.v 12) .nil))))
  .nil))) .nil)
  (.cons (.ite (.cmp .eq (.v 3) (.int 6)) (.cons (.ret (.tup (.cons (.tup (.cons (.str "once") (.cons (.v 4) .nil))) (.cons (.v 5) .nil))))
  .nil) .nil)
  (.cons (.ite (.cmp .eq (.v 3) (.int 7)) (.cons (.asg (.nm 6) (.blt .tuple (.cons (.lc [13] (.tup (.cons (.v 13) (.cons (.wcall "_law_term" 0 (.cons (.v 5) (.cons (.str "num") (.cons (.int 0) .nil)))) .nil))) (.nm 13) (.seq (.sl (.lst (.cons (.str "g") (.cons (.str "h") .nil))) .no (.yes (.wcall "_law_next" 0 (.cons (.int 3) .nil))))) .no) .nil)))
  (.cons (.asg (.nm 7) (.tup (.cons (.tup (.cons (.str "c") (.cons (.str "all") (.cons (.tup (.cons (.str "null") .nil)) .nil)))) (.cons (.tup (.cons (.str "d") (.cons (.wcall "_law_pick" 0 (.cons (.lst (.cons (.str "count") (.cons (.str "sum") (.cons (.str "least") (.cons (.str "most") .nil))))) .nil)) (.cons (.wcall "_law_term" 0 (.cons (.v 5) (.cons (.str "num") (.cons (.int 0) .nil)))) .nil)))) .nil))))
  (.cons (.ret (.tup (.cons (.tup (.cons (.str "group") (.cons (.v 6) (.cons (.v 7) (.cons (.v 4) .nil))))) (.cons (.bin .add (.lc [13, 15] (.tup (.cons (.v 13) (.cons (.str "num") .nil))) (.tup [13, 15]) (.seq (.v 6)) .no) (.lst (.cons (.tup (.cons (.str "c") (.cons (.str "num") .nil))) (.cons (.tup (.cons (.str "d") (.cons (.str "num") .nil))) .nil)))) .nil))))
  .nil))) .nil)
  (.cons (.ite (.cmp .eq (.v 3) (.int 8)) (.cons (.asg (.nm 8) (.blt .tuple (.cons (.lc [14] (.tup (.cons (.wcall "_law_term" 0 (.cons (.v 5) (.cons (.wcall "_law_pick" 0 (.cons (.lst (.cons (.str "num") (.cons (.str "text") .nil))) .nil)) (.cons (.int 0) .nil)))) (.cons (.cmp .eq (.wcall "_law_next" 0 (.cons (.int 2) .nil)) (.int 0)) .nil))) (.nm 14) (.rng1 (.wcall "_law_next" 0 (.cons (.int 3) .nil))) .no) .nil)))
  (.cons (.ret (.tup (.cons (.tup (.cons (.str "tops") (.cons (.wcall "_law_next" 0 (.cons (.int 4) .nil)) (.cons (.v 8) (.cons (.v 4) .nil))))) (.cons (.v 5) .nil))))
  .nil)) .nil)
  (.cons (.ret (.tup (.cons (.v 4) (.cons (.v 5) .nil))))
  .nil)))))))))))
def f__law_ask : FD := ⟨true, 2, 16, b__law_ask⟩
def b__law_same_dict : RSs := (.cons (.ite (.or (.not (.blt (.isi .dict) (.cons (.v 0) .nil))) (.or (.cmp .ne (.blt .len (.cons (.v 0) .nil)) (.blt .len (.cons (.v 1) .nil))) (.cmp .ne (.lc [2] (.v 2) (.nm 2) (.keys 1) (.yes (.cmp .notin (.v 2) (.v 0)))) (.lst .nil)))) (.cons (.ret (.bl false))
  .nil) .nil)
  (.cons (.ret (.cmp .eq (.lc [2] (.v 2) (.nm 2) (.keys 1) (.yes (.not (.call "_law_same" (.cons (.ix (.v 0) (.v 2)) (.cons (.ix (.v 1) (.v 2)) .nil)))))) (.lst .nil)))
  .nil))
def f__law_same_dict : FD := ⟨false, 2, 3, b__law_same_dict⟩
def b__law_is_counts : RSs := (.cons (.ite (.or (.not (.blt (.isi .dict) (.cons (.v 0) .nil))) (.cmp .ne (.blt .sorted (.cons (.v 0) .nil)) (.blt .sorted (.cons (.v 1) .nil)))) (.cons (.ret (.bl false))
  .nil) .nil)
  (.cons (.for_ (.nm 2) (.keys 1) (.cons (.ite (.or (.not (.blt (.isi .tuple) (.cons (.ix (.v 0) (.v 2)) .nil))) (.or (.cmp .ne (.blt .len (.cons (.ix (.v 0) (.v 2)) .nil)) (.int 2)) (.or (.not (.call "_law_same" (.cons (.ix (.ix (.v 0) (.v 2)) (.int 0)) (.cons (.ix (.ix (.v 1) (.v 2)) (.int 0)) .nil)))) (.not (.call "_law_same_dict" (.cons (.ix (.ix (.v 0) (.v 2)) (.int 1)) (.cons (.ix (.ix (.v 1) (.v 2)) (.int 1)) .nil))))))) (.cons (.ret (.bl false))
  .nil) .nil)
  .nil))
  (.cons (.ret (.bl true))
  .nil)))
def f__law_is_counts : FD := ⟨false, 2, 3, b__law_is_counts⟩
def b__law_up : RSs := (.cons (.ret (.bin .fdiv (.bin .sub (.bin .add (.ix (.v 0) (.int 0)) (.ix (.v 0) (.int 1))) (.int 1)) (.ix (.v 0) (.int 1))))
  .nil)
def f__law_up : FD := ⟨false, 1, 1, b__law_up⟩
def b__law_unlike : RSs := (.cons (.ite (.cmp .eq (.ix (.v 1) (.int 0)) (.str "join")) (.cons (.ret (.call "_law_unlike" (.cons (.v 0) (.cons (.ite (.cmp .isin (.v 0) (.call "_law_columns" (.cons (.ix (.v 1) (.int 3)) (.cons (.v 2) .nil)))) (.ix (.v 1) (.int 3)) (.ix (.v 1) (.int 4))) (.cons (.v 2) (.cons (.v 3) .nil))))))
  .nil) .nil)
  (.cons (.ite (.cmp .isin (.ix (.v 1) (.int 0)) (.tup (.cons (.str "where") (.cons (.str "once") (.cons (.str "tops") (.cons (.str "both") (.cons (.str "less") (.cons (.str "common") .nil)))))))) (.cons (.ret (.call "_law_unlike" (.cons (.v 0) (.cons (.ite (.cmp .isin (.ix (.v 1) (.int 0)) (.tup (.cons (.str "both") (.cons (.str "less") (.cons (.str "common") .nil))))) (.ix (.v 1) (.int 1)) (.ix (.v 1) (.bin .sub (.blt .len (.cons (.v 1) .nil)) (.int 1)))) (.cons (.v 2) (.cons (.v 3) .nil))))))
  .nil) .nil)
  (.cons (.ite (.cmp .eq (.ix (.v 1) (.int 0)) (.str "take")) (.cons (.ret (.blt .max2 (.cons (.int 1) (.cons (.ix (.ix (.ix (.v 3) (.ix (.v 1) (.int 1))) (.int 1)) (.ix (.split (.v 0) (.str ".")) (.int 1))) .nil))))
  .nil) .nil)
  (.cons (.ret (.blt .max2 (.cons (.int 1) (.cons (.call "_law_up" (.cons (.call "_law_guess" (.cons (.v 1) (.cons (.v 2) (.cons (.v 3) .nil)))) .nil)) .nil))))
  .nil))))
def f__law_unlike : FD := ⟨false, 4, 4, b__law_unlike⟩
def b__law_part : RSs := (.cons (.asg (.nm 4) (.ix (.v 0) (.int 0)))
  (.cons (.ite (.cmp .isin (.v 4) (.tup (.cons (.str "yes") (.cons (.str "no") .nil)))) (.cons (.ret (.tup (.cons (.blt .int (.cons (.cmp .eq (.v 4) (.str "yes")) .nil)) (.cons (.int 1) .nil))))
  .nil) .nil)
  (.cons (.ite (.cmp .eq (.v 4) (.str "not")) (.cons (.ret (.call "_law_minus" (.cons (.tup (.cons (.int 1) (.cons (.int 1) .nil))) (.cons (.call "_law_part" (.cons (.ix (.v 0) (.int 1)) (.cons (.v 1) (.cons (.v 2) (.cons (.v 3) .nil))))) .nil))))
  .nil) .nil)
  (.cons (.ite (.cmp .isin (.v 4) (.tup (.cons (.str "and") (.cons (.str "or") .nil)))) (.cons (.par [9, 10] (.fr (.call "_law_part" (.cons (.ix (.v 0) (.int 1)) (.cons (.v 1) (.cons (.v 2) (.cons (.v 3) .nil))))) (.fr (.call "_law_part" (.cons (.ix (.v 0) (.int 2)) (.cons (.v 1) (.cons (.v 2) (.cons (.v 3) .nil))))) .nil)))
  (.cons (.asg (.nm 8) (.ite (.cmp .eq (.v 4) (.str "and")) (.call "_law_times" (.cons (.v 9) (.cons (.v 10) .nil))) (.call "_law_add" (.cons (.v 9) (.cons (.v 10) .nil)))))
  (.cons (.ret (.ite (.call "_law_less" (.cons (.tup (.cons (.int 1) (.cons (.int 1) .nil))) (.cons (.v 8) .nil))) (.tup (.cons (.int 1) (.cons (.int 1) .nil))) (.v 8)))
  .nil))) .nil)
  (.cons (.ite (.cmp .ne (.v 4) (.str "same")) (.cons (.ret (.ite (.cmp .eq (.v 4) (.str "below")) (.tup (.cons (.int 1) (.cons (.int 3) .nil))) (.ite (.cmp .eq (.v 4) (.str "isnull")) (.tup (.cons (.int 1) (.cons (.int 10) .nil))) (.tup (.cons (.int 1) (.cons (.int 2) .nil))))))
  .nil) .nil)
  (.cons (.asg (.nm 5) (.ite (.cmp .eq (.ix (.v 1) (.int 0)) (.str "join")) (.bin .add (.call "_law_columns" (.cons (.ix (.v 1) (.int 3)) (.cons (.v 2) .nil))) (.call "_law_columns" (.cons (.ix (.v 1) (.int 4)) (.cons (.v 2) .nil)))) (.call "_law_columns" (.cons (.v 1) (.cons (.v 2) .nil)))))
  (.cons (.asg (.nm 6) (.lc [11] (.ix (.v 11) (.int 1)) (.nm 11) (.seq (.sl (.v 0) (.yes (.int 1)) .no)) (.yes (.and (.cmp .eq (.ix (.v 11) (.int 0)) (.str "col")) (.cmp .isin (.ix (.v 11) (.int 1)) (.v 5))))))
  (.cons (.asg (.nm 7) (.lc [11] (.v 11) (.nm 11) (.seq (.sl (.v 0) (.yes (.int 1)) .no)) (.yes (.cmp .isin (.ix (.v 11) (.int 0)) (.tup (.cons (.str "num") (.cons (.str "text") .nil)))))))
  (.cons (.ite (.or (.cmp .eq (.v 6) (.lst .nil)) (.cmp .lt (.bin .add (.blt .len (.cons (.v 6) .nil)) (.blt .len (.cons (.v 7) .nil))) (.int 2))) (.cons (.ret (.tup (.cons (.int 1) (.cons (.int 2) .nil))))
  .nil) .nil)
  (.cons (.ret (.call "_law_fraction" (.cons (.int 1) (.cons (.blt .max1 (.cons (.lc [12] (.call "_law_unlike" (.cons (.v 12) (.cons (.v 1) (.cons (.v 2) (.cons (.v 3) .nil))))) (.nm 12) (.seq (.v 6)) .no) .nil)) .nil))))
  .nil))))))))))
def f__law_part : FD := ⟨false, 4, 13, b__law_part⟩
def b__law_guess : RSs := (.cons (.asg (.nm 3) (.ix (.v 0) (.int 0)))
  (.cons (.ite (.cmp .isin (.v 3) (.tup (.cons (.str "take") (.cons (.str "none") .nil)))) (.cons (.ret (.tup (.cons (.ite (.cmp .eq (.v 3) (.str "take")) (.ix (.ix (.v 2) (.ix (.v 0) (.int 1))) (.int 0)) (.int 0)) (.cons (.int 1) .nil))))
  .nil) .nil)
  (.cons (.ite (.cmp .eq (.v 3) (.str "join")) (.cons (.asg (.nm 6) (.call "_law_guess" (.cons (.ix (.v 0) (.int 3)) (.cons (.v 1) (.cons (.v 2) .nil)))))
  (.cons (.ite (.cmp .isin (.ix (.v 0) (.int 1)) (.tup (.cons (.str "semi") (.cons (.str "anti") .nil)))) (.cons (.ret (.call "_law_times" (.cons (.v 6) (.cons (.tup (.cons (.int 1) (.cons (.int 2) .nil))) .nil))))
  .nil) .nil)
  (.cons (.asg (.nm 5) (.call "_law_times" (.cons (.call "_law_times" (.cons (.v 6) (.cons (.call "_law_guess" (.cons (.ix (.v 0) (.int 4)) (.cons (.v 1) (.cons (.v 2) .nil)))) .nil))) (.cons (.call "_law_part" (.cons (.ix (.v 0) (.int 2)) (.cons (.v 0) (.cons (.v 1) (.cons (.v 2) .nil))))) .nil))))
  (.cons (.ret (.ite (.and (.cmp .eq (.ix (.v 0) (.int 1)) (.str "left")) (.call "_law_less" (.cons (.v 5) (.cons (.v 6) .nil)))) (.v 6) (.v 5)))
  .nil)))) .nil)
  (.cons (.ite (.cmp .isin (.v 3) (.tup (.cons (.str "both") (.cons (.str "common") .nil)))) (.cons (.par [8, 9] (.fr (.call "_law_guess" (.cons (.ix (.v 0) (.int 1)) (.cons (.v 1) (.cons (.v 2) .nil)))) (.fr (.call "_law_guess" (.cons (.ix (.v 0) (.int 2)) (.cons (.v 1) (.cons (.v 2) .nil)))) .nil)))
  (.cons (.ret (.ite (.cmp .eq (.v 3) (.str "both")) (.call "_law_add" (.cons (.v 8) (.cons (.v 9) .nil))) (.ite (.call "_law_less" (.cons (.v 8) (.cons (.v 9) .nil))) (.v 8) (.v 9))))
  .nil)) .nil)
  (.cons (.asg (.nm 4) (.ite (.cmp .eq (.v 3) (.str "less")) (.ix (.v 0) (.int 1)) (.ix (.v 0) (.bin .sub (.blt .len (.cons (.v 0) .nil)) (.int 1)))))
  (.cons (.asg (.nm 5) (.call "_law_guess" (.cons (.v 4) (.cons (.v 1) (.cons (.v 2) .nil)))))
  (.cons (.ite (.cmp .eq (.v 3) (.str "where")) (.cons (.ret (.call "_law_times" (.cons (.v 5) (.cons (.call "_law_part" (.cons (.ix (.v 0) (.int 1)) (.cons (.v 4) (.cons (.v 1) (.cons (.v 2) .nil))))) .nil))))
  .nil) .nil)
  (.cons (.ite (.cmp .eq (.v 3) (.str "tops")) (.cons (.ret (.ite (.call "_law_less" (.cons (.tup (.cons (.ix (.v 0) (.int 1)) (.cons (.int 1) .nil))) (.cons (.v 5) .nil))) (.tup (.cons (.ix (.v 0) (.int 1)) (.cons (.int 1) .nil))) (.v 5)))
  .nil) .nil)
  (.cons (.ite (.cmp .eq (.v 3) (.str "group")) (.cons (.asg (.nm 7) (.tup (.cons (.int 1) (.cons (.int 1) .nil))))
  (.cons (.for_ (.tup [10, 11]) (.seq (.ix (.v 0) (.int 1))) (.cons (.asg (.nm 12) (.and (.cmp .eq (.ix (.v 11) (.int 0)) (.str "col")) (.cmp .isin (.ix (.v 11) (.int 1)) (.call "_law_columns" (.cons (.v 4) (.cons (.v 1) .nil))))))
  (.cons (.asg (.nm 7) (.call "_law_times" (.cons (.v 7) (.cons (.ite (.v 12) (.tup (.cons (.call "_law_unlike" (.cons (.ix (.v 11) (.int 1)) (.cons (.v 4) (.cons (.v 1) (.cons (.v 2) .nil))))) (.cons (.int 1) .nil))) (.v 5)) .nil))))
  .nil)))
  (.cons (.ret (.ite (.or (.cmp .eq (.ix (.v 0) (.int 1)) (.tup .nil)) (.call "_law_less" (.cons (.v 7) (.cons (.v 5) .nil)))) (.v 7) (.v 5)))
  .nil))) .nil)
  (.cons (.ret (.v 5))
  .nil))))))))))
def f__law_guess : FD := ⟨false, 3, 13, b__law_guess⟩
def b_law : RSs := (.cons (.wnew 1 ["draws", "at"] (.cons (.call "_law_draws" (.cons (.v 0) (.cons (.int 900) .nil))) (.cons (.int 0) .nil)))
  (.cons (.asg (.nm 2) (.call "_law_schemas" .nil))
  (.cons (.for_ (.nm 3) (.rng1 (.int 8)) (.cons (.asg (.nm 4) (.wcall "_law_tables" 1 .nil))
  (.cons (.newd 5)
  (.cons (.for_ (.nm 6) (.keys 4) (.cons (.asg (.tup [14, 15]) (.ix (.v 4) (.v 6)))
  (.cons (.put 5 (.v 6) (.tup (.cons (.blt .len (.cons (.v 15) .nil)) (.cons (.blt .dict (.cons (.lc [16] (.tup (.cons (.ix (.v 14) (.v 16)) (.cons (.blt .lenset (.cons (.lc [18] (.ix (.v 18) (.v 16)) (.nm 18) (.seq (.v 15)) .no) .nil)) .nil))) (.nm 16) (.rng1 (.blt .len (.cons (.v 14) .nil))) .no) .nil)) .nil))))
  .nil)))
  (.cons (.asg (.nm 7) (.blt .dict (.cons (.lc [6] (.tup (.cons (.v 6) (.cons (.tup (.cons (.wcall "_law_next" 1 (.cons (.int 50) .nil)) (.cons (.blt .dict (.cons (.lc [17] (.tup (.cons (.v 17) (.cons (.wcall "_law_next" 1 (.cons (.int 9) .nil)) .nil))) (.nm 17) (.seq (.ix (.ix (.v 4) (.v 6)) (.int 0))) .no) .nil)) .nil))) .nil))) (.nm 6) (.keys 4) .no) .nil)))
  (.cons (.frz 5)
  (.cons (.asg (.nm 8) (.wcall "_law_pick" 1 (.cons (.lst (.cons (.v 5) (.cons (.v 7) .nil))) .nil)))
  (.cons (.frz 5)
  (.cons (.ite (.not (.call "_law_is_counts" (.cons (.call "counts_of" (.cons (.blt .dict (.cons (.v 4) .nil)) .nil)) (.cons (.v 5) .nil)))) (.cons (.ret (.bl false))
  .nil) .nil)
  (.cons (.asg (.tup [10, 11]) (.wcall "_law_ask" 1 (.cons (.int 3) (.cons (.lst .nil) .nil))))
  (.cons (.ite (.not (.call "_law_same" (.cons (.call "guess" (.cons (.v 10) (.cons (.blt .dict (.cons (.v 2) .nil)) (.cons (.blt .dict (.cons (.v 8) .nil)) .nil)))) (.cons (.call "_law_guess" (.cons (.v 10) (.cons (.v 4) (.cons (.v 8) .nil)))) .nil)))) (.cons (.ret (.bl false))
  .nil) .nil)
  (.cons (.for_ (.tup [6, 12]) (.seq (.v 11)) (.cons (.ite (.not (.call "_law_same" (.cons (.call "unlike_in" (.cons (.v 6) (.cons (.v 10) (.cons (.blt .dict (.cons (.v 2) .nil)) (.cons (.blt .dict (.cons (.v 8) .nil)) .nil))))) (.cons (.call "_law_unlike" (.cons (.v 6) (.cons (.v 10) (.cons (.v 4) (.cons (.v 8) .nil))))) .nil)))) (.cons (.ret (.bl false))
  .nil) .nil)
  .nil))
  (.cons (.for_ (.nm 9) (.rng1 (.int 4)) (.cons (.asg (.nm 13) (.wcall "_law_test" 1 (.cons (.bin .add (.v 11) (.lst (.cons (.tup (.cons (.str "z.x") (.cons (.str "num") .nil))) .nil))) (.cons (.int 1) .nil))))
  (.cons (.ite (.and (.cmp .ne (.ix (.v 10) (.int 0)) (.str "join")) (.not (.call "_law_same" (.cons (.call "share" (.cons (.v 13) (.cons (.v 10) (.cons (.blt .dict (.cons (.v 2) .nil)) (.cons (.blt .dict (.cons (.v 8) .nil)) .nil))))) (.cons (.call "_law_part" (.cons (.v 13) (.cons (.v 10) (.cons (.v 4) (.cons (.v 8) .nil))))) .nil))))) (.cons (.ret (.bl false))
  .nil) .nil)
  .nil)))
  .nil)))))))))))))
  (.cons (.ret (.bl true))
  .nil))))
def f_law : FD := ⟨false, 1, 19, b_law⟩
def tab : List (Str × FD) := [(("divisor" : Str), f_divisor), (("fraction" : Str), f_fraction), (("plus" : Str), f_plus), (("times" : Str), f_times), (("minus" : Str), f_minus), (("is_less" : Str), f_is_less), (("parts_of" : Str), f_parts_of), (("columns_of" : Str), f_columns_of), (("counts_of" : Str), f_counts_of), (("lesser" : Str), f_lesser), (("upward" : Str), f_upward), (("comes_from" : Str), f_comes_from), (("unlike_in" : Str), f_unlike_in), (("share_of_same" : Str), f_share_of_same), (("asked_columns" : Str), f_asked_columns), (("share" : Str), f_share), (("guess_join" : Str), f_guess_join), (("guess_group" : Str), f_guess_group), (("guess" : Str), f_guess), (("_law_draws" : Str), f__law_draws), (("_law_next" : Str), f__law_next), (("_law_pick" : Str), f__law_pick), (("_law_same" : Str), f__law_same), (("_law_fraction" : Str), f__law_fraction), (("_law_add" : Str), f__law_add), (("_law_times" : Str), f__law_times), (("_law_less" : Str), f__law_less), (("_law_minus" : Str), f__law_minus), (("_law_place" : Str), f__law_place), (("_law_bag" : Str), f__law_bag), (("_law_columns" : Str), f__law_columns), (("_law_schemas" : Str), f__law_schemas), (("_law_tables" : Str), f__law_tables), (("_law_take" : Str), f__law_take), (("_law_term" : Str), f__law_term), (("_law_term_of" : Str), f__law_term_of), (("_law_test" : Str), f__law_test), (("_law_test_of" : Str), f__law_test_of), (("_law_made" : Str), f__law_made), (("_law_sides" : Str), f__law_sides), (("_law_alike" : Str), f__law_alike), (("_law_ask" : Str), f__law_ask), (("_law_same_dict" : Str), f__law_same_dict), (("_law_is_counts" : Str), f__law_is_counts), (("_law_up" : Str), f__law_up), (("_law_unlike" : Str), f__law_unlike), (("_law_part" : Str), f__law_part), (("_law_guess" : Str), f__law_guess), (("law" : Str), f_law)]
def T : Tab := fun f => tab.lookup f
def G : Str → Option D := fun x => Hd.cs.lookup x
def sgl : List (Str × (Bool × Nat)) := [(("divisor" : Str), (false, 2)), (("fraction" : Str), (false, 2)), (("plus" : Str), (false, 2)), (("times" : Str), (false, 2)), (("minus" : Str), (false, 2)), (("is_less" : Str), (false, 2)), (("parts_of" : Str), (false, 1)), (("columns_of" : Str), (false, 2)), (("counts_of" : Str), (false, 1)), (("lesser" : Str), (false, 2)), (("upward" : Str), (false, 1)), (("comes_from" : Str), (false, 3)), (("unlike_in" : Str), (false, 4)), (("share_of_same" : Str), (false, 4)), (("asked_columns" : Str), (false, 2)), (("share" : Str), (false, 4)), (("guess_join" : Str), (false, 3)), (("guess_group" : Str), (false, 3)), (("guess" : Str), (false, 3)), (("_law_draws" : Str), (false, 2)), (("_law_next" : Str), (true, 1)), (("_law_pick" : Str), (true, 1)), (("_law_same" : Str), (false, 2)), (("_law_fraction" : Str), (false, 2)), (("_law_add" : Str), (false, 2)), (("_law_times" : Str), (false, 2)), (("_law_less" : Str), (false, 2)), (("_law_minus" : Str), (false, 2)), (("_law_place" : Str), (false, 1)), (("_law_bag" : Str), (false, 1)), (("_law_columns" : Str), (false, 2)), (("_law_schemas" : Str), (false, 0)), (("_law_tables" : Str), (true, 0)), (("_law_take" : Str), (true, 1)), (("_law_term" : Str), (true, 3)), (("_law_term_of" : Str), (true, 4)), (("_law_test" : Str), (true, 2)), (("_law_test_of" : Str), (true, 3)), (("_law_made" : Str), (true, 2)), (("_law_sides" : Str), (true, 2)), (("_law_alike" : Str), (false, 2)), (("_law_ask" : Str), (true, 2)), (("_law_same_dict" : Str), (false, 2)), (("_law_is_counts" : Str), (false, 2)), (("_law_up" : Str), (false, 1)), (("_law_unlike" : Str), (false, 4)), (("_law_part" : Str), (false, 4)), (("_law_guess" : Str), (false, 3))]
def sg : Str → Option (Bool × Nat) := fun f => sgl.lookup f
end Tb
namespace Te
open PySem PL
def e_divisor : Ent := ⟨"divisor", Hd.top 1, ["a", "b"], ["a", "b"], Tb.f_divisor⟩
theorem c_divisor : e_divisor.chk Tb.sg false = true := by decide +kernel
def e_fraction : Ent := ⟨"fraction", Hd.top 2, ["a", "b", "common"], ["a", "b"], Tb.f_fraction⟩
theorem c_fraction : e_fraction.chk Tb.sg false = true := by decide +kernel
def e_plus : Ent := ⟨"plus", Hd.top 3, ["one", "other"], ["one", "other"], Tb.f_plus⟩
theorem c_plus : e_plus.chk Tb.sg false = true := by decide +kernel
def e_times : Ent := ⟨"times", Hd.top 4, ["one", "other"], ["one", "other"], Tb.f_times⟩
theorem c_times : e_times.chk Tb.sg false = true := by decide +kernel
def e_minus : Ent := ⟨"minus", Hd.top 5, ["one", "other"], ["one", "other"], Tb.f_minus⟩
theorem c_minus : e_minus.chk Tb.sg false = true := by decide +kernel
def e_is_less : Ent := ⟨"is_less", Hd.top 6, ["one", "other"], ["one", "other"], Tb.f_is_less⟩
theorem c_is_less : e_is_less.chk Tb.sg false = true := by decide +kernel
def e_parts_of : Ent := ⟨"parts_of", Hd.top 8, ["question"], ["question"], Tb.f_parts_of⟩
theorem c_parts_of : e_parts_of.chk Tb.sg false = true := by decide +kernel
def e_columns_of : Ent := ⟨"columns_of", Hd.top 10, ["question", "schemas", "tag", "row", "name", "_"], ["question", "schemas"], Tb.f_columns_of⟩
theorem c_columns_of : e_columns_of.chk Tb.sg false = true := by decide +kernel
def e_counts_of : Ent := ⟨"counts_of", Hd.top 13, ["tables", "found", "name", "own", "columns", "rows", "k", "column", "row"], ["tables"], Tb.f_counts_of⟩
theorem c_counts_of : e_counts_of.chk Tb.sg false = true := by decide +kernel
def e_lesser : Ent := ⟨"lesser", Hd.top 14, ["one", "other"], ["one", "other"], Tb.f_lesser⟩
theorem c_lesser : e_lesser.chk Tb.sg false = true := by decide +kernel
def e_upward : Ent := ⟨"upward", Hd.top 15, ["part"], ["part"], Tb.f_upward⟩
theorem c_upward : e_upward.chk Tb.sg false = true := by decide +kernel
def e_comes_from : Ent := ⟨"comes_from", Hd.top 16, ["column", "question", "schemas", "tag", "side"], ["column", "question", "schemas"], Tb.f_comes_from⟩
theorem c_comes_from : e_comes_from.chk Tb.sg false = true := by decide +kernel
def e_unlike_in : Ent := ⟨"unlike_in", Hd.top 17, ["column", "question", "schemas", "counts", "source"], ["column", "question", "schemas", "counts"], Tb.f_unlike_in⟩
theorem c_unlike_in : e_unlike_in.chk Tb.sg false = true := by decide +kernel
def e_share_of_same : Ent := ⟨"share_of_same", Hd.top 18, ["test", "question", "schemas", "counts", "columns", "own", "known", "term", "column"], ["test", "question", "schemas", "counts"], Tb.f_share_of_same⟩
theorem c_share_of_same : e_share_of_same.chk Tb.sg false = true := by decide +kernel
def e_asked_columns : Ent := ⟨"asked_columns", Hd.top 19, ["question", "schemas"], ["question", "schemas"], Tb.f_asked_columns⟩
theorem c_asked_columns : e_asked_columns.chk Tb.sg false = true := by decide +kernel
def e_share : Ent := ⟨"share", Hd.top 20, ["test", "question", "schemas", "counts", "tag", "one", "other", "part"], ["test", "question", "schemas", "counts"], Tb.f_share⟩
theorem c_share : e_share.chk Tb.sg false = true := by decide +kernel
def e_guess_join : Ent := ⟨"guess_join", Hd.top 21, ["question", "schemas", "counts", "one", "whole", "_", "way", "test", "p", "q"], ["question", "schemas", "counts"], Tb.f_guess_join⟩
theorem c_guess_join : e_guess_join.chk Tb.sg false = true := by decide +kernel
def e_guess_group : Ent := ⟨"guess_group", Hd.top 22, ["question", "schemas", "counts", "_", "keys", "inner", "whole", "many", "columns", "term"], ["question", "schemas", "counts"], Tb.f_guess_group⟩
theorem c_guess_group : e_guess_group.chk Tb.sg false = true := by decide +kernel
def e_guess : Ent := ⟨"guess", Hd.top 23, ["question", "schemas", "counts", "tag", "whole", "one", "other"], ["question", "schemas", "counts"], Tb.f_guess⟩
theorem c_guess : e_guess.chk Tb.sg false = true := by decide +kernel
def e__law_draws : Ent := ⟨"_law_draws", Hd.top 25, ["script", "many", "draws", "mixed", "k", "cell", "rest", "turn"], ["script", "many"], Tb.f__law_draws⟩
theorem c__law_draws : e__law_draws.chk Tb.sg false = true := by decide +kernel
def e__law_next : Ent := ⟨"_law_next", Hd.top 26, ["w", "many"], ["w", "many"], Tb.f__law_next⟩
theorem c__law_next : e__law_next.chk Tb.sg false = true := by decide +kernel
def e__law_pick : Ent := ⟨"_law_pick", Hd.top 27, ["w", "rows"], ["w", "rows"], Tb.f__law_pick⟩
theorem c__law_pick : e__law_pick.chk Tb.sg false = true := by decide +kernel
def e__law_same : Ent := ⟨"_law_same", Hd.top 29, ["seen", "due", "k"], ["seen", "due"], Tb.f__law_same⟩
theorem c__law_same : e__law_same.chk Tb.sg false = true := by decide +kernel
def e__law_fraction : Ent := ⟨"_law_fraction", Hd.top 30, ["a", "b", "x", "y"], ["a", "b"], Tb.f__law_fraction⟩
theorem c__law_fraction : e__law_fraction.chk Tb.sg false = true := by decide +kernel
def e__law_add : Ent := ⟨"_law_add", Hd.top 31, ["one", "other"], ["one", "other"], Tb.f__law_add⟩
theorem c__law_add : e__law_add.chk Tb.sg false = true := by decide +kernel
def e__law_times : Ent := ⟨"_law_times", Hd.top 32, ["one", "other"], ["one", "other"], Tb.f__law_times⟩
theorem c__law_times : e__law_times.chk Tb.sg false = true := by decide +kernel
def e__law_less : Ent := ⟨"_law_less", Hd.top 34, ["one", "other"], ["one", "other"], Tb.f__law_less⟩
theorem c__law_less : e__law_less.chk Tb.sg false = true := by decide +kernel
def e__law_minus : Ent := ⟨"_law_minus", Hd.top 37, ["one", "other"], ["one", "other"], Tb.f__law_minus⟩
theorem c__law_minus : e__law_minus.chk Tb.sg false = true := by decide +kernel
def e__law_place : Ent := ⟨"_law_place", Hd.top 40, ["value"], ["value"], Tb.f__law_place⟩
theorem c__law_place : e__law_place.chk Tb.sg false = true := by decide +kernel
def e__law_bag : Ent := ⟨"_law_bag", Hd.top 41, ["rows", "told", "k", "value", "places"], ["rows"], Tb.f__law_bag⟩
theorem c__law_bag : e__law_bag.chk Tb.sg false = true := by decide +kernel
def e__law_columns : Ent := ⟨"_law_columns", Hd.top 43, ["q", "tables", "name", "row"], ["q", "tables"], Tb.f__law_columns⟩
theorem c__law_columns : e__law_columns.chk Tb.sg false = true := by decide +kernel
def e__law_schemas : Ent := ⟨"_law_schemas", Hd.top 54, [], [], Tb.f__law_schemas⟩
theorem c__law_schemas : e__law_schemas.chk Tb.sg false = true := by decide +kernel
def e__law_tables : Ent := ⟨"_law_tables", Hd.top 56, ["w", "name", "found", "schemas", "rows", "k", "row", "column", "kind"], ["w"], Tb.f__law_tables⟩
theorem c__law_tables : e__law_tables.chk Tb.sg false = true := by decide +kernel
def e__law_take : Ent := ⟨"_law_take", Hd.top 57, ["w", "taken", "free", "able", "table", "alias", "name", "kind"], ["w", "taken"], Tb.f__law_take⟩
theorem c__law_take : e__law_take.chk Tb.sg false = true := by decide +kernel
def e__law_term : Ent := ⟨"_law_term", Hd.top 58, ["w", "known", "kind", "deep", "found"], ["w", "known", "kind", "deep"], Tb.f__law_term⟩
theorem c__law_term : e__law_term.chk Tb.sg false = true := by decide +kernel
def e__law_term_of : Ent := ⟨"_law_term_of", Hd.top 59, ["w", "known", "kind", "deep", "way", "able", "tag", "inner", "fold", "columns", "name", "own"], ["w", "known", "kind", "deep", "way"], Tb.f__law_term_of⟩
theorem c__law_term_of : e__law_term_of.chk Tb.sg false = true := by decide +kernel
def e__law_test : Ent := ⟨"_law_test", Hd.top 60, ["w", "known", "deep", "found"], ["w", "known", "deep"], Tb.f__law_test⟩
theorem c__law_test : e__law_test.chk Tb.sg false = true := by decide +kernel
def e__law_test_of : Ent := ⟨"_law_test_of", Hd.top 61, ["w", "known", "deep", "way", "kind", "inner", "columns"], ["w", "known", "deep", "way"], Tb.f__law_test_of⟩
theorem c__law_test_of : e__law_test_of.chk Tb.sg false = true := by decide +kernel
def e__law_made : Ent := ⟨"_law_made", Hd.top 62, ["w", "q", "columns", "rows"], ["w", "q", "columns"], Tb.f__law_made⟩
theorem c__law_made : e__law_made.chk Tb.sg false = true := by decide +kernel
def e__law_sides : Ent := ⟨"_law_sides", Hd.top 63, ["w", "deep", "taken", "names", "way", "test", "p", "columns", "q", "others", "name", "kind"], ["w", "deep", "taken"], Tb.f__law_sides⟩
theorem c__law_sides : e__law_sides.chk Tb.sg false = true := by decide +kernel
def e__law_alike : Ent := ⟨"_law_alike", Hd.top 64, ["columns", "others", "able", "a", "kind", "b", "other"], ["columns", "others"], Tb.f__law_alike⟩
theorem c__law_alike : e__law_alike.chk Tb.sg false = true := by decide +kernel
def e__law_ask : Ent := ⟨"_law_ask", Hd.top 65, ["w", "deep", "taken", "way", "q", "columns", "keys", "folds", "orders", "other", "others", "one", "made", "name", "k", "term"], ["w", "deep", "taken"], Tb.f__law_ask⟩
theorem c__law_ask : e__law_ask.chk Tb.sg false = true := by decide +kernel
def e__law_same_dict : Ent := ⟨"_law_same_dict", Hd.top 66, ["seen", "due", "key"], ["seen", "due"], Tb.f__law_same_dict⟩
theorem c__law_same_dict : e__law_same_dict.chk Tb.sg false = true := by decide +kernel
def e__law_is_counts : Ent := ⟨"_law_is_counts", Hd.top 67, ["seen", "due", "name"], ["seen", "due"], Tb.f__law_is_counts⟩
theorem c__law_is_counts : e__law_is_counts.chk Tb.sg false = true := by decide +kernel
def e__law_up : Ent := ⟨"_law_up", Hd.top 68, ["part"], ["part"], Tb.f__law_up⟩
theorem c__law_up : e__law_up.chk Tb.sg false = true := by decide +kernel
def e__law_unlike : Ent := ⟨"_law_unlike", Hd.top 69, ["name", "q", "tables", "counts"], ["name", "q", "tables", "counts"], Tb.f__law_unlike⟩
theorem c__law_unlike : e__law_unlike.chk Tb.sg false = true := by decide +kernel
def e__law_part : Ent := ⟨"_law_part", Hd.top 70, ["t", "q", "tables", "counts", "tag", "names", "cols", "plain", "whole", "one", "other", "term", "name"], ["t", "q", "tables", "counts"], Tb.f__law_part⟩
theorem c__law_part : e__law_part.chk Tb.sg false = true := by decide +kernel
def e__law_guess : Ent := ⟨"_law_guess", Hd.top 71, ["q", "tables", "counts", "tag", "inner", "whole", "p", "many", "one", "other", "name", "term", "is_col"], ["q", "tables", "counts"], Tb.f__law_guess⟩
theorem c__law_guess : e__law_guess.chk Tb.sg false = true := by decide +kernel
def e_law : Ent := ⟨"law", Hd.top 72, ["script", "w", "schemas", "turn", "tables", "true", "name", "drawn", "counts", "time", "q", "columns", "kind", "test", "names", "rows", "k", "column", "row"], ["script"], Tb.f_law⟩
theorem c_law : e_law.chk Tb.sg true = true := by decide +kernel
def es : List Ent := [e_divisor, e_fraction, e_plus, e_times, e_minus, e_is_less, e_parts_of, e_columns_of, e_counts_of, e_lesser, e_upward, e_comes_from, e_unlike_in, e_share_of_same, e_asked_columns, e_share, e_guess_join, e_guess_group, e_guess, e__law_draws, e__law_next, e__law_pick, e__law_same, e__law_fraction, e__law_add, e__law_times, e__law_less, e__law_minus, e__law_place, e__law_bag, e__law_columns, e__law_schemas, e__law_tables, e__law_take, e__law_term, e__law_term_of, e__law_test, e__law_test_of, e__law_made, e__law_sides, e__law_alike, e__law_ask, e__law_same_dict, e__law_is_counts, e__law_up, e__law_unlike, e__law_part, e__law_guess]
theorem sg_es : ∀ f, Tb.sg f = (es.map fun e => (e.name, (e.fd.usesW, e.fd.np))).lookup f := fun f => by
  have e : Tb.sgl = es.map fun e => (e.name, (e.fd.usesW, e.fd.np)) := by rfl
  unfold Tb.sg
  rw [e]
theorem chks : ∀ e ∈ es, e.chk Tb.sg false = true ∧ Tb.T e.name = some e.fd := all_cons ⟨c_divisor, by kernel_rfl⟩ (all_cons ⟨c_fraction, by kernel_rfl⟩ (all_cons ⟨c_plus, by kernel_rfl⟩ (all_cons ⟨c_times, by kernel_rfl⟩ (all_cons ⟨c_minus, by kernel_rfl⟩ (all_cons ⟨c_is_less, by kernel_rfl⟩ (all_cons ⟨c_parts_of, by kernel_rfl⟩ (all_cons ⟨c_columns_of, by kernel_rfl⟩ (all_cons ⟨c_counts_of, by kernel_rfl⟩ (all_cons ⟨c_lesser, by kernel_rfl⟩ (all_cons ⟨c_upward, by kernel_rfl⟩ (all_cons ⟨c_comes_from, by kernel_rfl⟩ (all_cons ⟨c_unlike_in, by kernel_rfl⟩ (all_cons ⟨c_share_of_same, by kernel_rfl⟩ (all_cons ⟨c_asked_columns, by kernel_rfl⟩ (all_cons ⟨c_share, by kernel_rfl⟩ (all_cons ⟨c_guess_join, by kernel_rfl⟩ (all_cons ⟨c_guess_group, by kernel_rfl⟩ (all_cons ⟨c_guess, by kernel_rfl⟩ (all_cons ⟨c__law_draws, by kernel_rfl⟩ (all_cons ⟨c__law_next, by kernel_rfl⟩ (all_cons ⟨c__law_pick, by kernel_rfl⟩ (all_cons ⟨c__law_same, by kernel_rfl⟩ (all_cons ⟨c__law_fraction, by kernel_rfl⟩ (all_cons ⟨c__law_add, by kernel_rfl⟩ (all_cons ⟨c__law_times, by kernel_rfl⟩ (all_cons ⟨c__law_less, by kernel_rfl⟩ (all_cons ⟨c__law_minus, by kernel_rfl⟩ (all_cons ⟨c__law_place, by kernel_rfl⟩ (all_cons ⟨c__law_bag, by kernel_rfl⟩ (all_cons ⟨c__law_columns, by kernel_rfl⟩ (all_cons ⟨c__law_schemas, by kernel_rfl⟩ (all_cons ⟨c__law_tables, by kernel_rfl⟩ (all_cons ⟨c__law_take, by kernel_rfl⟩ (all_cons ⟨c__law_term, by kernel_rfl⟩ (all_cons ⟨c__law_term_of, by kernel_rfl⟩ (all_cons ⟨c__law_test, by kernel_rfl⟩ (all_cons ⟨c__law_test_of, by kernel_rfl⟩ (all_cons ⟨c__law_made, by kernel_rfl⟩ (all_cons ⟨c__law_sides, by kernel_rfl⟩ (all_cons ⟨c__law_alike, by kernel_rfl⟩ (all_cons ⟨c__law_ask, by kernel_rfl⟩ (all_cons ⟨c__law_same_dict, by kernel_rfl⟩ (all_cons ⟨c__law_is_counts, by kernel_rfl⟩ (all_cons ⟨c__law_up, by kernel_rfl⟩ (all_cons ⟨c__law_unlike, by kernel_rfl⟩ (all_cons ⟨c__law_part, by kernel_rfl⟩ (all_cons ⟨c__law_guess, by kernel_rfl⟩ (all_nil))))))))))))))))))))))))))))))))))))))))))))))))
end Te

set_option Elab.async false
set_option linter.all false
set_option maxRecDepth 100000
set_option maxHeartbeats 1000000
set_option autoImplicit false
/-! K1: the fractions. -/
namespace Pure
open PySem PL
abbrev gf : Nat := 100000
abbrev R (N : Nat) (f : Str) (xs : List D) (s : W) (r : D × W) : Prop := Run Tb.T Tb.G gf N f xs s r
abbrev L (N : Nat) (Φ : Fn) : Prop := Lv Tb.T Tb.G gf N Φ
def pr (x : Int × Int) : D := .tuple [.int x.1, .int x.2]
def nrm (a b : Int) : Int × Int := (a / (Int.gcd a b : Int), b / (Int.gcd a b : Int))
def tms (x y : Int × Int) : Int × Int := nrm (x.1 * y.1) (x.2 * y.2)
def pls (x y : Int × Int) : Int × Int := nrm (x.1 * y.2 + y.1 * x.2) (x.2 * y.2)
def mns (x y : Int × Int) : Int × Int := pls x (-y.1, y.2)
def lss (x y : Int × Int) : Bool := decide (x.1 * y.2 < y.1 * x.2)
def lsr (x y : Int × Int) : Int × Int := if lss x y then x else y

/-! ### the greatest common divisor's loop -/
def gc : PL.Env → W → Option (Bool × W) := fun _ _ => none
theorem gcd_loop {Φ : Fn} {G : Str → Option D} (i j : Nat) (cond : PL.Env → W → Option (Bool × W)) (turn : PL.Env → W → Option (Fl × W)) (mk : Int → Int → PL.Env) (s : W)
    (hc : ∀ a b : Int, cond (mk a b) s = some (!decide (b = 0), s)) (ht : ∀ a b : Int, 0 < b → turn (mk a b) s = some (.nx (mk b (a % b)), s)) :
    ∀ (k : Nat) (a b : Nat), b < 2 ^ k → ∀ fuel, 2 * k + 1 ≤ fuel → whLoop cond turn fuel (mk a b) s = some (.nx (mk (Nat.gcd a b : Nat) 0), s)
  | 0, a, b, hb, fuel, hf => by
    have : b = 0 := by omega
    subst this
    obtain ⟨f, rfl⟩ : ∃ f, fuel = f + 1 := ⟨fuel - 1, by omega⟩
    rw [Nat.gcd_zero_right]
    unfold whLoop
    rw [hc]
    simp
  | k + 1, a, b, hb, fuel, hf => by
    obtain ⟨f, rfl⟩ : ∃ f, fuel = f + 2 := ⟨fuel - 2, by omega⟩
    by_cases h0 : b = 0
    · subst h0
      rw [Nat.gcd_zero_right]
      unfold whLoop
      rw [hc]
      simp
    · have hp : 0 < b := Nat.pos_of_ne_zero h0
      have e1 : Nat.gcd a b = Nat.gcd b (a % b) := by rw [Nat.gcd_comm a b, Nat.gcd_rec, Nat.gcd_comm]
      unfold whLoop
      rw [hc]
      have n0 : ¬ ((b : Nat) : Int) = 0 := by omega
      simp only [n0, decide_false, Bool.not_false]
      rw [ht _ _ (by omega)]
      simp only
      have c1 : ((a : Nat) : Int) % ((b : Nat) : Int) = ((a % b : Nat) : Int) := rfl
      rw [c1, e1]
      by_cases h1 : a % b = 0
      · rw [h1, Nat.gcd_zero_right]
        unfold whLoop
        rw [hc]
        simp
      · have hp1 : 0 < a % b := Nat.pos_of_ne_zero h1
        have hlt : a % b < b := Nat.mod_lt _ hp
        have e2 : Nat.gcd b (a % b) = Nat.gcd (a % b) (b % (a % b)) := by rw [Nat.gcd_comm b, Nat.gcd_rec, Nat.gcd_comm]
        unfold whLoop
        rw [hc]
        have n1 : ¬ ((a % b : Nat) : Int) = 0 := by omega
        simp only [n1, decide_false, Bool.not_false]
        rw [ht _ _ (by omega)]
        simp only
        have c2 : ((b : Nat) : Int) % ((a % b : Nat) : Int) = ((b % (a % b) : Nat) : Int) := rfl
        rw [c2, e2]
        refine gcd_loop (Φ := Φ) (G := G) i j cond turn mk s hc ht k (a % b) (b % (a % b)) ?_ f (by omega)
        have h2 : b % (a % b) < a % b := Nat.mod_lt _ hp1
        have h3 : b % (a % b) + (a % b) * (b / (a % b)) = b := Nat.mod_add_div b (a % b)
        have h4 : 1 ≤ b / (a % b) := Nat.div_pos (Nat.le_of_lt hlt) hp1
        have h5 : a % b ≤ (a % b) * (b / (a % b)) := Nat.le_mul_of_pos_right _ h4
        have : 2 ^ (k + 1) = 2 * 2 ^ k := by rw [Nat.pow_succ]; omega
        omega
theorem T_divisor : Tb.T "divisor" = some Tb.f_divisor := by kernel_rfl
theorem log_lt {b : Nat} {k : Nat} (h : b < 2 ^ k) (hk : 0 < k) : b.log2 < k := by
  by_cases h0 : b = 0
  · subst h0; simpa using hk
  · exact (Nat.log2_lt h0).mpr h
theorem run_divisor (a b : Nat) (hp : 0 < b) (hb : b < 2 ^ 9000) (s : W) : R 1 "divisor" [.int a, .int b] s (.int (Nat.gcd a b : Nat), s) := by
  refine Run.of T_divisor rfl rfl fun Φ e => ?_
  have st : Tb.f_divisor.start [.int a, .int b] = [.fz (.int a), .fz (.int b)] := rfl
  rw [st]
  have hl := gcd_loop (Φ := Φ) (G := Tb.G) 0 1 (cnd Φ Tb.G (.cmp .ne (.v 1) (.int 0))) (fun ρ s => evSs Φ Tb.G gf (.cons (.par [0, 1] (.fr (.v 1) (.fr (.bin .mod (.v 0) (.v 1)) .nil))) .nil) ρ s) (fun x y => [.fz (.int x), .fz (.int y)]) s
      (fun x y => by simp [cnd, ev]) (fun x y hy => by simp [evSs, evS, evP, ev, setCs, hy]) 9000 a b hb gf (by decide)
  unfold Tb.f_divisor Tb.b_divisor
  rw [evSs, evS_whl, hl]
  have b0 : ¬ b = 0 := by omega
  simp [evSs, evS, ev, b0]
/-- a fraction's sides: natural, the lower one above nought, both of at most k bits -/
structure Pb (k : Nat) (x : Int × Int) : Prop where
  n0 : 0 ≤ x.1
  d0 : 0 < x.2
  n1 : x.1 < 2 ^ k
  d1 : x.2 < 2 ^ k
theorem Pb.mono {j k : Nat} {x : Int × Int} (h : Pb j x) (l : j ≤ k) : Pb k x := by
  have : (2 : Int) ^ j ≤ 2 ^ k := by exact_mod_cast Nat.pow_le_pow_right (by decide) l
  exact ⟨h.n0, h.d0, Int.lt_of_lt_of_le h.n1 this, Int.lt_of_lt_of_le h.d1 this⟩
theorem big_of {i : Int} {k : Nat} (h : i.natAbs < 2 ^ k) (hk : k ≤ 400000) (h0 : 0 < k) : bigOk i = true := by
  unfold bigOk
  exact decide_eq_true (Nat.lt_of_lt_of_le (log_lt h h0) hk)
theorem abs_lt {i : Int} {k : Nat} (h0 : 0 ≤ i) (h : i < 2 ^ k) : i.natAbs < 2 ^ k := by
  have : ((i.natAbs : Nat) : Int) = i := Int.natAbs_of_nonneg h0
  have q : ((i.natAbs : Nat) : Int) < ((2 ^ k : Nat) : Int) := by rw [this]; exact_mod_cast h
  exact_mod_cast q
theorem T_fraction : Tb.T "fraction" = some Tb.f_fraction := by kernel_rfl
theorem gcd_pos {a b : Int} (h : 0 < b) : 0 < (Int.gcd a b : Int) := by
  have : 0 < Int.gcd a b := by
    unfold Int.gcd
    exact Nat.gcd_pos_of_pos_right _ (by omega)
  exact_mod_cast this
theorem gcd_le {a b : Int} (h : 0 < b) : Int.gcd a b ≤ b.natAbs := by
  unfold Int.gcd
  exact Nat.le_of_dvd (by omega) (Nat.gcd_dvd_right _ _)
theorem run_fraction (a b : Int) (hp : 0 < b) (hb : b < 2 ^ 9000) (s : W) : R 2 "fraction" [.int a, .int b] s (pr (nrm a b), s) := by
  refine Run.of T_fraction rfl rfl fun Φ e => ?_
  have st : Tb.f_fraction.start [.int a, .int b] = [.fz (.int a), .fz (.int b), .no] := rfl
  rw [st]
  have bn := abs_lt (Int.le_of_lt hp) hb
  have d := (run_divisor a.natAbs b.natAbs (by omega) bn s).use e (Nat.le_refl _)
  have ea : (if a < 0 then -a else a) = ((a.natAbs : Nat) : Int) := by split <;> omega
  have eb : (if b < 0 then -b else b) = ((b.natAbs : Nat) : Int) := by split <;> omega
  have g0 : 0 < ((Nat.gcd a.natAbs b.natAbs : Nat) : Int) := gcd_pos (a := a) hp
  have gl : Nat.gcd a.natAbs b.natAbs < 2 ^ 9000 := Nat.lt_of_le_of_lt (gcd_le (a := a) hp) bn
  have g1 : bigOk ((Nat.gcd a.natAbs b.natAbs : Nat) : Int) = true := big_of (k := 9000) (by simpa using gl) (by decide) (by decide)
  have g2 : bigOk 1 = true := by decide
  have g3 : (Nat.gcd a.natAbs b.natAbs).log2 < 9000 := log_lt gl (by decide)
  have g4 : bigOk (Int.gcd a b : Int) = true := g1
  have g5 : (Int.gcd a b).log2 < 9000 := g3
  have g6 : 0 < (Int.gcd a b : Int) := g0
  have d' : Φ (Str.ofString "divisor") [PyData.int ((a.natAbs : Nat) : Int), PyData.int ((b.natAbs : Nat) : Int)] s = some (.int (Int.gcd a b : Int), s) := d
  unfold Tb.f_fraction Tb.b_fraction
  simp only [evSs, evS, ev, evs, evRs, rdE_v, rdE_blt, rdE_call, rdE_ite, rdE_int, List.getElem?_cons_zero, List.getElem?_cons_succ, fzC_fz, rdC_fz, bltD, ea, eb, d', cmp_gt_ii, hp, decide_true, binD_mul, g4, g2, Bool.and_self, if_true, bindT, List.set, Int.mul_one, binD_fdiv, Int.natAbs_natCast, g5, g6]
  rfl
end Pure

set_option Elab.async false
set_option linter.all false
set_option maxRecDepth 100000
set_option maxHeartbeats 1000000
set_option autoImplicit false
set_option exponentiation.threshold 20000
/-! K2: sums and products of fractions, the program's and the law's. -/
namespace Pure
open PySem PL
structure Pw (x : Int × Int) : Prop where
  d0 : 0 < x.2
  d1 : x.2.natAbs < 2 ^ 4400
  n1 : x.1.natAbs < 2 ^ 4400
theorem Pb.w {k : Nat} {x : Int × Int} (h : Pb k x) (l : k ≤ 4400) : Pw x :=
  have m := h.mono l
  ⟨m.d0, abs_lt (Int.le_of_lt m.d0) m.d1, abs_lt m.n0 m.n1⟩
theorem Pw.neg {x : Int × Int} (h : Pw x) : Pw (-x.1, x.2) := ⟨h.d0, h.d1, by simpa using h.n1⟩
theorem Pw.b1 {x : Int × Int} (h : Pw x) : bigOk x.1 = true := big_of h.n1 (by decide) (by decide)
theorem Pw.b2 {x : Int × Int} (h : Pw x) : bigOk x.2 = true := big_of h.d1 (by decide) (by decide)
theorem Pw.dd {x y : Int × Int} (h : Pw x) (k : Pw y) : 0 < x.2 * y.2 ∧ x.2 * y.2 < 2 ^ 9000 := by
  refine ⟨Int.mul_pos h.d0 k.d0, ?_⟩
  have e : x.2 * y.2 = ((x.2.natAbs * y.2.natAbs : Nat) : Int) := by
    rw [Int.natCast_mul, Int.natAbs_of_nonneg (Int.le_of_lt h.d0), Int.natAbs_of_nonneg (Int.le_of_lt k.d0)]
  have q : x.2.natAbs * y.2.natAbs < 2 ^ 4400 * 2 ^ 4400 := Nat.mul_lt_mul'' h.d1 k.d1
  have q2 : 2 ^ 4400 * 2 ^ 4400 = 2 ^ 8800 := (Nat.pow_add 2 4400 4400).symm
  have q3 : 2 ^ 8800 ≤ 2 ^ 9000 := Nat.pow_le_pow_right (by decide) (by decide)
  rw [e]
  exact_mod_cast Nat.lt_of_lt_of_le (q2 ▸ q) q3
theorem T_plus : Tb.T "plus" = some Tb.f_plus := by kernel_rfl
theorem T_times : Tb.T "times" = some Tb.f_times := by kernel_rfl
theorem T_minus : Tb.T "minus" = some Tb.f_minus := by kernel_rfl
theorem T_is_less : Tb.T "is_less" = some Tb.f_is_less := by kernel_rfl
theorem T_lesser : Tb.T "lesser" = some Tb.f_lesser := by kernel_rfl
theorem T_upward : Tb.T "upward" = some Tb.f_upward := by kernel_rfl
section
variable {x y : Int × Int} (hx : Pw x) (hy : Pw y) (s : W)
include hx hy
theorem run_plus : R 3 "plus" [pr x, pr y] s (pr (pls x y), s) := by
  refine Run.of T_plus rfl rfl fun Φ e => ?_
  have st : Tb.f_plus.start [pr x, pr y] = [.fz (pr x), .fz (pr y)] := rfl
  rw [st]
  have h := (run_fraction (x.1 * y.2 + y.1 * x.2) (x.2 * y.2) (hx.dd hy).1 (hx.dd hy).2 s).use e (Nat.le_refl _)
  unfold Tb.f_plus Tb.b_plus
  simp only [pr] at h ⊢
  simp [evSs, evS, ev, evs, hx.b1, hx.b2, hy.b1, hy.b2, h, pls]
theorem run_times : R 3 "times" [pr x, pr y] s (pr (tms x y), s) := by
  refine Run.of T_times rfl rfl fun Φ e => ?_
  have st : Tb.f_times.start [pr x, pr y] = [.fz (pr x), .fz (pr y)] := rfl
  rw [st]
  have h := (run_fraction (x.1 * y.1) (x.2 * y.2) (hx.dd hy).1 (hx.dd hy).2 s).use e (Nat.le_refl _)
  unfold Tb.f_times Tb.b_times
  simp only [pr] at h ⊢
  simp [evSs, evS, ev, evs, hx.b1, hx.b2, hy.b1, hy.b2, h, tms]
theorem run_minus : R 4 "minus" [pr x, pr y] s (pr (mns x y), s) := by
  refine Run.of T_minus rfl rfl fun Φ e => ?_
  have st : Tb.f_minus.start [pr x, pr y] = [.fz (pr x), .fz (pr y)] := rfl
  rw [st]
  have h := (run_plus hx hy.neg s).use e (Nat.le_refl _)
  unfold Tb.f_minus Tb.b_minus
  simp only [pr] at h ⊢
  simp [evSs, evS, ev, evs, h, mns]
theorem run_is_less : R 1 "is_less" [pr x, pr y] s (.bool (lss x y), s) := by
  refine Run.of T_is_less rfl rfl fun Φ e => ?_
  have st : Tb.f_is_less.start [pr x, pr y] = [.fz (pr x), .fz (pr y)] := rfl
  rw [st]
  unfold Tb.f_is_less Tb.b_is_less
  simp only [pr]
  simp [evSs, evS, ev, evs, hx.b1, hx.b2, hy.b1, hy.b2, lss]
theorem run_lesser : R 2 "lesser" [pr x, pr y] s (pr (lsr x y), s) := by
  refine Run.of T_lesser rfl rfl fun Φ e => ?_
  have st : Tb.f_lesser.start [pr x, pr y] = [.fz (pr x), .fz (pr y)] := rfl
  rw [st]
  have h := (run_is_less hx hy s).use e (Nat.le_refl _)
  unfold Tb.f_lesser Tb.b_lesser
  simp only [evSs, evS, ev, evs, List.getElem?_cons_zero, List.getElem?_cons_succ, fzC_fz, h, lsr]
  cases lss x y <;> rfl
end
/-- the least whole number not below -/
def up (x : Int × Int) : Int := (x.1 + x.2 - 1) / x.2
theorem up_eq {x : Int × Int} (h : 0 < x.2) : - (-x.1 / x.2) = up x := by
  unfold up
  have e1 := Int.emod_add_mul_ediv (-x.1) x.2
  have e2 := Int.emod_nonneg (-x.1) (Int.ne_of_gt h)
  have e3 := Int.emod_lt_of_pos (-x.1) h
  have f1 := Int.emod_add_mul_ediv (x.1 + x.2 - 1) x.2
  have f2 := Int.emod_nonneg (x.1 + x.2 - 1) (Int.ne_of_gt h)
  have f3 := Int.emod_lt_of_pos (x.1 + x.2 - 1) h
  generalize -x.1 / x.2 = p at *
  generalize (x.1 + x.2 - 1) / x.2 = q at *
  generalize -x.1 % x.2 = r at *
  generalize (x.1 + x.2 - 1) % x.2 = t at *
  have k : x.2 * (p + q) = (x.2 - 1) - r - t := by rw [Int.mul_add]; omega
  have k1 : p + q < 1 := by
    apply Int.lt_of_not_ge
    intro hge
    have : x.2 * 1 ≤ x.2 * (p + q) := Int.mul_le_mul_of_nonneg_left hge (Int.le_of_lt h)
    omega
  have k2 : -1 < p + q := by
    apply Int.lt_of_not_ge
    intro hge
    have : x.2 * (p + q) ≤ x.2 * (-1) := Int.mul_le_mul_of_nonneg_left hge (Int.le_of_lt h)
    omega
  omega
theorem run_upward {x : Int × Int} (hx : Pw x) (s : W) : R 1 "upward" [pr x] s (.int (up x), s) := by
  refine Run.of T_upward rfl rfl fun Φ e => ?_
  have st : Tb.f_upward.start [pr x] = [.fz (pr x)] := rfl
  rw [st]
  have l : x.2.natAbs.log2 < 9000 := Nat.lt_trans (log_lt hx.d1 (by decide)) (by decide)
  have d := hx.d0
  unfold Tb.f_upward Tb.b_upward
  simp only [pr]
  simp [evSs, evS, ev, evs, d, l, up_eq d]
/-! ### the law's own -/
theorem T_lf : Tb.T "_law_fraction" = some Tb.f__law_fraction := by kernel_rfl
theorem T_la : Tb.T "_law_add" = some Tb.f__law_add := by kernel_rfl
theorem T_lt : Tb.T "_law_times" = some Tb.f__law_times := by kernel_rfl
theorem T_ll : Tb.T "_law_less" = some Tb.f__law_less := by kernel_rfl
theorem T_lm : Tb.T "_law_minus" = some Tb.f__law_minus := by kernel_rfl
theorem T_lu : Tb.T "_law_up" = some Tb.f__law_up := by kernel_rfl
theorem run_lf (a b : Int) (hp : 0 < b) (hb : b < 2 ^ 9000) (s : W) : R 1 "_law_fraction" [.int a, .int b] s (pr (nrm a b), s) := by
  refine Run.of T_lf rfl rfl fun Φ e => ?_
  have st : Tb.f__law_fraction.start [.int a, .int b] = [.fz (.int a), .fz (.int b), .no, .no] := rfl
  rw [st]
  have bn := abs_lt (Int.le_of_lt hp) hb
  have ea : (if a < 0 then -a else a) = ((a.natAbs : Nat) : Int) := by split <;> omega
  have eb : (if b < 0 then -b else b) = ((b.natAbs : Nat) : Int) := by split <;> omega
  have g0 : 0 < (Int.gcd a b : Int) := gcd_pos (a := a) hp
  have gl : Int.gcd a b < 2 ^ 9000 := Nat.lt_of_le_of_lt (gcd_le (a := a) hp) bn
  have g3 : (Int.gcd a b).log2 < 9000 := log_lt gl (by decide)
  have hl := gcd_loop (Φ := Φ) (G := Tb.G) 0 1 (cnd Φ Tb.G (.cmp .ne (.v 3) (.int 0))) (fun ρ s => evSs Φ Tb.G gf (.cons (.par [2, 3] (.fr (.v 3) (.fr (.bin .mod (.v 2) (.v 3)) .nil))) .nil) ρ s) (fun x y => [.fz (.int a), .fz (.int b), .fz (.int x), .fz (.int y)]) s
      (fun x y => by simp [cnd, ev]) (fun x y hy => by simp [evSs, evS, evP, ev, setCs, hy]) 9000 a.natAbs b.natAbs bn gf (by decide)
  have hl' : whLoop (cnd Φ Tb.G (.cmp .ne (.v 3) (.int 0))) (fun ρ s => evSs Φ Tb.G gf (.cons (.par [2, 3] (.fr (.v 3) (.fr (.bin .mod (.v 2) (.v 3)) .nil))) .nil) ρ s) gf [.fz (.int a), .fz (.int b), .fz (.int (a.natAbs : Nat)), .fz (.int (b.natAbs : Nat))] s =
    some (.nx [.fz (.int a), .fz (.int b), .fz (.int (Int.gcd a b : Int)), .fz (.int 0)], s) := hl
  unfold Tb.f__law_fraction Tb.b__law_fraction
  rw [evSs]
  have s1 : evS Φ Tb.G gf (.par [2, 3] (.fr (.blt .abs (.cons (.v 0) .nil)) (.fr (.blt .abs (.cons (.v 1) .nil)) .nil))) [.fz (.int a), .fz (.int b), .no, .no] s = some (.nx [.fz (.int a), .fz (.int b), .fz (.int (a.natAbs : Nat)), .fz (.int (b.natAbs : Nat))], s) := by
    simp only [evS, ev, evRs, evP, setCs, rdE_v, List.getElem?_cons_zero, List.getElem?_cons_succ, fzC_fz, rdC_fz, bltD, ea, eb, List.set]
  rw [s1]
  simp only []
  rw [evSs, evS_whl, hl']
  simp only [evSs, evS, ev, evs, rdE_v, rdE_ite, rdE_int, rdE_bin, List.getElem?_cons_zero, List.getElem?_cons_succ, rdC_fz, cmp_gt_ii, hp, decide_true, binD_fdiv, Int.natAbs_natCast, g3, g0, Bool.and_self, if_true]
  rfl
section
variable {x y : Int × Int} (hx : Pw x) (hy : Pw y) (s : W)
include hx hy
theorem run_la : R 2 "_law_add" [pr x, pr y] s (pr (pls x y), s) := by
  refine Run.of T_la rfl rfl fun Φ e => ?_
  have st : Tb.f__law_add.start [pr x, pr y] = [.fz (pr x), .fz (pr y)] := rfl
  rw [st]
  have h := (run_lf (x.1 * y.2 + y.1 * x.2) (x.2 * y.2) (hx.dd hy).1 (hx.dd hy).2 s).use e (Nat.le_refl _)
  unfold Tb.f__law_add Tb.b__law_add
  simp only [pr] at h ⊢
  simp [evSs, evS, ev, evs, hx.b1, hx.b2, hy.b1, hy.b2, h, pls]
theorem run_lt : R 2 "_law_times" [pr x, pr y] s (pr (tms x y), s) := by
  refine Run.of T_lt rfl rfl fun Φ e => ?_
  have st : Tb.f__law_times.start [pr x, pr y] = [.fz (pr x), .fz (pr y)] := rfl
  rw [st]
  have h := (run_lf (x.1 * y.1) (x.2 * y.2) (hx.dd hy).1 (hx.dd hy).2 s).use e (Nat.le_refl _)
  unfold Tb.f__law_times Tb.b__law_times
  simp only [pr] at h ⊢
  simp [evSs, evS, ev, evs, hx.b1, hx.b2, hy.b1, hy.b2, h, tms]
theorem run_lm : R 3 "_law_minus" [pr x, pr y] s (pr (mns x y), s) := by
  refine Run.of T_lm rfl rfl fun Φ e => ?_
  have st : Tb.f__law_minus.start [pr x, pr y] = [.fz (pr x), .fz (pr y)] := rfl
  rw [st]
  have h := (run_la hx hy.neg s).use e (Nat.le_refl _)
  have z : (0 : Int) - y.1 = -y.1 := by omega
  unfold Tb.f__law_minus Tb.b__law_minus
  simp only [pr] at h ⊢
  simp [evSs, evS, ev, evs, h, mns, z]
theorem run_ll : R 1 "_law_less" [pr x, pr y] s (.bool (lss x y), s) := by
  refine Run.of T_ll rfl rfl fun Φ e => ?_
  have st : Tb.f__law_less.start [pr x, pr y] = [.fz (pr x), .fz (pr y)] := rfl
  rw [st]
  unfold Tb.f__law_less Tb.b__law_less
  simp only [pr]
  simp [evSs, evS, ev, evs, hx.b1, hx.b2, hy.b1, hy.b2, lss]
end
theorem run_lu {x : Int × Int} (hx : Pw x) (s : W) : R 1 "_law_up" [pr x] s (.int (up x), s) := by
  refine Run.of T_lu rfl rfl fun Φ e => ?_
  have st : Tb.f__law_up.start [pr x] = [.fz (pr x)] := rfl
  rw [st]
  have l : x.2.natAbs.log2 < 9000 := Nat.lt_trans (log_lt hx.d1 (by decide)) (by decide)
  have d := hx.d0
  unfold Tb.f__law_up Tb.b__law_up
  simp only [pr]
  simp [evSs, evS, ev, evs, d, l, up]
end Pure

set_option Elab.async false
set_option linter.all false
set_option maxRecDepth 100000
set_option maxHeartbeats 4000000
set_option autoImplicit false
set_option exponentiation.threshold 20000
/-! K3: questions, tests; columns. -/
namespace Pure
open PySem PL
inductive Ts where
  | yes | no | same (a b : D) | oth (tag : Str) (rest : List D) | not (t : Ts) | and (a b : Ts) | or (a b : Ts)
def Ts.toD : Ts → D
  | .yes => .tuple [.str "yes"]
  | .no => .tuple [.str "no"]
  | .same a b => .tuple [.str "same", a, b]
  | .oth tag rest => .tuple (.str tag :: rest)
  | .not t => .tuple [.str "not", t.toD]
  | .and a b => .tuple [.str "and", a.toD, b.toD]
  | .or a b => .tuple [.str "or", a.toD, b.toD]
def TmOk (t : D) : Prop := ∃ (tag : Str) (rest : List D), t = .tuple (.str tag :: rest) ∧ (tag = Str.ofString "col" → ∃ n : Str, rest = [.str n])
def Ts.Ok : Ts → Prop
  | .yes => True
  | .no => True
  | .same a b => TmOk a ∧ TmOk b
  | .oth tag _ => tag = Str.ofString "below" ∨ tag = Str.ofString "isnull" ∨ tag = Str.ofString "some" ∨ tag = Str.ofString "among"
  | .not t => t.Ok
  | .and a b => a.Ok ∧ b.Ok
  | .or a b => a.Ok ∧ b.Ok
inductive Qn where
  | take (b : Bool) (al : Str) | wher (t : Ts) (q : Qn) | join (w : Str) (t : Ts) (p q : Qn) | make (rows : List (Str × D)) (q : Qn) | two (tag : Str) (p q : Qn)
  | once (q : Qn) | group (keys : List (Str × D)) (folds : List (Str × List D)) (q : Qn) | tops (n : Int) (o : D) (q : Qn)
def tn (b : Bool) : Str := if b then "t" else "u"
def colsOf (b : Bool) : List Str := if b then ["k", "x", "s"] else ["k", "t", "y", "z"]
def row2 (r : Str × D) : D := .tuple [.str r.1, r.2]
def rowF (r : Str × List D) : D := .tuple (.str r.1 :: r.2)
def Qn.toD : Qn → D
  | .take b al => .tuple [.str "take", .str (tn b), .str al]
  | .wher t q => .tuple [.str "where", t.toD, q.toD]
  | .join w t p q => .tuple [.str "join", .str w, t.toD, p.toD, q.toD]
  | .make rows q => .tuple [.str "make", .tuple (rows.map row2), q.toD]
  | .two tag p q => .tuple [.str tag, p.toD, q.toD]
  | .once q => .tuple [.str "once", q.toD]
  | .group keys folds q => .tuple [.str "group", .tuple (keys.map row2), .tuple (folds.map rowF), q.toD]
  | .tops n o q => .tuple [.str "tops", .int n, o, q.toD]
def both (w : Str) : Bool := decide (w = Str.ofString "in") || decide (w = Str.ofString "left")
def Qn.cols : Qn → List Str
  | .take b al => (colsOf b).map fun c => al ++ Str.ofString "." ++ c
  | .wher _ q => q.cols
  | .join w _ p q => if both w then p.cols ++ q.cols else p.cols
  | .make rows _ => rows.map (·.1)
  | .two _ p _ => p.cols
  | .once q => q.cols
  | .group keys folds _ => keys.map (·.1) ++ folds.map (·.1)
  | .tops _ _ q => q.cols
def als : List Str := ["a", "b", "c", "d", "e", "f", "h", "i", "j", "l"]
def Qn.Ok : Qn → Prop
  | .take _ al => al ∈ als
  | .wher t q => t.Ok ∧ q.Ok
  | .join w t p q => (w = Str.ofString "in" ∨ w = Str.ofString "left" ∨ w = Str.ofString "semi" ∨ w = Str.ofString "anti") ∧ t.Ok ∧ p.Ok ∧ q.Ok ∧ p.cols.length + q.cols.length ≤ 1000
  | .make rows q => (∀ r ∈ rows, PyData.canLay0 (.str r.1) = true) ∧ q.Ok
  | .two tag p q => (tag = Str.ofString "both" ∨ tag = Str.ofString "less" ∨ tag = Str.ofString "common") ∧ p.Ok ∧ q.Ok
  | .once q => q.Ok
  | .group keys folds q => (∀ k ∈ keys, TmOk k.2 ∧ PyData.canLay0 k.2 = true ∧ PyData.canLay0 (.str k.1) = true) ∧ keys.length + folds.length ≤ 1000 ∧ (∀ f ∈ folds, PyData.canLay0 (.str f.1) = true) ∧ q.Ok
  | .tops n _ q => 0 ≤ n ∧ n ≤ 3 ∧ q.Ok
def Qn.dep : Qn → Nat
  | .take _ _ => 0
  | .wher _ q => q.dep + 1
  | .join _ _ p q => max p.dep q.dep + 1
  | .make _ q => q.dep + 1
  | .two _ p q => max p.dep q.dep + 1
  | .once q => q.dep + 1
  | .group _ _ q => q.dep + 1
  | .tops _ _ q => q.dep + 1
def schemasD : D := .dict [(.str "t", .tuple [.tuple [.str "k", .str "num"], .tuple [.str "x", .str "num"], .tuple [.str "s", .str "text"]]), (.str "u", .tuple [.tuple [.str "k", .str "num"], .tuple [.str "t", .str "num"], .tuple [.str "y", .str "num"], .tuple [.str "z", .str "text"]])]
def tableD (rows : Bool → List D) (b : Bool) : D := .tuple [.tuple ((colsOf b).map .str), .tuple (rows b)]
def tablesD (rows : Bool → List D) : D := .dict [(.str "t", tableD rows true), (.str "u", tableD rows false)]
theorem T_parts : Tb.T "parts_of" = some Tb.f_parts_of := by kernel_rfl
theorem T_cols : Tb.T "columns_of" = some Tb.f_columns_of := by kernel_rfl
theorem T_lcols : Tb.T "_law_columns" = some Tb.f__law_columns := by kernel_rfl
theorem log1 (x : D) (a b : D) : slD (.tuple [x, a, b]) (some (-2)) none = some (.tuple [a, b]) := rfl
@[simp] theorem sl5 (x y z a b : D) : slD (.tuple [x, y, z, a, b]) (some (-2)) none = some (.tuple [a, b]) := rfl
@[simp] theorem sl3 (x a b : D) : slD (.tuple [x, a, b]) (some (-2)) none = some (.tuple [a, b]) := rfl
@[simp] theorem sl2 (x a : D) : slD (.tuple [x, a]) (some (-1)) none = some (.tuple [a]) := rfl
@[simp] theorem sl3' (x a b : D) : slD (.tuple [x, a, b]) (some (-1)) none = some (.tuple [b]) := rfl
@[simp] theorem sl4' (x a b c : D) : slD (.tuple [x, a, b, c]) (some (-1)) none = some (.tuple [c]) := rfl
/-- the first of a question's parts -/
def Qn.sub : Qn → Option Qn
  | .take _ _ => none
  | .wher _ q => some q
  | .join _ _ p _ => some p
  | .make _ q => some q
  | .two _ p _ => some p
  | .once q => some q
  | .group _ _ q => some q
  | .tops _ _ q => some q
theorem run_parts {q p : Qn} (ok : q.Ok) (h : q.sub = some p) (s : W) : ∃ r, R 1 "parts_of" [q.toD] s (.tuple (p.toD :: r), s) := by
  have st : ∀ x, Tb.f_parts_of.start [x] = [.fz x] := fun x => rfl
  cases q with
  | take b al => cases h
  | wher t q => cases h; exact ⟨[], Run.of T_parts rfl rfl fun Φ e => by rw [st]; unfold Tb.f_parts_of Tb.b_parts_of; rw [Qn.toD]; simp [inD, flatD]⟩
  | join w t p q => cases h; exact ⟨[q.toD], Run.of T_parts rfl rfl fun Φ e => by rw [st]; unfold Tb.f_parts_of Tb.b_parts_of; rw [Qn.toD]; simp [inD, flatD]⟩
  | make rows q => cases h; exact ⟨[], Run.of T_parts rfl rfl fun Φ e => by rw [st]; unfold Tb.f_parts_of Tb.b_parts_of; rw [Qn.toD]; simp [inD, flatD]⟩
  | two tag p q =>
    cases h
    obtain ⟨ht, _⟩ := ok
    refine ⟨[q.toD], Run.of T_parts rfl rfl fun Φ e => ?_⟩
    rw [st, Qn.toD]
    unfold Tb.f_parts_of Tb.b_parts_of
    rcases ht with rfl | rfl | rfl <;> simp [inD, flatD]
  | once q => cases h; exact ⟨[], Run.of T_parts rfl rfl fun Φ e => by rw [st]; unfold Tb.f_parts_of Tb.b_parts_of; rw [Qn.toD]; simp [inD, flatD]⟩
  | group keys folds q => cases h; exact ⟨[], Run.of T_parts rfl rfl fun Φ e => by rw [st]; unfold Tb.f_parts_of Tb.b_parts_of; rw [Qn.toD]; simp [inD, flatD]⟩
  | tops n o q => cases h; exact ⟨[], Run.of T_parts rfl rfl fun Φ e => by rw [st]; unfold Tb.f_parts_of Tb.b_parts_of; rw [Qn.toD]; simp [inD, flatD]⟩

theorem line_of {n : Nat} (h : n ≤ 4000) : lineOk n = true := by
  unfold lineOk
  rw [sizeLine_eq]
  exact decide_eq_true (by omega)
theorem al_line {al : Str} (h : al ∈ als) : al.length = 1 := by
  have : ∀ a ∈ als, a.length = 1 := by decide +kernel
  exact this al h
theorem sapp_len (a b : Str) : (a ++ b).length = a.length + b.length := by
  show (a.cps ++ b.cps).size = _
  rw [Array.size_append]
  rfl
theorem dot_len : (Str.ofString ".").length = 1 := by decide +kernel
theorem run_cols (q : Qn) : ∀ (s : W), q.Ok → R (q.dep + 2) "columns_of" [q.toD, schemasD] s (.tuple (q.cols.map .str), s) := by
  have st : ∀ x, Tb.f_columns_of.start [x, schemasD] = [.fz x, .fz schemasD, .no, .no, .no, .no] := fun x => rfl
  have rec1 : ∀ (q p : Qn) (s : W) (N : Nat) (Φ : Fn), q.Ok → q.sub = some p → L N Φ → p.dep + 2 ≤ N → R (p.dep + 2) "columns_of" [p.toD, schemasD] s (.tuple (p.cols.map .str), s) →
      ∃ r, Φ (Str.ofString "parts_of") [q.toD] s = some (.tuple (p.toD :: r), s) ∧ Φ (Str.ofString "columns_of") [p.toD, schemasD] s = some (.tuple (p.cols.map .str), s) := fun q p s N Φ ok hs e hn h => by
    obtain ⟨r, hr⟩ := run_parts ok hs s
    exact ⟨r, hr.use e (by omega), h.use e hn⟩
  induction q with
  | take b al =>
    intro s ok
    refine Run.of T_cols rfl rfl fun Φ e => ?_
    rw [st, Qn.toD]
    unfold Tb.f_columns_of Tb.b_columns_of schemasD
    have h1 := al_line ok
    have l1 : lineOk (al.length + (Str.ofString ".").length) = true := line_of (by rw [h1, dot_len]; omega)
    have l2 : ∀ c : Str, c.length = 1 → lineOk ((al ++ Str.ofString ".").length + c.length) = true := fun c hc => line_of (by rw [sapp_len, h1, dot_len, hc]; omega)
    cases b <;> simp [inD, flatD, tn, kOf, seqOf, lcLoop, lcT, wipeE, l1, l2 "k" (by decide +kernel), l2 "x" (by decide +kernel), l2 "s" (by decide +kernel), l2 "t" (by decide +kernel), l2 "y" (by decide +kernel), l2 "z" (by decide +kernel), bltD, Qn.cols, colsOf]
  | wher t q ih =>
    intro s ok
    refine Run.of T_cols rfl rfl fun Φ e => ?_
    obtain ⟨r, h1, h2⟩ := rec1 (.wher t q) q s _ Φ ok rfl e (by simp [Qn.dep] <;> omega) (ih s ok.2)
    rw [st]
    rw [Qn.toD] at h1 ⊢
    unfold Tb.f_columns_of Tb.b_columns_of
    simp [inD, flatD, h1, h2, Qn.cols]
  | join w t p q ihp ihq =>
    intro s ok
    obtain ⟨hw, _, okp, okq, hl⟩ := ok
    refine Run.of T_cols rfl rfl fun Φ e => ?_
    obtain ⟨r, h1, h2⟩ := rec1 (.join w t p q) p s _ Φ ⟨hw, ‹_›, okp, okq, hl⟩ rfl e (by simp [Qn.dep] <;> omega) (ihp s okp)
    have h3 := (ihq s okq).use e (by simp [Qn.dep] <;> omega)
    have l1 : lineOk (p.cols.length + q.cols.length) = true := line_of (by omega)
    rw [st]
    rw [Qn.toD] at h1 ⊢
    unfold Tb.f_columns_of Tb.b_columns_of
    rcases hw with rfl | rfl | rfl | rfl <;> simp [inD, flatD, h1, h2, h3, Qn.cols, both, l1]
  | make rows q ih =>
    intro s ok
    refine Run.of T_cols rfl rfl fun Φ e => ?_
    rw [st, Qn.toD]
    have hl : lcLoop (lcT Φ Tb.G [.fz (.tuple [.str "make", .tuple (rows.map row2), q.toD]), .fz schemasD, .fz (.str "make"), .no, .no, .no] [4, 5] (.v 4) (.tup [4, 5]) .no) (rows.map row2) s = some (rows.map (fun r => .str r.1), s) :=
      lc_eachM fun r _ => by simp [lcT, row2, wipeE]
    unfold Tb.f_columns_of Tb.b_columns_of
    simp [seqOf, inD, flatD, hl, bltD, Qn.cols]
  | two tag p q ihp ihq =>
    intro s ok
    obtain ⟨ht, okp, okq⟩ := ok
    refine Run.of T_cols rfl rfl fun Φ e => ?_
    obtain ⟨r, h1, h2⟩ := rec1 (.two tag p q) p s _ Φ ⟨ht, okp, okq⟩ rfl e (by simp [Qn.dep] <;> omega) (ihp s okp)
    rw [st]
    rw [Qn.toD] at h1 ⊢
    unfold Tb.f_columns_of Tb.b_columns_of
    rcases ht with rfl | rfl | rfl <;> simp [inD, flatD, h1, h2, Qn.cols]
  | once q ih =>
    intro s ok
    refine Run.of T_cols rfl rfl fun Φ e => ?_
    obtain ⟨r, h1, h2⟩ := rec1 (.once q) q s _ Φ ok rfl e (by simp [Qn.dep] <;> omega) (ih s ok)
    rw [st]
    rw [Qn.toD] at h1 ⊢
    unfold Tb.f_columns_of Tb.b_columns_of
    simp [inD, flatD, h1, h2, Qn.cols]
  | group keys folds q ih =>
    intro s ok
    obtain ⟨hk, hl, okq⟩ := ok
    refine Run.of T_cols rfl rfl fun Φ e => ?_
    rw [st, Qn.toD]
    have l1 : lineOk (keys.length + folds.length) = true := line_of (by omega)
    have hlc : lcLoop (lcT Φ Tb.G [.fz (.tuple [.str "group", .tuple (keys.map row2), .tuple (folds.map rowF), q.toD]), .fz schemasD, .fz (.str "group"), .no, .no, .no] [3] (.ix (.v 3) (.int 0)) (.nm 3) .no) (keys.map row2 ++ folds.map rowF) s = some (keys.map (fun r => .str r.1) ++ folds.map (fun r => .str r.1), s) := by
      have e1 : keys.map row2 ++ folds.map rowF = ((keys.map Sum.inl ++ folds.map Sum.inr : List ((Str × D) ⊕ (Str × List D)))).map (fun z => match z with | .inl r => row2 r | .inr r => rowF r) := by simp [Function.comp_def]
      have e2 : keys.map (fun r => PyData.str r.1) ++ folds.map (fun r => PyData.str r.1) = ((keys.map Sum.inl ++ folds.map Sum.inr : List ((Str × D) ⊕ (Str × List D)))).map (fun z => match z with | .inl r => PyData.str r.1 | .inr r => PyData.str r.1) := by simp [Function.comp_def]
      rw [e1, e2]
      refine lc_eachM fun z _ => ?_
      cases z <;> simp [lcT, row2, rowF, wipeE]
    unfold Tb.f_columns_of Tb.b_columns_of
    simp [seqOf, inD, flatD, hlc, l1, bltD, Qn.cols]
    rfl
  | tops n o q ih =>
    intro s ok
    refine Run.of T_cols rfl rfl fun Φ e => ?_
    obtain ⟨r, h1, h2⟩ := rec1 (.tops n o q) q s _ Φ ok rfl e (by simp [Qn.dep] <;> omega) (ih s ok.2.2)
    rw [st]
    rw [Qn.toD] at h1 ⊢
    unfold Tb.f_columns_of Tb.b_columns_of
    simp [inD, flatD, h1, h2, Qn.cols]

@[simp] theorem atN2 (x a : D) : L2.atI [x, a] 1 = some a := rfl
theorem run_lcols (rows : Bool → List D) (q : Qn) : ∀ (s : W), q.Ok → R (q.dep + 1) "_law_columns" [q.toD, tablesD rows] s (.list (q.cols.map .str), s) := by
  have st : ∀ x, Tb.f__law_columns.start [x, tablesD rows] = [.fz x, .fz (tablesD rows), .no, .no] := fun x => rfl
  induction q with
  | take b al =>
    intro s ok
    refine Run.of T_lcols rfl rfl fun Φ e => ?_
    rw [st, Qn.toD]
    unfold Tb.f__law_columns Tb.b__law_columns tablesD tableD
    have h1 := al_line ok
    have l1 : lineOk (al.length + (Str.ofString ".").length) = true := line_of (by rw [h1, dot_len]; omega)
    have l2 : ∀ c : Str, c.length = 1 → lineOk ((al ++ Str.ofString ".").length + c.length) = true := fun c hc => line_of (by rw [sapp_len, h1, dot_len, hc]; omega)
    cases b <;> simp [inD, flatD, tn, kOf, seqOf, lcLoop, lcT, wipeE, l1, l2 "k" (by decide +kernel), l2 "x" (by decide +kernel), l2 "s" (by decide +kernel), l2 "t" (by decide +kernel), l2 "y" (by decide +kernel), l2 "z" (by decide +kernel), bltD, Qn.cols, colsOf]
  | wher t q ih =>
    intro s ok
    refine Run.of T_lcols rfl rfl fun Φ e => ?_
    have h := (ih s ok.2).use e (by simp [Qn.dep])
    rw [st, Qn.toD]
    unfold Tb.f__law_columns Tb.b__law_columns
    simp [inD, flatD, bltD, h, Qn.cols]
  | join w t p q ihp ihq =>
    intro s ok
    obtain ⟨hw, _, okp, okq, hl⟩ := ok
    refine Run.of T_lcols rfl rfl fun Φ e => ?_
    have h1 := (ihp s okp).use e (by simp [Qn.dep]; omega)
    have h2 := (ihq s okq).use e (by simp [Qn.dep]; omega)
    have l1 : lineOk (p.cols.length + q.cols.length) = true := line_of (by omega)
    have l2 : lineOk (p.cols.length) = true := line_of (by omega)
    rw [st, Qn.toD]
    unfold Tb.f__law_columns Tb.b__law_columns
    rcases hw with rfl | rfl | rfl | rfl <;> simp [inD, flatD, bltD, h1, h2, Qn.cols, both, l1, l2]
  | make rows' q ih =>
    intro s ok
    refine Run.of T_lcols rfl rfl fun Φ e => ?_
    rw [st, Qn.toD]
    have hl : lcLoop (lcT Φ Tb.G [.fz (.tuple [.str "make", .tuple (rows'.map row2), q.toD]), .fz (tablesD rows), .no, .no] [3] (.ix (.v 3) (.int 0)) (.nm 3) .no) (rows'.map row2) s = some (rows'.map (fun r => .str r.1), s) :=
      lc_eachM fun r _ => by simp [lcT, row2, wipeE]
    unfold Tb.f__law_columns Tb.b__law_columns
    simp [seqOf, inD, flatD, hl, bltD, Qn.cols]
  | two tag p q ihp ihq =>
    intro s ok
    obtain ⟨ht, okp, okq⟩ := ok
    refine Run.of T_lcols rfl rfl fun Φ e => ?_
    have h1 := (ihp s okp).use e (by simp [Qn.dep]; omega)
    rw [st, Qn.toD]
    unfold Tb.f__law_columns Tb.b__law_columns
    rcases ht with rfl | rfl | rfl <;> simp [inD, flatD, bltD, h1, Qn.cols]
  | once q ih =>
    intro s ok
    refine Run.of T_lcols rfl rfl fun Φ e => ?_
    have h := (ih s ok).use e (by simp [Qn.dep])
    rw [st, Qn.toD]
    unfold Tb.f__law_columns Tb.b__law_columns
    simp [inD, flatD, bltD, h, Qn.cols]
  | group keys folds q ih =>
    intro s ok
    obtain ⟨hk, hl, okq⟩ := ok
    refine Run.of T_lcols rfl rfl fun Φ e => ?_
    rw [st, Qn.toD]
    have l1 : lineOk (keys.length + folds.length) = true := line_of (by omega)
    have hlc : lcLoop (lcT Φ Tb.G [.fz (.tuple [.str "group", .tuple (keys.map row2), .tuple (folds.map rowF), q.toD]), .fz (tablesD rows), .no, .no] [3] (.ix (.v 3) (.int 0)) (.nm 3) .no) (keys.map row2 ++ folds.map rowF) s = some (keys.map (fun r => .str r.1) ++ folds.map (fun r => .str r.1), s) := by
      have e1 : keys.map row2 ++ folds.map rowF = ((keys.map Sum.inl ++ folds.map Sum.inr : List ((Str × D) ⊕ (Str × List D)))).map (fun z => match z with | .inl r => row2 r | .inr r => rowF r) := by simp [Function.comp_def]
      have e2 : keys.map (fun r => PyData.str r.1) ++ folds.map (fun r => PyData.str r.1) = ((keys.map Sum.inl ++ folds.map Sum.inr : List ((Str × D) ⊕ (Str × List D)))).map (fun z => match z with | .inl r => PyData.str r.1 | .inr r => PyData.str r.1) := by simp [Function.comp_def]
      rw [e1, e2]
      refine lc_eachM fun z _ => ?_
      cases z <;> simp [lcT, row2, rowF, wipeE]
    unfold Tb.f__law_columns Tb.b__law_columns
    simp [seqOf, inD, flatD, hlc, l1, bltD, Qn.cols]
    rfl
  | tops n o q ih =>
    intro s ok
    refine Run.of T_lcols rfl rfl fun Φ e => ?_
    have h := (ih s ok.2.2).use e (by simp [Qn.dep])
    rw [st, Qn.toD]
    unfold Tb.f__law_columns Tb.b__law_columns
    simp [inD, flatD, bltD, h, Qn.cols]
end Pure

set_option Elab.async false
set_option linter.all false
set_option maxRecDepth 100000
set_option maxHeartbeats 4000000
set_option autoImplicit false
set_option exponentiation.threshold 20000
/-! K4: what is guessed (plain), its bounds. -/
namespace Pure
open PySem PL
structure Cn where
  n : Bool → Int
  c : Bool → Str → Int
def cntD (m : Cn) (b : Bool) : D := .tuple [.int (m.n b), .dict ((colsOf b).map fun c => (.str c, .int (m.c b c)))]
def countsD (m : Cn) : D := .dict [(.str "t", cntD m true), (.str "u", cntD m false)]
def mx1 (x : Int) : Int := if x > 1 then x else 1
def unlT (m : Cn) (b : Bool) (al c : Str) : Int := match (colsOf b).find? (fun k => decide (al ++ Str.ofString "." ++ k = c)) with
  | some k => mx1 (m.c b k)
  | none => 1
/-- a term's column -/
def cN : D → Option Str
  | .tuple [.str tag, .str n] => if tag = Str.ofString "col" then some n else none
  | _ => none
def kN : D → Bool
  | .tuple (.str tag :: _) => decide (tag = Str.ofString "num") || decide (tag = Str.ofString "text")
  | _ => false
def ownC (cs : List Str) (ts : List D) : List Str := ts.filterMap fun t => match cN t with
  | some n => if n ∈ cs then some n else none
  | none => none
def mxL : List Int → Int
  | [] => 0
  | i :: r => r.foldl (fun a b => if b > a then b else a) i
def sh (cs : List Str) (u : Str → Int) : Ts → Int × Int
  | .yes => (1, 1)
  | .no => (0, 1)
  | .same a b => if (ownC cs [a, b]).length + ([a, b].filter kN).length ≠ 2 ∨ ownC cs [a, b] = [] then (1, 2) else nrm 1 (mxL ((ownC cs [a, b]).map u))
  | .oth tag _ => if tag = Str.ofString "below" then (1, 3) else if tag = Str.ofString "isnull" then (1, 10) else (1, 2)
  | .not t => mns (1, 1) (sh cs u t)
  | .and a b => tms (sh cs u a) (sh cs u b)
  | .or a b => lsr (pls (sh cs u a) (sh cs u b)) (1, 1)
def grpM (keys : List (Str × D)) (w : Int × Int) (u : Str → Int) (cs : List Str) : Int × Int :=
  keys.foldl (fun acc k => match cN k.2 with
    | some n => if n ∈ cs then tms acc (u n, 1) else tms acc w
    | none => tms acc w) (1, 1)
def grp (keys : List (Str × D)) (w : Int × Int) (u : Str → Int) (cs : List Str) : Int × Int := if keys = [] then (1, 1) else lsr (grpM keys w u cs) w
def semi (w : Str) : Bool := decide (w = Str.ofString "semi") || decide (w = Str.ofString "anti")
def jn (w : Str) (p q s : Int × Int) : Int × Int := if semi w then tms p (1, 2) else if w = Str.ofString "left" ∧ lss (tms (tms p q) s) p = true then p else tms (tms p q) s
/-- a column of the sources asked: of the join's sides, or of the question itself -/
def askC : Qn → List Str
  | .join _ _ p q => p.cols ++ q.cols
  | q => q.cols
def sem (m : Cn) : Qn → (Int × Int) × (Str → Int)
  | .take b al => ((m.n b, 1), unlT m b al)
  | .wher t q => (tms (sem m q).1 (sh (askC q) (sem m q).2 t), (sem m q).2)
  | .join w t p q => (jn w (sem m p).1 (sem m q).1 (sh (p.cols ++ q.cols) (fun c => if c ∈ p.cols then (sem m p).2 c else (sem m q).2 c) t), fun c => if c ∈ p.cols then (sem m p).2 c else (sem m q).2 c)
  | .make _ q => ((sem m q).1, fun _ => mx1 (up (sem m q).1))
  | .two tag p q => (if tag = Str.ofString "both" then pls (sem m p).1 (sem m q).1 else if tag = Str.ofString "less" then (sem m p).1 else lsr (sem m p).1 (sem m q).1, (sem m p).2)
  | .once q => sem m q
  | .group keys _ q => (grp keys (sem m q).1 (sem m q).2 q.cols, fun _ => mx1 (up (grp keys (sem m q).1 (sem m q).2 q.cols)))
  | .tops n _ q => (lsr (n, 1) (sem m q).1, (sem m q).2)
def Ts.lv : Ts → Nat
  | .not t => t.lv + 1
  | .and a b => max a.lv b.lv + 1
  | .or a b => max a.lv b.lv + 1
  | _ => 0

/-! ### bounds -/
theorem pow_mono {j k : Nat} (l : j ≤ k) : (2 : Int) ^ j ≤ 2 ^ k := by exact_mod_cast Nat.pow_le_pow_right (by decide) l
theorem pow_pos (k : Nat) : (0 : Int) < 2 ^ k := Int.pow_pos (by decide)
theorem mul_lt {a b : Int} {j k : Nat} (a0 : 0 ≤ a) (b0 : 0 ≤ b) (ha : a < 2 ^ j) (hb : b < 2 ^ k) : a * b < 2 ^ (j + k) := by
  rw [Int.pow_add]
  by_cases h : b = 0
  · subst h; simpa using Int.mul_pos (pow_pos j) (pow_pos k)
  · have b1 : 0 < b := by omega
    calc a * b < 2 ^ j * b := Int.mul_lt_mul_of_pos_right ha b1
      _ ≤ 2 ^ j * 2 ^ k := Int.mul_le_mul_of_nonneg_left (Int.le_of_lt hb) (Int.le_of_lt (pow_pos j))
theorem nrm_pb {a b : Int} {k : Nat} (a0 : 0 ≤ a) (b0 : 0 < b) (ha : a < 2 ^ k) (hb : b < 2 ^ k) : Pb k (nrm a b) := by
  have g := gcd_pos (a := a) b0
  have gd : (Int.gcd a b : Int) ∣ b := Int.gcd_dvd_right ..
  refine ⟨Int.ediv_nonneg a0 (Int.le_of_lt g), ?_, Int.lt_of_le_of_lt (Int.ediv_le_self _ a0) ha, Int.lt_of_le_of_lt (Int.ediv_le_self _ (Int.le_of_lt b0)) hb⟩
  exact Int.ediv_pos_of_pos_of_dvd b0 (Int.le_of_lt g) gd
/-- the value of a fraction is the value of its lowest form -/
theorem nrm_val {a b : Int} (b0 : 0 < b) : (nrm a b).1 * b = a * (nrm a b).2 := by
  obtain ⟨x, hx⟩ : (Int.gcd a b : Int) ∣ a := Int.gcd_dvd_left ..
  obtain ⟨y, hy⟩ : (Int.gcd a b : Int) ∣ b := Int.gcd_dvd_right ..
  have g := gcd_pos (a := a) b0
  have e1 : (nrm a b).1 = x := by
    show a / (Int.gcd a b : Int) = x
    exact Int.ediv_eq_of_eq_mul_right (Int.ne_of_gt g) hx
  have e2 : (nrm a b).2 = y := by
    show b / (Int.gcd a b : Int) = y
    exact Int.ediv_eq_of_eq_mul_right (Int.ne_of_gt g) hy
  rw [e1, e2]
  calc x * b = x * ((Int.gcd a b : Int) * y) := by rw [← hy]
    _ = (Int.gcd a b : Int) * x * y := by rw [Int.mul_comm x, Int.mul_assoc, Int.mul_assoc, Int.mul_comm y x]
    _ = a * y := by rw [← hx]
/-- at most v -/
def Le' (v : Int) (x : Int × Int) : Prop := x.1 ≤ v * x.2
theorem nrm_le {a b v : Int} (b0 : 0 < b) (h : a ≤ v * b) : Le' v (nrm a b) := by
  have p := (nrm_pb (a := a.natAbs) (b := b) (k := a.natAbs + b.natAbs) (by omega) b0)
  have g := gcd_pos (a := a) b0
  have d0 : 0 < (nrm a b).2 := Int.ediv_pos_of_pos_of_dvd b0 (Int.le_of_lt g) (Int.gcd_dvd_right ..)
  have e := nrm_val (a := a) b0
  unfold Le'
  apply Int.le_of_mul_le_mul_right (a := b) ?_ b0
  rw [e]
  calc a * (nrm a b).2 ≤ v * b * (nrm a b).2 := Int.mul_le_mul_of_nonneg_right h (Int.le_of_lt d0)
    _ = v * (nrm a b).2 * b := by rw [Int.mul_assoc, Int.mul_comm b, ← Int.mul_assoc]
theorem tms_pb {j k : Nat} {x y : Int × Int} (hx : Pb j x) (hy : Pb k y) : Pb (j + k) (tms x y) :=
  nrm_pb (Int.mul_nonneg hx.n0 hy.n0) (Int.mul_pos hx.d0 hy.d0) (mul_lt hx.n0 hy.n0 hx.n1 hy.n1) (mul_lt (Int.le_of_lt hx.d0) (Int.le_of_lt hy.d0) hx.d1 hy.d1)
theorem pls_pb {j k : Nat} {x y : Int × Int} (hx : Pb j x) (hy : Pb k y) : Pb (j + k + 1) (pls x y) := by
  have a := mul_lt hx.n0 (Int.le_of_lt hy.d0) hx.n1 hy.d1
  have b := mul_lt hy.n0 (Int.le_of_lt hx.d0) hy.n1 hx.d1
  have c := mul_lt (Int.le_of_lt hx.d0) (Int.le_of_lt hy.d0) hx.d1 hy.d1
  have e : (2 : Int) ^ (j + k + 1) = 2 * 2 ^ (j + k) := by rw [Int.pow_succ]; omega
  have e2 : (2 : Int) ^ (k + j) = 2 ^ (j + k) := by rw [Nat.add_comm]
  rw [e2] at b
  have p := pow_pos (j + k)
  refine nrm_pb ?_ (Int.mul_pos hx.d0 hy.d0) ?_ ?_
  · exact Int.add_nonneg (Int.mul_nonneg hx.n0 (Int.le_of_lt hy.d0)) (Int.mul_nonneg hy.n0 (Int.le_of_lt hx.d0))
  · rw [e]; omega
  · rw [e]; omega
theorem lsr_pb {j : Nat} {x y : Int × Int} (hx : Pb j x) (hy : Pb j y) : Pb j (lsr x y) := by
  unfold lsr; split <;> assumption
theorem mns_pb {k : Nat} {x : Int × Int} (hx : Pb k x) (h1 : Le' 1 x) : Pb k (mns (1, 1) x) := by
  have n0 := hx.n0
  have d0 := hx.d0
  have n1 := hx.n1
  have d1 := hx.d1
  have h : x.1 ≤ x.2 := by unfold Le' at h1; omega
  unfold mns pls
  simp only [Int.one_mul, Int.mul_one]
  exact nrm_pb (by omega) (by omega) (by omega) (by omega)
theorem le_tms {a b : Int} {x y : Int × Int} {j k : Nat} (hx : Pb j x) (hy : Pb k y) (a0 : 0 ≤ a) (ha : Le' a x) (hb : Le' b y) : Le' (a * b) (tms x y) := by
  refine nrm_le (Int.mul_pos hx.d0 hy.d0) ?_
  calc x.1 * y.1 ≤ (a * x.2) * y.1 := Int.mul_le_mul_of_nonneg_right ha hy.n0
    _ ≤ (a * x.2) * (b * y.2) := Int.mul_le_mul_of_nonneg_left hb (Int.mul_nonneg a0 (Int.le_of_lt hx.d0))
    _ = a * b * (x.2 * y.2) := by rw [Int.mul_assoc, Int.mul_left_comm x.2, ← Int.mul_assoc, Int.mul_assoc]
theorem le_lsr1 {a : Int} {x y : Int × Int} {j k : Nat} (hx : Pb j x) (hy : Pb k y) (h : Le' a y) : Le' a (lsr x y) := by
  unfold lsr
  split
  · rename_i c
    have c' : x.1 * y.2 < y.1 * x.2 := of_decide_eq_true c
    unfold Le' at h ⊢
    have : x.1 * y.2 < a * x.2 * y.2 := by
      calc x.1 * y.2 < y.1 * x.2 := c'
        _ ≤ (a * y.2) * x.2 := Int.mul_le_mul_of_nonneg_right h (Int.le_of_lt hx.d0)
        _ = a * x.2 * y.2 := by rw [Int.mul_assoc, Int.mul_comm y.2, ← Int.mul_assoc]
    exact Int.le_of_lt (Int.lt_of_mul_lt_mul_right this (Int.le_of_lt hy.d0))
  · exact h
theorem le_mns {k : Nat} {x : Int × Int} (hx : Pb k x) : Le' 1 (mns (1, 1) x) := by
  have n0 := hx.n0
  have d0 := hx.d0
  unfold mns pls
  simp only [Int.one_mul, Int.mul_one]
  exact nrm_le (by omega) (by omega)
theorem mxL_mem : ∀ {xs : List Int}, xs ≠ [] → mxL xs ∈ xs
  | [], h => (h rfl).elim
  | i :: r, _ => by
    have g : ∀ (r : List Int) (i : Int), r.foldl (fun a b => if b > a then b else a) i ∈ i :: r := by
      intro r
      induction r with
      | nil => intro i; simp
      | cons x r ih =>
        intro i
        rw [List.foldl_cons]
        have := ih (if x > i then x else i)
        rcases List.mem_cons.mp this with e | e
        · rw [e]
          split <;> simp
        · exact List.mem_cons_of_mem _ (List.mem_cons_of_mem _ e)
    exact g r i
/-- what a test's share is bounded by -/
theorem sh_pb {cs : List Str} {u : Str → Int} {v : Nat} (hu : ∀ c, 1 ≤ u c ∧ u c ≤ 2 ^ v) : ∀ (t : Ts), Pb ((v + 5) * 2 ^ t.lv - 1) (sh cs u t) ∧ Le' 1 (sh cs u t) := by
  have base : ∀ x : Int × Int, (0 ≤ x.1 ∧ x.1 ≤ x.2 ∧ 0 < x.2 ∧ x.2 < 2 ^ 4) → Pb ((v + 5) * 2 ^ 0 - 1) x ∧ Le' 1 x := fun x h => by
    have m := pow_mono (show 4 ≤ (v + 5) * 2 ^ 0 - 1 by omega)
    exact ⟨⟨h.1, h.2.2.1, by omega, by omega⟩, by unfold Le'; omega⟩
  have pos : ∀ l, 1 ≤ 2 ^ l := fun l => Nat.one_le_two_pow
  intro t
  induction t with
  | yes => exact base (1, 1) (by decide)
  | no => exact base (0, 1) (by decide)
  | same a b =>
    unfold sh
    split
    · exact base _ (by decide)
    · rename_i h
      have hne : ownC cs [a, b] ≠ [] := fun e => h (.inr e)
      have mem := mxL_mem (xs := (ownC cs [a, b]).map u) (by simpa using hne)
      obtain ⟨c, _, hc⟩ := List.mem_map.mp mem
      rw [← hc]
      obtain ⟨h1, h2⟩ := hu c
      have m := pow_mono (show v + 1 ≤ (v + 5) * 2 ^ 0 - 1 by omega)
      have e : (2 : Int) ^ (v + 1) = 2 * 2 ^ v := by rw [Int.pow_succ]; omega
      have p := pow_pos v
      exact ⟨nrm_pb (by decide) (by omega) (by show (1 : Int) < _; simp only [Ts.lv]; omega) (by show u c < _; simp only [Ts.lv]; omega), nrm_le (by omega) (by omega)⟩
  | oth tag r =>
    unfold sh
    split
    · exact base _ (by decide)
    · split
      · exact base _ (by decide)
      · exact base _ (by decide)
  | not t ih =>
    unfold sh
    have l : (v + 5) * 2 ^ t.lv - 1 ≤ (v + 5) * 2 ^ (Ts.not t).lv - 1 := Nat.sub_le_sub_right (Nat.mul_le_mul_left _ (Nat.pow_le_pow_right (by decide) (Nat.le_succ _))) 1
    exact ⟨(mns_pb ih.1 ih.2).mono l, le_mns ih.1⟩
  | and a b iha ihb =>
    unfold sh
    have l1 : (v + 5) * 2 ^ a.lv ≤ (v + 5) * 2 ^ (max a.lv b.lv) := Nat.mul_le_mul_left _ (Nat.pow_le_pow_right (by decide) (Nat.le_max_left ..))
    have l2 : (v + 5) * 2 ^ b.lv ≤ (v + 5) * 2 ^ (max a.lv b.lv) := Nat.mul_le_mul_left _ (Nat.pow_le_pow_right (by decide) (Nat.le_max_right ..))
    have e : (v + 5) * 2 ^ (Ts.and a b).lv = 2 * ((v + 5) * 2 ^ (max a.lv b.lv)) := by rw [Ts.lv, Nat.pow_succ, ← Nat.mul_assoc, Nat.mul_comm]
    have q1 := Nat.mul_le_mul_left (v + 5) (pos a.lv)
    have q2 := Nat.mul_le_mul_left (v + 5) (pos b.lv)
    refine ⟨(tms_pb iha.1 ihb.1).mono (by omega), ?_⟩
    have := le_tms iha.1 ihb.1 (by decide) iha.2 ihb.2
    simpa using this
  | or a b iha ihb =>
    unfold sh
    have l1 : (v + 5) * 2 ^ a.lv ≤ (v + 5) * 2 ^ (max a.lv b.lv) := Nat.mul_le_mul_left _ (Nat.pow_le_pow_right (by decide) (Nat.le_max_left ..))
    have l2 : (v + 5) * 2 ^ b.lv ≤ (v + 5) * 2 ^ (max a.lv b.lv) := Nat.mul_le_mul_left _ (Nat.pow_le_pow_right (by decide) (Nat.le_max_right ..))
    have e : (v + 5) * 2 ^ (Ts.or a b).lv = 2 * ((v + 5) * 2 ^ (max a.lv b.lv)) := by rw [Ts.lv, Nat.pow_succ, ← Nat.mul_assoc, Nat.mul_comm]
    have q1 := Nat.mul_le_mul_left (v + 5) (pos a.lv)
    have q2 := Nat.mul_le_mul_left (v + 5) (pos b.lv)
    have one : Pb ((v + 5) * 2 ^ (Ts.or a b).lv - 1) (1, 1) := by
      have := pow_mono (show 1 ≤ (v + 5) * 2 ^ (Ts.or a b).lv - 1 by omega)
      exact ⟨by decide, by decide, by show (1 : Int) < _; omega, by show (1 : Int) < _; omega⟩
    have p := (pls_pb iha.1 ihb.1).mono (show _ ≤ (v + 5) * 2 ^ (Ts.or a b).lv - 1 by omega)
    exact ⟨lsr_pb p one, le_lsr1 p one (by unfold Le'; decide)⟩
end Pure

set_option Elab.async false
set_option linter.all false
set_option maxRecDepth 100000
set_option maxHeartbeats 4000000
set_option autoImplicit false
set_option exponentiation.threshold 20000
/-! K5: the share of a test, the program's and the law's. -/
namespace Pure
open PySem PL
theorem T_sos : Tb.T "share_of_same" = some Tb.f_share_of_same := by kernel_rfl
theorem T_share : Tb.T "share" = some Tb.f_share := by kernel_rfl
theorem T_part : Tb.T "_law_part" = some Tb.f__law_part := by kernel_rfl
theorem in_strs (x : Str) (ys : List Str) : inD (.str x) (.tuple (ys.map .str)) = some (decide (x ∈ ys)) := by
  have h1 : (ys.map PyData.str).all flatD = true := by simp [flatD]
  unfold inD
  simp only [flatD, h1, Bool.and_self, Bool.true_or, if_true]
  congr 1
  induction ys with
  | nil => simp
  | cons y ys ih =>
    simp only [List.map_cons, List.any_cons, eqv_ss, List.mem_cons]
    have : (ys.map PyData.str).all flatD = true := by simp [flatD]
    rw [ih this]
    by_cases e : y = x
    · subst e; simp
    · have e' : ¬ x = y := fun z => e z.symm
      simp [e, e']
theorem in_strsL (x : Str) (ys : List Str) : inD (.str x) (.list (ys.map .str)) = some (decide (x ∈ ys)) := in_strs x ys
/-- what is read of a term -/
theorem tm_read {t : D} (h : TmOk t) : ∃ (tag : Str) (rest : List D), t = .tuple (.str tag :: rest) ∧ kN t = (decide (tag = Str.ofString "num") || decide (tag = Str.ofString "text")) ∧
    ((tag = Str.ofString "col" ∧ ∃ n, rest = [.str n] ∧ cN t = some n) ∨ (tag ≠ Str.ofString "col" ∧ cN t = none)) := by
  obtain ⟨tag, rest, rfl, h⟩ := h
  refine ⟨tag, rest, rfl, rfl, ?_⟩
  by_cases e : tag = Str.ofString "col"
  · obtain ⟨n, rfl⟩ := h e
    exact .inl ⟨e, n, rfl, by simp [cN, e]⟩
  · refine .inr ⟨e, ?_⟩
    unfold cN
    split
    · rename_i tag' n heq
      injection heq with heq
      injection heq with h1 h2
      injection h1 with h1
      subst h1
      rw [if_neg e]
    · rfl
/-- the columns, as the two comprehensions pick them -/
def ownF (cs : List Str) (t : D) : Option D := (match cN t with
  | some n => if n ∈ cs then some n else none
  | none => none).map PyData.str
theorem ownF_map (cs : List Str) (ts : List D) : ts.filterMap (ownF cs) = (ownC cs ts).map .str := by
  unfold ownC
  rw [List.map_filterMap]
  rfl
theorem kn_le (cs : List Str) : ∀ (t : D), (ownC cs [t]).length + ([t].filter kN).length ≤ 1 := by
  intro t
  unfold ownC
  cases e : cN t with
  | none => simp only [List.filterMap_cons, e, List.filterMap_nil, List.length_nil, List.filter_cons, List.filter_nil]; split <;> simp
  | some n =>
    have hk : kN t = false := by
      unfold cN at e
      split at e
      · rename_i tag n' 
        split at e
        · rename_i h; subst h; simp [kN]
        · cases e
      · cases e
    simp only [List.filterMap_cons, e, List.filterMap_nil, hk, List.filter_cons]
    split <;> simp
theorem ints_map (u : Str → Int) : ∀ (xs : List Str), intsOf (xs.map fun c => PyData.int (u c)) = some (xs.map u)
  | [] => rfl
  | x :: xs => by simp [intsOf, ints_map u xs]
theorem maxOf_eq {xs : List Int} (h : xs ≠ []) : maxOf xs = some (mxL xs) := by
  cases xs with
  | nil => exact (h rfl).elim
  | cons x xs => rfl
@[simp] theorem sl_from1 (x : D) (xs : List D) : slD (.tuple (x :: xs)) (some 1) none = some (.tuple xs) := by
  unfold slD cut
  have e1 : HT.sIx (x :: xs).length 0 (some 1) = 1 := by
    show min (1 : Int).toNat (xs.length + 1) = 1
    have : (1 : Int).toNat = 1 := rfl
    rw [this]
    omega
  have e2 : HT.sIx (x :: xs).length (x :: xs).length none = xs.length + 1 := rfl
  show some (PyData.tuple (List.take (HT.sIx (x :: xs).length (x :: xs).length none - HT.sIx (x :: xs).length 0 (some 1)) (List.drop (HT.sIx (x :: xs).length 0 (some 1)) (x :: xs)))) = _
  rw [e1, e2]
  simp
theorem own_turn {Φ : Fn} {t : D} (ht : TmOk t) (cs : List Str) (ρ : PL.Env) (i j : Nat) (ci : D) (hj : ∀ x, ((wipeE ρ [i]).set i (.fz x))[j]? = some (.fz ci)) (hi : ∀ x : D, ((wipeE ρ [i]).set i (.fz x))[i]? = some (.fz x)) (hc : ∀ n, inD (.str n) ci = some (decide (n ∈ cs))) (s : W) :
    lcT Φ Tb.G ρ [i] (.ix (.v i) (.int 1)) (.nm i) (.yes (.and (.cmp .eq (.ix (.v i) (.int 0)) (.str "col")) (.cmp .isin (.ix (.v i) (.int 1)) (.v j)))) t s = some (ownF cs t, s) := by
  obtain ⟨tag, rest, rfl, _, h | h⟩ := tm_read ht
  · obtain ⟨rfl, n, rfl, hn⟩ := h
    unfold ownF
    rw [hn]
    by_cases m : n ∈ cs <;> simp [lcT, hi, hj, hc, m]
  · obtain ⟨ne, hn⟩ := h
    unfold ownF
    rw [hn]
    simp [lcT, hi, ne]
theorem kn_turn {Φ : Fn} {t : D} (ht : TmOk t) (ρ : PL.Env) (i : Nat) (hi : ∀ x : D, ((wipeE ρ [i]).set i (.fz x))[i]? = some (.fz x)) (s : W) :
    lcT Φ Tb.G ρ [i] (.v i) (.nm i) (.yes (.cmp .isin (.ix (.v i) (.int 0)) (.tup (.cons (.str "num") (.cons (.str "text") .nil))))) t s = some (if kN t then some t else none, s) := by
  obtain ⟨tag, rest, rfl, hk, _⟩ := tm_read ht
  rw [hk]
  by_cases h1 : tag = Str.ofString "num"
  · subst h1; simp [lcT, hi, inD, flatD]
  · by_cases h2 : tag = Str.ofString "text"
    · subst h2; simp [lcT, hi, inD, flatD]
    · have h1' : ¬ Str.ofString "num" = tag := fun e => h1 e.symm
      have h2' : ¬ Str.ofString "text" = tag := fun e => h2 e.symm
      simp [lcT, hi, inD, flatD, h1, h2, h1', h2']
theorem kn_filt (ts : List D) : (ts.filterMap fun t => if kN t then some t else none) = ts.filter kN := by
  induction ts with
  | nil => rfl
  | cons t ts ih => rw [List.filterMap_cons, List.filter_cons, ih]; cases kN t <;> rfl
/-- what a test's share leans on -/
structure Un (f g : Str) (ex : List D) (N : Nat) (cs : List Str) (u : Str → Int) (qD : D) (mk : List D → D) : Prop where
  asked : ∀ s, R N f [qD, ex.headD .none] s (mk (cs.map .str), s)
  un : ∀ c ∈ cs, ∀ s, R N g (.str c :: qD :: ex) s (.int (u c), s)
theorem eq_nilL (xs : List Str) : cmpD .eq (.list (xs.map .str)) (.list []) = if PyData.canLayAll0 (xs.map .str) then some (decide (xs = [])) else none := by
  unfold cmpD eqOk
  have d : PyData.depth (.list (xs.map PyData.str)) ≤ 1 := by
    simp only [PyData.depth]
    have : ∀ ys : List Str, PyData.depthAll (ys.map PyData.str) = 0 := by
      intro ys
      induction ys with
      | nil => rfl
      | cons y ys ih => simp [PyData.depthAll, PyData.depth, ih]
    rw [this]
    omega
  have e : PyData.eqv (.list (xs.map PyData.str)) (.list []) = decide (xs = []) := by
    cases xs <;> simp [PyData.eqv, PyData.eqvAll]
  have e2 : min (PyData.depth (.list (xs.map PyData.str))) (PyData.depth (.list [])) ≤ 64 := by omega
  simp only [scalD, PyData.canLay0, PyData.canLayAll0, Bool.true_and, Bool.false_or, e, e2, decide_true, Bool.and_true]
def isE (xs : List Str) : Bool := decide (xs = [])
theorem eq_nilE {xs : List Str} (h : PyData.canLayAll0 (xs.map .str) = true) : cmpD .eq (.list (xs.map .str)) (.list []) = some (isE xs) := by
  rw [eq_nilL, h]; rfl
/-- names that a heap can hold -/
def NmOk (c : Str) : Prop := PyData.canLay0 (.str c) = true
theorem lay_names : ∀ {xs : List Str}, (∀ c ∈ xs, NmOk c) → PyData.canLayAll0 (xs.map .str) = true
  | [], _ => rfl
  | x :: xs, h => by
    simp only [List.map_cons, PyData.canLayAll0, Bool.and_eq_true]
    exact ⟨h x List.mem_cons_self, lay_names fun c hc => h c (List.mem_cons_of_mem _ hc)⟩
theorem own_mem {cs : List Str} {ts : List D} : ∀ c ∈ ownC cs ts, c ∈ cs := by
  intro c hc
  unfold ownC at hc
  obtain ⟨t, _, h⟩ := List.mem_filterMap.mp hc
  split at h
  · split at h
    · cases h; assumption
    · cases h
  · cases h
theorem run_sos {N : Nat} {cs : List Str} {u : Str → Int} {qD : D} {m : Cn} (U : Un "asked_columns" "unlike_in" [schemasD, countsD m] N cs u qD PyData.tuple) (hn : ∀ c ∈ cs, NmOk c) (hN : 2 ≤ N) (hu : ∀ c, 1 ≤ u c ∧ u c ≤ 2 ^ 60) {a b : D} (ha : TmOk a) (hb : TmOk b) (s : W) :
    R (N + 1) "share_of_same" [(Ts.same a b).toD, qD, schemasD, countsD m] s (pr (sh cs u (.same a b)), s) := by
  refine Run.of T_sos rfl rfl fun Φ e => ?_
  have st : ∀ x, Tb.f_share_of_same.start [x, qD, schemasD, countsD m] = [.fz x, .fz qD, .fz schemasD, .fz (countsD m), .no, .no, .no, .no, .no] := fun x => rfl
  rw [st, Ts.toD]
  have h1 := (U.asked s).use e (Nat.le_refl _)
  simp only [List.headD] at h1
  unfold Tb.f_share_of_same Tb.b_share_of_same
  have l1 : lcLoop (lcT Φ Tb.G [.fz (.tuple [.str "same", a, b]), .fz qD, .fz schemasD, .fz (countsD m), .fz (.tuple (cs.map .str)), .no, .no, .no, .no] [7] (.ix (.v 7) (.int 1)) (.nm 7) (.yes (.and (.cmp .eq (.ix (.v 7) (.int 0)) (.str "col")) (.cmp .isin (.ix (.v 7) (.int 1)) (.v 4))))) [a, b] s = some ((ownC cs [a, b]).map .str, s) := by
    rw [← ownF_map]
    refine lc_map fun x hx => own_turn ?_ cs _ 7 4 (.tuple (cs.map .str)) (fun x => rfl) (fun x => rfl) (fun n => in_strs n cs) s
    rcases List.mem_cons.mp hx with e | e
    · subst e; exact ha
    · rcases List.mem_cons.mp e with e | e
      · subst e; exact hb
      · cases e
  have l2 : lcLoop (lcT Φ Tb.G [.fz (.tuple [.str "same", a, b]), .fz qD, .fz schemasD, .fz (countsD m), .fz (.tuple (cs.map .str)), .fz (.list ((ownC cs [a, b]).map .str)), .no, .no, .no] [7] (.v 7) (.nm 7) (.yes (.cmp .isin (.ix (.v 7) (.int 0)) (.tup (.cons (.str "num") (.cons (.str "text") .nil)))))) [a, b] s = some ([a, b].filter kN, s) := by
    rw [← kn_filt]
    refine lc_map fun x hx => kn_turn ?_ _ 7 (fun x => rfl) s
    rcases List.mem_cons.mp hx with e | e
    · subst e; exact ha
    · rcases List.mem_cons.mp e with e | e
      · subst e; exact hb
      · cases e
  generalize how : ownC cs [a, b] = ow at *
  generalize hkn : [a, b].filter kN = kn at *
  have owm : ∀ c ∈ ow, c ∈ cs := by rw [← how]; exact own_mem
  have lay := lay_names fun c hc => hn c (owm c hc)
  have l3 : lcLoop (lcT Φ Tb.G [.fz (.tuple [.str "same", a, b]), .fz qD, .fz schemasD, .fz (countsD m), .fz (.tuple (cs.map .str)), .fz (.list (ow.map .str)), .fz (.list kn), .no, .no] [8] (.call "unlike_in" (.cons (.v 8) (.cons (.v 1) (.cons (.v 2) (.cons (.v 3) .nil))))) (.nm 8) .no) (ow.map .str) s = some (ow.map (fun c => .int (u c)), s) :=
    lc_eachM fun c hc => by
      have := (U.un c (owm c hc) s).use e (Nat.le_refl _)
      simp [lcT, wipeE, this]
  have i1 := ints_map u ow
  have key : sh cs u (.same a b) = if ow.length + kn.length ≠ 2 ∨ ow = [] then (1, 2) else nrm 1 (mxL (ow.map u)) := by
    unfold sh; rw [how, hkn]
  rw [key]
  by_cases c1 : (ow.length : Int) + kn.length = 2
  · have c1' : ow.length + kn.length = 2 := by omega
    have he := eq_nilE lay
    by_cases c2 : ow = []
    · rw [if_pos (.inr c2)]
      have e0 : isE ow = true := decide_eq_true c2
      rw [e0] at he
      simp [h1, l1, l2, seqOf, bltD, c1, he, pr]
    · rw [if_neg (by rintro (h | h); exact h c1'; exact c2 h)]
      have e0 : isE ow = false := decide_eq_false c2
      rw [e0] at he
      have mem := mxL_mem (xs := ow.map u) (by simpa using c2)
      obtain ⟨c, _, hc⟩ := List.mem_map.mp mem
      obtain ⟨b1, b2⟩ := hu c
      rw [hc] at b1 b2
      have pp : (2 : Int) ^ 60 < 2 ^ 9000 := by
        have := pow_mono (show 61 ≤ 9000 by decide)
        have e : (2 : Int) ^ 61 = 2 * 2 ^ 60 := by decide
        have p := pow_pos 60
        omega
      have fr := (run_fraction 1 (mxL (ow.map u)) (by omega) (by omega) s).use e hN
      have mo := maxOf_eq (xs := ow.map u) (by simpa using c2)
      simp [h1, l1, l2, l3, seqOf, bltD, c1, he, i1, mo, fr]
  · have c1' : ow.length + kn.length ≠ 2 := by omega
    rw [if_pos (.inl c1')]
    simp [h1, l1, l2, seqOf, bltD, c1, pr]

theorem G_whole : Tb.G "WHOLE" = some (.tuple [.int 1, .int 1]) := by kernel_rfl
theorem pw_one : Pw (1, 1) := ⟨by decide, by decide, by decide⟩
theorem sh_pw {cs : List Str} {u : Str → Int} (hu : ∀ c, 1 ≤ u c ∧ u c ≤ 2 ^ 60) {t : Ts} (h : t.lv ≤ 4) : Pb 1039 (sh cs u t) ∧ Le' 1 (sh cs u t) := by
  obtain ⟨h1, h2⟩ := sh_pb (v := 60) hu t
  have l : (60 + 5) * 2 ^ t.lv ≤ (60 + 5) * 2 ^ 4 := Nat.mul_le_mul_left _ (Nat.pow_le_pow_right (by decide) h)
  exact ⟨h1.mono (by omega), h2⟩
theorem run_share {N : Nat} {cs : List Str} {u : Str → Int} {qD : D} {m : Cn} (U : Un "asked_columns" "unlike_in" [schemasD, countsD m] N cs u qD PyData.tuple) (hn : ∀ c ∈ cs, NmOk c) (hN : 4 ≤ N) (hu : ∀ c, 1 ≤ u c ∧ u c ≤ 2 ^ 60) :
    ∀ (t : Ts) (s : W), t.Ok → t.lv ≤ 4 → R (N + 2 + t.lv) "share" [t.toD, qD, schemasD, countsD m] s (pr (sh cs u t), s) := by
  have st : ∀ x, Tb.f_share.start [x, qD, schemasD, countsD m] = [.fz x, .fz qD, .fz schemasD, .fz (countsD m), .no, .no, .no, .no] := fun x => rfl
  intro t
  induction t with
  | yes =>
    intro s _ _
    refine Run.mono (N := (N + 1) + 1) (Run.of T_share rfl rfl fun Φ e => ?_) (by simp [Ts.lv] <;> omega)
    rw [st, Ts.toD]
    unfold Tb.f_share Tb.b_share
    simp [inD, flatD, G_whole, sh, pr]
  | no =>
    intro s _ _
    refine Run.mono (N := (N + 1) + 1) (Run.of T_share rfl rfl fun Φ e => ?_) (by simp [Ts.lv] <;> omega)
    rw [st, Ts.toD]
    unfold Tb.f_share Tb.b_share
    simp [inD, flatD, G_whole, sh, pr]
  | same a b =>
    intro s ok _
    refine Run.mono (N := (N + 1) + 1) (Run.of T_share rfl rfl fun Φ e => ?_) (by simp [Ts.lv] <;> omega)
    have h := (run_sos U hn (by omega) hu ok.1 ok.2 s).use e (by omega)
    rw [st]
    rw [Ts.toD] at h ⊢
    unfold Tb.f_share Tb.b_share
    simp [inD, flatD, h]
  | oth tag rest =>
    intro s ok _
    refine Run.mono (N := (N + 1) + 1) (Run.of T_share rfl rfl fun Φ e => ?_) (by simp [Ts.lv] <;> omega)
    rw [st, Ts.toD]
    unfold Tb.f_share Tb.b_share
    have mg : dMerge [] [(Sum.inr (Str.ofString "below"), PyData.tuple [.int 1, .int 3]), (Sum.inr (Str.ofString "isnull"), PyData.tuple [.int 1, .int 10])] = [(.str "below", .tuple [.int 1, .int 3]), (.str "isnull", .tuple [.int 1, .int 10])] := by rfl
    rcases ok with rfl | rfl | rfl | rfl <;> simp [inD, flatD, kOf, mg, sh, pr]
  | not t ih =>
    intro s ok hl
    refine Run.mono (N := (N + 2 + t.lv) + 1) (Run.of T_share rfl rfl fun Φ e => ?_) (by simp [Ts.lv] <;> omega)
    have h := (ih s ok (by simp [Ts.lv] at hl; omega)).use e (by omega)
    have p := sh_pw (cs := cs) hu (t := t) (by simp [Ts.lv] at hl; omega)
    have h2 := (run_minus pw_one (p.1.w (by decide)) s).use e (by omega)
    rw [st, Ts.toD]
    unfold Tb.f_share Tb.b_share
    simp only [pr] at h h2 ⊢
    simp [inD, flatD, G_whole, h, h2, sh]
  | and a b iha ihb =>
    intro s ok hl
    refine Run.mono (N := (N + 2 + max a.lv b.lv) + 1) (Run.of T_share rfl rfl fun Φ e => ?_) (by simp [Ts.lv] <;> omega)
    have hla : a.lv ≤ 4 := by simp [Ts.lv] at hl; omega
    have hlb : b.lv ≤ 4 := by simp [Ts.lv] at hl; omega
    have h1 := (iha s ok.1 hla).use e (by omega)
    have h2 := (ihb s ok.2 hlb).use e (by omega)
    have pa := sh_pw (cs := cs) hu hla
    have pb := sh_pw (cs := cs) hu hlb
    have h3 := (run_times (pa.1.w (by decide)) (pb.1.w (by decide)) s).use e (by omega)
    rw [st, Ts.toD]
    unfold Tb.f_share Tb.b_share
    simp [inD, flatD, G_whole, seqOf, lcLoop, lcT, wipeE, h1, h2, h3, sh]
  | or a b iha ihb =>
    intro s ok hl
    refine Run.mono (N := (N + 2 + max a.lv b.lv) + 1) (Run.of T_share rfl rfl fun Φ e => ?_) (by simp [Ts.lv] <;> omega)
    have hla : a.lv ≤ 4 := by simp [Ts.lv] at hl; omega
    have hlb : b.lv ≤ 4 := by simp [Ts.lv] at hl; omega
    have h1 := (iha s ok.1 hla).use e (by omega)
    have h2 := (ihb s ok.2 hlb).use e (by omega)
    have pa := sh_pw (cs := cs) hu hla
    have pb := sh_pw (cs := cs) hu hlb
    have h3 := (run_plus (pa.1.w (by decide)) (pb.1.w (by decide)) s).use e (by omega)
    have h4 := (run_lesser ((pls_pb pa.1 pb.1).w (by decide)) pw_one s).use e (by omega)
    have w : (PyData.tuple [.int 1, .int 1]) = pr (1, 1) := rfl
    rw [← w] at h4
    rw [st, Ts.toD]
    unfold Tb.f_share Tb.b_share
    simp [inD, flatD, G_whole, seqOf, lcLoop, lcT, wipeE, h1, h2, h3, h4, sh]

/-! ### the law's -/
theorem nrm_self {a : Int} (h : 0 < a) : nrm a a = (1, 1) := by
  have g : (Int.gcd a a : Int) = a := by
    rw [Int.gcd_self]
    omega
  unfold nrm
  rw [g, Int.ediv_self (by omega)]
/-- a sum of at most one, or one: both ways of saying it -/
theorem or_eq {j k : Nat} {x y : Int × Int} (hx : Pb j x) (hy : Pb k y) : (if lss (1, 1) (pls x y) = true then ((1, 1) : Int × Int) else pls x y) = lsr (pls x y) (1, 1) := by
  have p := pls_pb hx hy
  unfold lsr lss
  simp only [Int.one_mul, Int.mul_one]
  by_cases h1 : (pls x y).2 < (pls x y).1
  · have h2 : ¬ (pls x y).1 < (pls x y).2 := by omega
    simp [h1, h2]
  · by_cases h2 : (pls x y).1 < (pls x y).2
    · simp [h1, h2]
    · have e : (pls x y).1 = (pls x y).2 := by omega
      have d0 : 0 < x.2 * y.2 := Int.mul_pos hx.d0 hy.d0
      have v := nrm_val (a := x.1 * y.2 + y.1 * x.2) d0
      have v' : (pls x y).1 * (x.2 * y.2) = (x.1 * y.2 + y.1 * x.2) * (pls x y).2 := v
      rw [e, Int.mul_comm] at v'
      have q := Int.eq_of_mul_eq_mul_right (Int.ne_of_gt p.d0) v'
      have s : pls x y = (1, 1) := by
        unfold pls
        rw [← q]
        exact nrm_self d0
      simp [s]
theorem and_eq {j k : Nat} {x y : Int × Int} (hx : Pb j x) (hy : Pb k y) (h1 : Le' 1 x) (h2 : Le' 1 y) : lss (1, 1) (tms x y) = false := by
  have := le_tms hx hy (by decide) h1 h2
  unfold Le' at this
  unfold lss
  simp only [Int.one_mul, Int.mul_one] at this ⊢
  exact decide_eq_false (by omega)
theorem run_part {N : Nat} {cs : List Str} {u : Str → Int} {q : Qn} {m : Cn} {rows : Bool → List D} (un : ∀ c ∈ cs, ∀ s, R N "_law_unlike" [.str c, q.toD, tablesD rows, countsD m] s (.int (u c), s))
    (asked : ∀ Φ s, L N Φ → ∀ (ρ : PL.Env), ρ[1]? = some (.fz q.toD) → ρ[2]? = some (.fz (tablesD rows)) → ev Φ Tb.G ρ (.ite (.cmp .eq (.ix (.v 1) (.int 0)) (.str "join")) (.bin .add (.call "_law_columns" (.cons (.ix (.v 1) (.int 3)) (.cons (.v 2) .nil))) (.call "_law_columns" (.cons (.ix (.v 1) (.int 4)) (.cons (.v 2) .nil)))) (.call "_law_columns" (.cons (.v 1) (.cons (.v 2) .nil)))) s = some (.list (cs.map .str), s))
    (hn : ∀ c ∈ cs, NmOk c) (hN : 4 ≤ N) (hu : ∀ c, 1 ≤ u c ∧ u c ≤ 2 ^ 60) :
    ∀ (t : Ts) (s : W), t.Ok → t.lv ≤ 4 → R (N + 1 + t.lv) "_law_part" [t.toD, q.toD, tablesD rows, countsD m] s (pr (sh cs u t), s) := by
  have st : ∀ x, Tb.f__law_part.start [x, q.toD, tablesD rows, countsD m] = [.fz x, .fz q.toD, .fz (tablesD rows), .fz (countsD m), .no, .no, .no, .no, .no, .no, .no, .no, .no] := fun x => rfl
  intro t
  induction t with
  | yes =>
    intro s _ _
    refine Run.mono (N := N + 1) (Run.of T_part rfl rfl fun Φ e => ?_) (by simp [Ts.lv])
    rw [st, Ts.toD]
    unfold Tb.f__law_part Tb.b__law_part
    simp [inD, flatD, bltD, sh, pr]
  | no =>
    intro s _ _
    refine Run.mono (N := N + 1) (Run.of T_part rfl rfl fun Φ e => ?_) (by simp [Ts.lv])
    rw [st, Ts.toD]
    unfold Tb.f__law_part Tb.b__law_part
    simp [inD, flatD, bltD, sh, pr]
  | same a b =>
    intro s ok _
    refine Run.mono (N := N + 1) (Run.of T_part rfl rfl fun Φ e => ?_) (by simp [Ts.lv])
    rw [st, Ts.toD]
    obtain ⟨ha, hb⟩ := ok
    have h1 := asked Φ s e [.fz (.tuple [.str "same", a, b]), .fz q.toD, .fz (tablesD rows), .fz (countsD m), .fz (.str "same"), .no, .no, .no, .no, .no, .no, .no, .no] rfl rfl
    have l1 : lcLoop (lcT Φ Tb.G [.fz (.tuple [.str "same", a, b]), .fz q.toD, .fz (tablesD rows), .fz (countsD m), .fz (.str "same"), .fz (.list (cs.map .str)), .no, .no, .no, .no, .no, .no, .no] [11] (.ix (.v 11) (.int 1)) (.nm 11) (.yes (.and (.cmp .eq (.ix (.v 11) (.int 0)) (.str "col")) (.cmp .isin (.ix (.v 11) (.int 1)) (.v 5))))) [a, b] s = some ((ownC cs [a, b]).map .str, s) := by
      rw [← ownF_map]
      refine lc_map fun x hx => own_turn ?_ cs _ 11 5 (.list (cs.map .str)) (fun x => rfl) (fun x => rfl) (fun n => in_strsL n cs) s
      rcases List.mem_cons.mp hx with e | e
      · subst e; exact ha
      · rcases List.mem_cons.mp e with e | e
        · subst e; exact hb
        · cases e
    have l2 : lcLoop (lcT Φ Tb.G [.fz (.tuple [.str "same", a, b]), .fz q.toD, .fz (tablesD rows), .fz (countsD m), .fz (.str "same"), .fz (.list (cs.map .str)), .fz (.list ((ownC cs [a, b]).map .str)), .no, .no, .no, .no, .no, .no] [11] (.v 11) (.nm 11) (.yes (.cmp .isin (.ix (.v 11) (.int 0)) (.tup (.cons (.str "num") (.cons (.str "text") .nil)))))) [a, b] s = some ([a, b].filter kN, s) := by
      rw [← kn_filt]
      refine lc_map fun x hx => kn_turn ?_ _ 11 (fun x => rfl) s
      rcases List.mem_cons.mp hx with e | e
      · subst e; exact ha
      · rcases List.mem_cons.mp e with e | e
        · subst e; exact hb
        · cases e
    have le2 : (ownC cs [a, b]).length + ([a, b].filter kN).length ≤ 2 := by
      have e1 : ownC cs [a, b] = ownC cs [a] ++ ownC cs [b] := by
        unfold ownC; rw [show [a, b] = [a] ++ [b] from rfl, List.filterMap_append]
      have e2 : [a, b].filter kN = [a].filter kN ++ [b].filter kN := by rw [show [a, b] = [a] ++ [b] from rfl, List.filter_append]
      rw [e1, e2, List.length_append, List.length_append]
      have := kn_le cs a
      have := kn_le cs b
      omega
    generalize how : ownC cs [a, b] = ow at *
    generalize hkn : [a, b].filter kN = kn at *
    have owm : ∀ c ∈ ow, c ∈ cs := by rw [← how]; exact own_mem
    have lay := lay_names fun c hc => hn c (owm c hc)
    have l3 : lcLoop (lcT Φ Tb.G [.fz (.tuple [.str "same", a, b]), .fz q.toD, .fz (tablesD rows), .fz (countsD m), .fz (.str "same"), .fz (.list (cs.map .str)), .fz (.list (ow.map .str)), .fz (.list kn), .no, .no, .no, .no, .no] [12] (.call "_law_unlike" (.cons (.v 12) (.cons (.v 1) (.cons (.v 2) (.cons (.v 3) .nil))))) (.nm 12) .no) (ow.map .str) s = some (ow.map (fun c => .int (u c)), s) :=
      lc_eachM fun c hc => by
        have := (un c (owm c hc) s).use e (Nat.le_refl _)
        simp [lcT, wipeE, this]
    have i1 := ints_map u ow
    have key : sh cs u (.same a b) = if ow.length + kn.length ≠ 2 ∨ ow = [] then (1, 2) else nrm 1 (mxL (ow.map u)) := by
      unfold sh; rw [how, hkn]
    have he := eq_nilE lay
    rw [key]
    unfold Tb.f__law_part Tb.b__law_part
    by_cases c2 : ow = []
    · have e0 : isE ow = true := decide_eq_true c2
      rw [e0] at he
      rw [if_pos (.inr c2)]
      simp [inD, flatD, ↓h1, l1, l2, seqOf, bltD, he, pr]
    · have e0 : isE ow = false := decide_eq_false c2
      rw [e0] at he
      by_cases c1 : (ow.length : Int) + kn.length < 2
      · have c1' : ow.length + kn.length ≠ 2 := by omega
        rw [if_pos (.inl c1')]
        simp [inD, flatD, ↓h1, l1, l2, seqOf, bltD, he, c1, pr]
      · have c1' : ow.length + kn.length = 2 := by omega
        rw [if_neg (by rintro (h | h); exact h c1'; exact c2 h)]
        have mem := mxL_mem (xs := ow.map u) (by simpa using c2)
        obtain ⟨c, _, hc⟩ := List.mem_map.mp mem
        obtain ⟨b1, b2⟩ := hu c
        rw [hc] at b1 b2
        have pp : (2 : Int) ^ 60 < 2 ^ 9000 := by
          have := pow_mono (show 61 ≤ 9000 by decide)
          have e : (2 : Int) ^ 61 = 2 * 2 ^ 60 := by decide
          have p := pow_pos 60
          omega
        have fr := (run_lf 1 (mxL (ow.map u)) (by omega) (by omega) s).use e (by omega)
        have mo := maxOf_eq (xs := ow.map u) (by simpa using c2)
        simp [inD, flatD, ↓h1, l1, l2, l3, seqOf, bltD, he, c1, i1, mo, fr]
  | oth tag rest =>
    intro s ok _
    refine Run.mono (N := N + 1) (Run.of T_part rfl rfl fun Φ e => ?_) (by simp [Ts.lv])
    rw [st, Ts.toD]
    unfold Tb.f__law_part Tb.b__law_part
    rcases ok with rfl | rfl | rfl | rfl <;> simp [inD, flatD, bltD, sh, pr]
  | not t ih =>
    intro s ok hl
    refine Run.mono (N := N + 1 + t.lv + 1) (Run.of T_part rfl rfl fun Φ e => ?_) (by simp [Ts.lv] <;> omega)
    have h := (ih s ok (by simp [Ts.lv] at hl; omega)).use e (by omega)
    have p := sh_pw (cs := cs) hu (t := t) (by simp [Ts.lv] at hl; omega)
    have h2 := (run_lm pw_one (p.1.w (by decide)) s).use e (by omega)
    rw [st, Ts.toD]
    unfold Tb.f__law_part Tb.b__law_part
    simp only [pr] at h h2 ⊢
    simp [inD, flatD, h, h2, sh]
  | and a b iha ihb =>
    intro s ok hl
    refine Run.mono (N := N + 1 + max a.lv b.lv + 1) (Run.of T_part rfl rfl fun Φ e => ?_) (by simp [Ts.lv] <;> omega)
    have hla : a.lv ≤ 4 := by simp [Ts.lv] at hl; omega
    have hlb : b.lv ≤ 4 := by simp [Ts.lv] at hl; omega
    have h1 := (iha s ok.1 hla).use e (by omega)
    have h2 := (ihb s ok.2 hlb).use e (by omega)
    have pa := sh_pw (cs := cs) hu hla
    have pb := sh_pw (cs := cs) hu hlb
    have h3 := (run_lt (pa.1.w (by decide)) (pb.1.w (by decide)) s).use e (by omega)
    have h4 := (run_ll pw_one ((tms_pb pa.1 pb.1).w (by decide)) s).use e (by omega)
    rw [and_eq pa.1 pb.1 pa.2 pb.2] at h4
    have w : (PyData.tuple [.int 1, .int 1]) = pr (1, 1) := rfl
    rw [← w] at h4
    rw [st, Ts.toD]
    unfold Tb.f__law_part Tb.b__law_part
    simp [inD, flatD, setCs, h1, h2, h3, h4, sh]
  | or a b iha ihb =>
    intro s ok hl
    refine Run.mono (N := N + 1 + max a.lv b.lv + 1) (Run.of T_part rfl rfl fun Φ e => ?_) (by simp [Ts.lv] <;> omega)
    have hla : a.lv ≤ 4 := by simp [Ts.lv] at hl; omega
    have hlb : b.lv ≤ 4 := by simp [Ts.lv] at hl; omega
    have h1 := (iha s ok.1 hla).use e (by omega)
    have h2 := (ihb s ok.2 hlb).use e (by omega)
    have pa := sh_pw (cs := cs) hu hla
    have pb := sh_pw (cs := cs) hu hlb
    have h3 := (run_la (pa.1.w (by decide)) (pb.1.w (by decide)) s).use e (by omega)
    have h4 := (run_ll pw_one ((pls_pb pa.1 pb.1).w (by decide)) s).use e (by omega)
    have w : (PyData.tuple [.int 1, .int 1]) = pr (1, 1) := rfl
    rw [← w] at h4
    have key : sh cs u (.or a b) = if lss (1, 1) (pls (sh cs u a) (sh cs u b)) = true then (1, 1) else pls (sh cs u a) (sh cs u b) := (or_eq pa.1 pb.1).symm
    rw [st, Ts.toD, key]
    unfold Tb.f__law_part Tb.b__law_part
    cases hc : lss (1, 1) (pls (sh cs u a) (sh cs u b)) with
    | false =>
      rw [hc] at h4
      simp [inD, flatD, setCs, h1, h2, h3, h4]
    | true =>
      rw [hc] at h4
      simp [inD, flatD, setCs, h1, h2, h3, h4]
      rfl
end Pure

set_option Elab.async false
set_option linter.all false
set_option maxRecDepth 100000
set_option maxHeartbeats 4000000
set_option autoImplicit false
set_option exponentiation.threshold 20000
/-! K6: what a column comes from; unlike_in. -/
namespace Pure
open PySem PL
def src (c : Str) : Qn → Qn
  | .take b al => .take b al
  | .wher _ q => src c q
  | .join _ _ p q => if c ∈ p.cols then src c p else src c q
  | .make r q => .make r q
  | .two _ p _ => src c p
  | .once q => src c q
  | .group k f q => .group k f q
  | .tops _ _ q => src c q
@[simp] theorem atm2 (a b : D) : L2.atI [a, b] (-1) = some b := rfl
@[simp] theorem atm3 (a b c : D) : L2.atI [a, b, c] (-1) = some c := rfl
@[simp] theorem atm4 (a b c d : D) : L2.atI [a, b, c, d] (-1) = some d := rfl
@[simp] theorem in2 (x a0 a1 : Str) : inD (.str x) (.tuple [.str a0, .str a1]) = some (decide (x = a0) || (decide (x = a1))) := by
  have e : ∀ a : Str, decide (a = x) = decide (x = a) := fun a => decide_eq_decide.mpr ⟨Eq.symm, Eq.symm⟩
  simp [inD, flatD, e]
@[simp] theorem in3 (x a0 a1 a2 : Str) : inD (.str x) (.tuple [.str a0, .str a1, .str a2]) = some (decide (x = a0) || (decide (x = a1) || (decide (x = a2)))) := by
  have e : ∀ a : Str, decide (a = x) = decide (x = a) := fun a => decide_eq_decide.mpr ⟨Eq.symm, Eq.symm⟩
  simp [inD, flatD, e]
@[simp] theorem in4 (x a0 a1 a2 a3 : Str) : inD (.str x) (.tuple [.str a0, .str a1, .str a2, .str a3]) = some (decide (x = a0) || (decide (x = a1) || (decide (x = a2) || (decide (x = a3))))) := by
  have e : ∀ a : Str, decide (a = x) = decide (x = a) := fun a => decide_eq_decide.mpr ⟨Eq.symm, Eq.symm⟩
  simp [inD, flatD, e]
@[simp] theorem in6 (x a0 a1 a2 a3 a4 a5 : Str) : inD (.str x) (.tuple [.str a0, .str a1, .str a2, .str a3, .str a4, .str a5]) = some (decide (x = a0) || (decide (x = a1) || (decide (x = a2) || (decide (x = a3) || (decide (x = a4) || (decide (x = a5))))))) := by
  have e : ∀ a : Str, decide (a = x) = decide (x = a) := fun a => decide_eq_decide.mpr ⟨Eq.symm, Eq.symm⟩
  simp [inD, flatD, e]
theorem T_cf : Tb.T "comes_from" = some Tb.f_comes_from := by kernel_rfl
theorem T_unl : Tb.T "unlike_in" = some Tb.f_unlike_in := by kernel_rfl
theorem T_asked : Tb.T "asked_columns" = some Tb.f_asked_columns := by kernel_rfl
theorem T_lunl : Tb.T "_law_unlike" = some Tb.f__law_unlike := by kernel_rfl
theorem run_cf (c : Str) (q : Qn) : ∀ s, q.Ok → R (q.dep + 3) "comes_from" [.str c, q.toD, schemasD] s ((src c q).toD, s) := by
  have st : ∀ x, Tb.f_comes_from.start [.str c, x, schemasD] = [.fz (.str c), .fz x, .fz schemasD, .no, .no] := fun x => rfl
  induction q with
  | take b al =>
    intro s ok
    refine Run.mono (N := 0 + 1) (Run.of T_cf rfl rfl fun Φ e => ?_) (by omega)
    rw [st, src, Qn.toD]
    unfold Tb.f_comes_from Tb.b_comes_from
    simp
  | make r q ih =>
    intro s ok
    refine Run.mono (N := 0 + 1) (Run.of T_cf rfl rfl fun Φ e => ?_) (by omega)
    rw [st, src, Qn.toD]
    unfold Tb.f_comes_from Tb.b_comes_from
    simp
  | group k f q ih =>
    intro s ok
    refine Run.mono (N := 0 + 1) (Run.of T_cf rfl rfl fun Φ e => ?_) (by omega)
    rw [st, src, Qn.toD]
    unfold Tb.f_comes_from Tb.b_comes_from
    simp
  | wher t q ih =>
    intro s ok
    refine Run.mono (N := q.dep + 3 + 1) (Run.of T_cf rfl rfl fun Φ e => ?_) (by simp [Qn.dep])
    have h := (ih s ok.2).use e (Nat.le_refl _)
    rw [st, src, Qn.toD]
    unfold Tb.f_comes_from Tb.b_comes_from
    simp [h]
  | once q ih =>
    intro s ok
    refine Run.mono (N := q.dep + 3 + 1) (Run.of T_cf rfl rfl fun Φ e => ?_) (by simp [Qn.dep])
    have h := (ih s ok).use e (Nat.le_refl _)
    rw [st, src, Qn.toD]
    unfold Tb.f_comes_from Tb.b_comes_from
    simp [h]
  | tops n o q ih =>
    intro s ok
    refine Run.mono (N := q.dep + 3 + 1) (Run.of T_cf rfl rfl fun Φ e => ?_) (by simp [Qn.dep])
    have h := (ih s ok.2.2).use e (Nat.le_refl _)
    rw [st, src, Qn.toD]
    unfold Tb.f_comes_from Tb.b_comes_from
    simp [h]
  | two tag p q ihp ihq =>
    intro s ok
    refine Run.mono (N := p.dep + 3 + 1) (Run.of T_cf rfl rfl fun Φ e => ?_) (by simp [Qn.dep] <;> omega)
    have h := (ihp s ok.2.1).use e (Nat.le_refl _)
    rw [st, src, Qn.toD]
    unfold Tb.f_comes_from Tb.b_comes_from
    obtain ⟨ht, _⟩ := ok
    rcases ht with rfl | rfl | rfl <;> simp [h]
  | join w t p q ihp ihq =>
    intro s ok
    obtain ⟨hw, _, okp, okq, hl⟩ := ok
    refine Run.mono (N := max p.dep q.dep + 3 + 1) (Run.of T_cf rfl rfl fun Φ e => ?_) (by simp [Qn.dep])
    have hc := (run_cols p s okp).use e (by omega)
    rw [st, src, Qn.toD]
    unfold Tb.f_comes_from Tb.b_comes_from
    by_cases m : c ∈ p.cols
    · have h := (ihp s okp).use e (by omega)
      simp [hc, in_strs, m, h]
    · have h := (ihq s okq).use e (by omega)
      simp [hc, in_strs, m, h]

/-! ### unlike_in -/
theorem split_al : ∀ al ∈ als, ∀ b : Bool, ∀ k ∈ colsOf b, Txt.split (al ++ Str.ofString "." ++ k) (Str.ofString ".") = [al, k] := by decide +kernel
theorem find_al : ∀ al ∈ als, ∀ b : Bool, ∀ k ∈ colsOf b, (colsOf b).find? (fun k' => decide (al ++ Str.ofString "." ++ k' = al ++ Str.ofString "." ++ k)) = some k := by decide +kernel
theorem len_al : ∀ al ∈ als, ∀ b : Bool, ∀ k ∈ colsOf b, (al ++ Str.ofString "." ++ k).length = 3 := by decide +kernel
theorem sem_src (m : Cn) (c : Str) (q : Qn) : (sem m q).2 c = (sem m (src c q)).2 c := by
  induction q with
  | take b al => rfl
  | make r q ih => rfl
  | group k f q ih => rfl
  | wher t q ih => exact ih
  | once q ih => exact ih
  | tops n o q ih => exact ih
  | two tag p q ihp ihq => exact ihp
  | join w t p q ihp ihq =>
    show (if c ∈ p.cols then (sem m p).2 c else (sem m q).2 c) = (sem m (if c ∈ p.cols then src c p else src c q)).2 c
    by_cases h : c ∈ p.cols
    · rw [if_pos h, if_pos h]; exact ihp
    · rw [if_neg h, if_neg h]; exact ihq
theorem src_ok (c : Str) (q : Qn) : q.Ok → c ∈ q.cols → (src c q).Ok ∧ c ∈ (src c q).cols ∧ (src c q).dep ≤ q.dep ∧ ((∃ b al, src c q = .take b al) ∨ (∃ r p, src c q = .make r p) ∨ ∃ k f p, src c q = .group k f p) := by
  induction q with
  | take b al => exact fun h1 h2 => ⟨h1, h2, Nat.le_refl _, .inl ⟨b, al, rfl⟩⟩
  | make r q ih => exact fun h1 h2 => ⟨h1, h2, Nat.le_refl _, .inr (.inl ⟨r, q, rfl⟩)⟩
  | group k f q ih => exact fun h1 h2 => ⟨h1, h2, Nat.le_refl _, .inr (.inr ⟨k, f, q, rfl⟩)⟩
  | wher t q ih => 
    intro h1 h2
    obtain ⟨a, b, d, e⟩ := ih h1.2 h2
    exact ⟨a, b, by simp only [src, Qn.dep]; omega, e⟩
  | once q ih => 
    intro h1 h2
    obtain ⟨a, b, d, e⟩ := ih h1 h2
    exact ⟨a, b, by simp only [src, Qn.dep]; omega, e⟩
  | tops n o q ih => 
    intro h1 h2
    obtain ⟨a, b, d, e⟩ := ih h1.2.2 h2
    exact ⟨a, b, by simp only [src, Qn.dep]; omega, e⟩
  | two tag p q ihp ihq => 
    intro h1 h2
    obtain ⟨a, b, d, e⟩ := ihp h1.2.1 h2
    exact ⟨a, b, by simp only [src, Qn.dep]; omega, e⟩
  | join w t p q ihp ihq =>
    intro h1 h2
    obtain ⟨hw, _, okp, okq, hl⟩ := h1
    by_cases h : c ∈ p.cols
    · obtain ⟨a, b, d, e⟩ := ihp okp h
      simp only [src, if_pos h, Qn.dep]
      exact ⟨a, b, by omega, e⟩
    · have hq : c ∈ q.cols := by
        unfold Qn.cols at h2
        split at h2
        · rcases List.mem_append.mp h2 with z | z
          · exact (h z).elim
          · exact z
        · exact (h h2).elim
      obtain ⟨a, b, d, e⟩ := ihq okq hq
      simp only [src, if_neg h, Qn.dep]
      exact ⟨a, b, by omega, e⟩
theorem src_ask (c : Str) (q : Qn) (h1 : q.Ok) (h2 : c ∈ askC q) : (src c q).Ok ∧ c ∈ (src c q).cols ∧ (src c q).dep ≤ q.dep ∧ ((∃ b al, src c q = .take b al) ∨ (∃ r p, src c q = .make r p) ∨ ∃ k f p, src c q = .group k f p) := by
  cases q with
  | join w t p q =>
    obtain ⟨hw, _, okp, okq, hl⟩ := h1
    by_cases h : c ∈ p.cols
    · obtain ⟨a, b, d, e⟩ := src_ok c p okp h
      simp only [src, if_pos h, Qn.dep]
      exact ⟨a, b, by omega, e⟩
    · have hq : c ∈ q.cols := (List.mem_append.mp h2).elim (fun z => (h z).elim) id
      obtain ⟨a, b, d, e⟩ := src_ok c q okq hq
      simp only [src, if_neg h, Qn.dep]
      exact ⟨a, b, by omega, e⟩
  | take b al => exact src_ok c _ h1 h2
  | wher t q => exact src_ok c _ h1 h2
  | make r q => exact src_ok c _ h1 h2
  | two tag p q => exact src_ok c _ h1 h2
  | once q => exact src_ok c _ h1 h2
  | group k f q => exact src_ok c _ h1 h2
  | tops n o q => exact src_ok c _ h1 h2
theorem cnt_get (m : Cn) (b : Bool) : ixD (countsD m) (.str (tn b)) = some (cntD m b) := by
  cases b <;> simp [countsD, tn]
theorem col_get (m : Cn) (b : Bool) : ∀ k ∈ colsOf b, dGet ((colsOf b).map fun c => (PyData.str c, PyData.int (m.c b c))) (.inr k) = some (.int (m.c b k)) := by
  cases b with
  | true =>
    intro k hk
    have hk' : k = Str.ofString "k" ∨ k = Str.ofString "x" ∨ k = Str.ofString "s" := by simpa [colsOf] using hk
    rcases hk' with rfl | rfl | rfl <;> simp [colsOf]
  | false =>
    intro k hk
    have hk' : k = Str.ofString "k" ∨ k = Str.ofString "t" ∨ k = Str.ofString "y" ∨ k = Str.ofString "z" := by simpa [colsOf] using hk
    rcases hk' with rfl | rfl | rfl | rfl <;> simp [colsOf]
theorem run_unl {m : Cn} {q : Qn} {c : Str} {N : Nat} (ok : q.Ok) (hc : c ∈ askC q) (hN : q.dep + 3 ≤ N) (hg : (∀ b al, src c q ≠ .take b al) → ∀ s, R N "guess" [(src c q).toD, schemasD, countsD m] s (pr (sem m (src c q)).1, s)) (hp : Pw (sem m (src c q)).1) (s : W) :
    R (N + 1) "unlike_in" [.str c, q.toD, schemasD, countsD m] s (.int ((sem m q).2 c), s) := by
  have st : Tb.f_unlike_in.start [.str c, q.toD, schemasD, countsD m] = [.fz (.str c), .fz q.toD, .fz schemasD, .fz (countsD m), .no] := rfl
  refine Run.of T_unl rfl rfl fun Φ e => ?_
  have h1 := (run_cf c q s ok).use e hN
  have h2 := (run_upward hp s).use e (by omega)
  obtain ⟨sok, sc, _, k⟩ := src_ask c q ok hc
  rw [st, sem_src]
  unfold Tb.f_unlike_in Tb.b_unlike_in
  rcases k with ⟨b, al, hs⟩ | ⟨r, p, hs⟩ | ⟨k, f, p, hs⟩
  · rw [hs] at sok sc h1 ⊢
    have sc' : c ∈ (colsOf b).map fun k => al ++ Str.ofString "." ++ k := sc
    obtain ⟨k, hk, rfl⟩ := List.mem_map.mp sc'
    have al' : al ∈ als := sok
    have e1 := split_al al al' b k hk
    have e2 := len_al al al' b k hk
    have e3 : (sem m (.take b al)).2 (al ++ Str.ofString "." ++ k) = mx1 (m.c b k) := by
      show unlT m b al (al ++ Str.ofString "." ++ k) = _
      unfold unlT
      rw [find_al al al' b k hk]
    rw [e3]
    rw [Qn.toD] at h1
    have d1 : ((Str.ofString ".").length == 0) = false := by decide +kernel
    have l1 : lineOk (3 + 2) = true := line_of (by decide)
    have g1 := cnt_get m b
    have g2 := col_get m b k hk
    simp [h1, g1, cntD, g2, e1, e2, d1, l1, bltD, mx1]
  · have h3 := (hg (by intro b al z; rw [hs] at z; cases z) s).use e (by omega)
    rw [hs] at h1 h2 h3 ⊢
    rw [Qn.toD] at h1 h3
    have e3 : (sem m (.make r p)).2 c = mx1 (up (sem m (.make r p)).1) := rfl
    rw [e3]
    simp [h1, h3, h2, bltD, mx1]
  · have h3 := (hg (by intro b al z; rw [hs] at z; cases z) s).use e (by omega)
    rw [hs] at h1 h2 h3 ⊢
    rw [Qn.toD] at h1 h3
    have e3 : (sem m (.group k f p)).2 c = mx1 (up (sem m (.group k f p)).1) := rfl
    rw [e3]
    simp [h1, h3, h2, bltD, mx1]
end Pure

set_option Elab.async false
set_option linter.all false
set_option maxRecDepth 100000
set_option maxHeartbeats 4000000
set_option autoImplicit false
set_option exponentiation.threshold 20000
/-! K7: guess. -/
namespace Pure
open PySem PL
theorem T_guess : Tb.T "guess" = some Tb.f_guess := by kernel_rfl
theorem T_gj : Tb.T "guess_join" = some Tb.f_guess_join := by kernel_rfl
theorem T_gg : Tb.T "guess_group" = some Tb.f_guess_group := by kernel_rfl
structure SBs (x : (Int × Int) × (Str → Int)) : Prop where
  pb : Pb 2000 x.1
  u : ∀ c, 1 ≤ x.2 c ∧ x.2 c ≤ 2 ^ 60
def Fit (m : Cn) : Qn → Prop
  | .take b al => SBs (sem m (.take b al))
  | .wher t q => SBs (sem m (.wher t q)) ∧ t.lv ≤ 4 ∧ Fit m q
  | .join w t p q => SBs (sem m (.join w t p q)) ∧ t.lv ≤ 4 ∧ Fit m p ∧ Fit m q
  | .make r q => SBs (sem m (.make r q)) ∧ Fit m q
  | .two tag p q => SBs (sem m (.two tag p q)) ∧ Fit m p ∧ Fit m q
  | .once q => SBs (sem m (.once q)) ∧ Fit m q
  | .group k f q => SBs (sem m (.group k f q)) ∧ k.length ≤ 2 ∧ Fit m q
  | .tops n o q => SBs (sem m (.tops n o q)) ∧ Fit m q
theorem Fit.s {m : Cn} {q : Qn} (h : Fit m q) : SBs (sem m q) := by
  cases q <;> first | exact h | exact h.1
theorem Fit.src {m : Cn} (c : Str) {q : Qn} : Fit m q → Fit m (src c q) := by
  induction q with
  | take b al => exact id
  | make r q ih => exact id
  | group k f q ih => exact id
  | wher t q ih => exact fun h => ih h.2.2
  | once q ih => exact fun h => ih h.2
  | tops n o q ih => exact fun h => ih h.2
  | two tag p q ihp ihq => exact fun h => ihp h.2.1
  | join w t p q ihp ihq =>
    intro h
    unfold Pure.src
    split
    · exact ihp h.2.2.1
    · exact ihq h.2.2.2
theorem cols_ask {q : Qn} {c : Str} (h : c ∈ q.cols) : c ∈ askC q := by
  cases q with
  | join w t p q =>
    unfold Qn.cols at h
    unfold askC
    split at h
    · exact h
    · exact List.mem_append.mpr (.inl h)
  | _ => exact h
theorem lay_al : ∀ al ∈ als, ∀ b : Bool, ∀ k ∈ colsOf b, PyData.canLay0 (.str (al ++ Str.ofString "." ++ k)) = true := by decide +kernel
theorem nm_cols (q : Qn) : q.Ok → ∀ c ∈ q.cols, NmOk c := by
  induction q with
  | take b al =>
    intro ok c hc
    have hc' : c ∈ (colsOf b).map fun k => al ++ Str.ofString "." ++ k := hc
    obtain ⟨k, hk, rfl⟩ := List.mem_map.mp hc'
    exact lay_al al ok b k hk
  | make r q ih =>
    intro ok c hc
    obtain ⟨x, hx, rfl⟩ := List.mem_map.mp (show c ∈ r.map (·.1) from hc)
    exact ok.1 x hx
  | group k f q ih =>
    intro ok c hc
    rcases List.mem_append.mp (show c ∈ k.map (·.1) ++ f.map (·.1) from hc) with h | h
    · obtain ⟨x, hx, rfl⟩ := List.mem_map.mp h
      exact (ok.1 x hx).2.2
    · obtain ⟨x, hx, rfl⟩ := List.mem_map.mp h
      exact ok.2.2.1 x hx
  | wher t q ih => exact fun ok => ih ok.2
  | once q ih => exact fun ok => ih ok
  | tops n o q ih => exact fun ok => ih ok.2.2
  | two tag p q ihp ihq => exact fun ok => ihp ok.2.1
  | join w t p q ihp ihq =>
    intro ok c hc
    unfold Qn.cols at hc
    split at hc
    · rcases List.mem_append.mp hc with h | h
      · exact ihp ok.2.2.1 c h
      · exact ihq ok.2.2.2.1 c h
    · exact ihp ok.2.2.1 c hc
theorem nm_ask {q : Qn} (ok : q.Ok) : ∀ c ∈ askC q, NmOk c := by
  cases q with
  | join w t p q =>
    intro c hc
    rcases List.mem_append.mp (show c ∈ p.cols ++ q.cols from hc) with h | h
    · exact nm_cols p ok.2.2.1 c h
    · exact nm_cols q ok.2.2.2.1 c h
  | _ => exact nm_cols _ ok
theorem run_asked (q : Qn) (s : W) (ok : q.Ok) : R (q.dep + 3) "asked_columns" [q.toD, schemasD] s (.tuple ((askC q).map .str), s) := by
  have st : ∀ x, Tb.f_asked_columns.start [x, schemasD] = [.fz x, .fz schemasD] := fun x => rfl
  refine Run.of T_asked rfl rfl fun Φ e => ?_
  rw [st]
  unfold Tb.f_asked_columns Tb.b_asked_columns
  cases q with
  | join w t p q =>
    obtain ⟨hw, _, okp, okq, hl⟩ := ok
    have h1 := (run_cols p s okp).use e (by simp only [Qn.dep]; omega)
    have h2 := (run_cols q s okq).use e (by simp only [Qn.dep]; omega)
    have l1 : lineOk (p.cols.length + q.cols.length) = true := line_of (by omega)
    rw [Qn.toD]
    simp [h1, h2, l1, askC]
  | take b al => have h1 := (run_cols _ s ok).use e (Nat.le_refl _); rw [Qn.toD] at h1 ⊢; simp [h1, askC]
  | wher t q => have h1 := (run_cols _ s ok).use e (Nat.le_refl _); rw [Qn.toD] at h1 ⊢; simp [h1, askC]
  | make r q => have h1 := (run_cols _ s ok).use e (Nat.le_refl _); rw [Qn.toD] at h1 ⊢; simp [h1, askC]
  | two tag p q =>
    have h1 := (run_cols _ s ok).use e (Nat.le_refl _)
    rw [Qn.toD] at h1 ⊢
    obtain ⟨ht, _⟩ := ok
    rcases ht with rfl | rfl | rfl <;> simp [h1, askC]
  | once q => have h1 := (run_cols _ s ok).use e (Nat.le_refl _); rw [Qn.toD] at h1 ⊢; simp [h1, askC]
  | group k f q => have h1 := (run_cols _ s ok).use e (Nat.le_refl _); rw [Qn.toD] at h1 ⊢; simp [h1, askC]
  | tops n o q => have h1 := (run_cols _ s ok).use e (Nat.le_refl _); rw [Qn.toD] at h1 ⊢; simp [h1, askC]
/-- one key of a group -/
def gstep (w : Int × Int) (u : Str → Int) (cs : List Str) (acc : Int × Int) (k : Str × D) : Int × Int := match cN k.2 with
  | some n => if n ∈ cs then tms acc (u n, 1) else tms acc w
  | none => tms acc w
theorem gstep_pb {w acc : Int × Int} {u : Str → Int} {cs : List Str} {j : Nat} (hw : Pb 2000 w) (hu : ∀ c, 1 ≤ u c ∧ u c ≤ 2 ^ 60) (ha : Pb j acc) (k : Str × D) : Pb (j + 2000) (gstep w u cs acc k) := by
  have hun : ∀ n, Pb 2000 (u n, 1) := fun n => by
    obtain ⟨h1, h2⟩ := hu n
    have p := pow_mono (show 61 ≤ 2000 by decide)
    have e : (2 : Int) ^ 61 = 2 * 2 ^ 60 := by decide
    have q := pow_pos 60
    exact ⟨by show 0 ≤ u n; omega, by show (0 : Int) < 1; decide, by show u n < _; omega, by show (1 : Int) < _; omega⟩
  unfold gstep
  split
  · split
    · exact tms_pb ha (hun _)
    · exact tms_pb ha hw
  · exact tms_pb ha hw

/-- guess as the induction has it, and what follows for a column -/
def GR (m : Cn) (q : Qn) : Prop := ∀ s, R (12 * q.dep + 8) "guess" [q.toD, schemasD, countsD m] s (pr (sem m q).1, s)
theorem unl_of {m : Cn} {q : Qn} {c : Str} {d : Nat} (ok : q.Ok) (fit : Fit m q) (hc : c ∈ askC q) (hd : (src c q).dep ≤ d) (hq : q.dep ≤ d + 1) (g : GR m (src c q)) (s : W) : R (12 * d + 9) "unlike_in" [.str c, q.toD, schemasD, countsD m] s (.int ((sem m q).2 c), s) :=
  run_unl ok hc (by omega) (fun _ s => (g s).mono (by omega)) ((fit.src c).s.pb.w (by decide)) s
theorem key_turn {Φ : Fn} {m : Cn} {q : Qn} {u : Str → Int} {w acc : Int × Int} {N : Nat} {s : W} {k : Str × D} {c0 c1 c2 c3 c4 : Cell} (e : L N Φ) (hN : 3 ≤ N) (un : ∀ c ∈ q.cols, ∀ s, R N "unlike_in" [.str c, q.toD, schemasD, countsD m] s (.int (u c), s)) (hk : TmOk k.2) (ha : Pw acc) (hw : Pw w) (hu : ∀ c, Pw (u c, 1)) :
    forT Φ Tb.G gf (.tup [3, 9]) (.cons (.ite (.and (.cmp .eq (.ix (.v 9) (.int 0)) (.str "col")) (.cmp .isin (.ix (.v 9) (.int 1)) (.v 8))) (.cons (.asg (.nm 7) (.call "times" (.cons (.v 7) (.cons (.tup (.cons (.call "unlike_in" (.cons (.ix (.v 9) (.int 1)) (.cons (.v 5) (.cons (.v 1) (.cons (.v 2) .nil))))) (.cons (.int 1) .nil))) .nil)))) .nil) (.cons (.asg (.nm 7) (.call "times" (.cons (.v 7) (.cons (.v 6) .nil)))) .nil)) .nil)
      (row2 k) [c0, .fz schemasD, .fz (countsD m), c1, c2, .fz q.toD, .fz (pr w), .fz (pr acc), .fz (.tuple (q.cols.map .str)), c3] s =
    some (.nx [c0, .fz schemasD, .fz (countsD m), .fz (.str k.1), c2, .fz q.toD, .fz (pr w), .fz (pr (gstep w u q.cols acc k)), .fz (.tuple (q.cols.map .str)), .fz k.2], s) := by
  obtain ⟨kn, kt⟩ := k
  obtain ⟨tag, rest, rfl, _, h | h⟩ := tm_read hk
  · obtain ⟨rfl, n, rfl, hn⟩ := h
    by_cases mm : n ∈ q.cols
    · have h1 := (un n mm s).use e (Nat.le_refl _)
      have h2 := (run_times ha (hu n) s).use e hN
      have g : gstep w u q.cols acc (kn, .tuple [.str "col", .str n]) = tms acc (u n, 1) := by unfold gstep; simp only [hn]; rw [if_pos mm]
      rw [g]
      have pe : pr (u n, 1) = .tuple [.int (u n), .int 1] := rfl
      rw [pe] at h2
      simp [forT, row2, in_strs, mm, h1, h2]
    · have h2 := (run_times ha hw s).use e hN
      have g : gstep w u q.cols acc (kn, .tuple [.str "col", .str n]) = tms acc w := by unfold gstep; simp only [hn]; rw [if_neg mm]
      rw [g]
      simp [forT, row2, in_strs, mm, h2]
  · obtain ⟨ne, hn⟩ := h
    have h2 := (run_times ha hw s).use e hN
    have g : gstep w u q.cols acc (kn, .tuple (.str tag :: rest)) = tms acc w := by unfold gstep; simp only [hn]
    rw [g]
    simp [forT, row2, ne, h2]
theorem eq_nilT {ks : List (Str × D)} (h : ∀ k ∈ ks, PyData.canLay0 k.2 = true ∧ PyData.canLay0 (.str k.1) = true) : cmpD .eq (.tuple (ks.map row2)) (.tuple []) = some (decide (ks = [])) := by
  have lay : PyData.canLayAll0 (ks.map row2) = true := by
    induction ks with
    | nil => rfl
    | cons k ks ih =>
      simp only [List.map_cons, PyData.canLayAll0, Bool.and_eq_true]
      refine ⟨?_, ih fun x hx => h x (List.mem_cons_of_mem _ hx)⟩
      have := h k List.mem_cons_self
      simp [row2, PyData.canLay0, PyData.canLayAll0] at this ⊢
      exact ⟨this.2, this.1⟩
  have e : PyData.eqv (.tuple (ks.map row2)) (.tuple []) = decide (ks = []) := by
    cases ks <;> simp [PyData.eqv, PyData.eqvAll]
  have e2 : min (PyData.depth (.tuple (ks.map row2))) (PyData.depth (.tuple [])) ≤ 64 := by
    have : PyData.depth (.tuple []) = 1 := rfl
    omega
  unfold cmpD eqOk
  simp only [scalD, PyData.canLay0, PyData.canLayAll0, lay, Bool.true_and, Bool.false_or, e, e2, decide_true, if_true]
theorem grp_two {keys : List (Str × D)} (w : Int × Int) (u : Str → Int) (cs : List Str) : grpM keys w u cs = keys.foldl (gstep w u cs) (1, 1) := rfl
theorem run_gg {m : Cn} {keys : List (Str × D)} {folds : List (Str × List D)} {q : Qn} {N : Nat} (ok : (Qn.group keys folds q).Ok) (fit : Fit m (.group keys folds q)) (hN : q.dep + 3 ≤ N) (g : ∀ s, R N "guess" [q.toD, schemasD, countsD m] s (pr (sem m q).1, s)) (un : ∀ c ∈ q.cols, ∀ s, R N "unlike_in" [.str c, q.toD, schemasD, countsD m] s (.int ((sem m q).2 c), s)) (s : W) :
    R (N + 1) "guess_group" [(Qn.group keys folds q).toD, schemasD, countsD m] s (pr (grp keys (sem m q).1 (sem m q).2 q.cols), s) := by
  have st : ∀ x, Tb.f_guess_group.start [x, schemasD, countsD m] = [.fz x, .fz schemasD, .fz (countsD m), .no, .no, .no, .no, .no, .no, .no] := fun x => rfl
  refine Run.of T_gg rfl rfl fun Φ e => ?_
  obtain ⟨hk, _, _, okq⟩ := ok
  obtain ⟨_, hl, fq⟩ := fit
  have h1 := (g s).use e (Nat.le_refl _)
  have h2 := (run_cols q s okq).use e (by omega)
  have eqn := eq_nilT (ks := keys) fun k hk' => (hk k hk').2
  have pw := fq.s.pb
  have pu : ∀ c, Pw ((sem m q).2 c, 1) := fun c => by
    obtain ⟨h1, h2⟩ := fq.s.u c
    have p := pow_mono (show 61 ≤ 2000 by decide)
    have e : (2 : Int) ^ 61 = 2 * 2 ^ 60 := by decide
    have q := pow_pos 60
    exact Pb.w (k := 2000) ⟨by show 0 ≤ (sem m _).2 c; omega, by show (0 : Int) < 1; decide, by show (sem m _).2 c < _; omega, by show (1 : Int) < _; omega⟩ (by decide)
  have tn : ∀ (acc : Int × Int) (k : Str × D) (c0 c1 c2 c3 : Cell), Pw acc → k ∈ keys → _ := fun acc k c0 c1 c2 c3 ha hkk => key_turn (c0 := c0) (c1 := c1) (c2 := c2) (c3 := c3) (c4 := .no) (s := s) e (by omega) un (hk k hkk).1 ha (pw.w (by decide)) pu
  have one : Pb 1 (1, 1) := ⟨by decide, by decide, by decide, by decide⟩
  rw [st, Qn.toD]
  unfold Tb.f_guess_group Tb.b_guess_group
  have w1 : (PyData.tuple [.int 1, .int 1]) = pr (1, 1) := rfl
  match keys, hl with
  | [], _ =>
    simp only [List.map_nil] at eqn ⊢
    simp [eqn, G_whole, grp, pr]
  | [k1], _ =>
    have t1 := tn (1, 1) k1 (.fz (.tuple [.str "group", .tuple ([k1].map row2), .tuple (folds.map rowF), q.toD])) (.fz (.tuple (folds.map rowF))) (.fz (.tuple ([k1].map row2))) .no (one.w (by decide)) (by simp)
    have p1 := gstep_pb pw (fun c => fq.s.u c) one k1 (cs := q.cols)
    have l1 := (run_lesser (p1.w (by decide)) (pw.w (by decide)) s).use e (by omega)
    simp only [List.map_cons, List.map_nil] at eqn t1 ⊢
    have gr : grp [k1] (sem m q).1 (sem m q).2 q.cols = lsr (gstep (sem m q).1 (sem m q).2 q.cols (1, 1) k1) (sem m q).1 := rfl
    rw [gr]
    simp [eqn, G_whole, h1, h2, setCs, seqOf, forLoop, w1, t1, l1]
  | [k1, k2], _ =>
    have t1 := tn (1, 1) k1 (.fz (.tuple [.str "group", .tuple ([k1, k2].map row2), .tuple (folds.map rowF), q.toD])) (.fz (.tuple (folds.map rowF))) (.fz (.tuple ([k1, k2].map row2))) .no (one.w (by decide)) (by simp)
    have p1 := gstep_pb pw (fun c => fq.s.u c) one k1 (cs := q.cols)
    have t2 := tn _ k2 (.fz (.tuple [.str "group", .tuple ([k1, k2].map row2), .tuple (folds.map rowF), q.toD])) (.fz (.str k1.1)) (.fz (.tuple ([k1, k2].map row2))) (.fz k1.2) (p1.w (by decide)) (by simp)
    have p2 := gstep_pb pw (fun c => fq.s.u c) p1 k2 (cs := q.cols)
    have l1 := (run_lesser (p2.w (by decide)) (pw.w (by decide)) s).use e (by omega)
    simp only [List.map_cons, List.map_nil] at eqn t1 t2 ⊢
    have gr : grp [k1, k2] (sem m q).1 (sem m q).2 q.cols = lsr (gstep (sem m q).1 (sem m q).2 q.cols (gstep (sem m q).1 (sem m q).2 q.cols (1, 1) k1) k2) (sem m q).1 := rfl
    rw [gr]
    simp [eqn, G_whole, h1, h2, setCs, seqOf, forLoop, w1, t1, t2, l1]
end Pure

set_option Elab.async false
set_option linter.all false
set_option maxRecDepth 100000
set_option maxHeartbeats 4000000
set_option autoImplicit false
set_option exponentiation.threshold 20000
/-! K8: guess, whole. -/
namespace Pure
open PySem PL
theorem Pb.big {k : Nat} {x : Int × Int} (h : Pb k x) (l : k ≤ 300000) : bigOk x.1 = true ∧ bigOk x.2 = true := by
  have m := h.mono l
  exact ⟨big_of (abs_lt m.n0 m.n1) (by decide) (by decide), big_of (abs_lt (Int.le_of_lt m.d0) m.d1) (by decide) (by decide)⟩
theorem run_is_less_b {x y : Int × Int} (hx : bigOk x.1 = true ∧ bigOk x.2 = true) (hy : bigOk y.1 = true ∧ bigOk y.2 = true) (s : W) : R 1 "is_less" [pr x, pr y] s (.bool (lss x y), s) := by
  refine Run.of T_is_less rfl rfl fun Φ e => ?_
  have st : Tb.f_is_less.start [pr x, pr y] = [.fz (pr x), .fz (pr y)] := rfl
  rw [st]
  unfold Tb.f_is_less Tb.b_is_less
  simp only [pr]
  simp [hx.1, hx.2, hy.1, hy.2, lss]
theorem run_ll_b {x y : Int × Int} (hx : bigOk x.1 = true ∧ bigOk x.2 = true) (hy : bigOk y.1 = true ∧ bigOk y.2 = true) (s : W) : R 1 "_law_less" [pr x, pr y] s (.bool (lss x y), s) := by
  refine Run.of T_ll rfl rfl fun Φ e => ?_
  have st : Tb.f__law_less.start [pr x, pr y] = [.fz (pr x), .fz (pr y)] := rfl
  rw [st]
  unfold Tb.f__law_less Tb.b__law_less
  simp only [pr]
  simp [hx.1, hx.2, hy.1, hy.2, lss]
theorem half_pb : Pb 2 (1, 2) := ⟨by decide, by decide, by decide, by decide⟩
theorem jn_cases (w : Str) (p q s : Int × Int) : jn w p q s = if semi w then tms p (1, 2) else if w = Str.ofString "left" ∧ lss (tms (tms p q) s) p = true then p else tms (tms p q) s := rfl
theorem run_gj {m : Cn} {w : Str} {t : Ts} {p q : Qn} {N : Nat} (ok : (Qn.join w t p q).Ok) (fit : Fit m (.join w t p q)) (hN : 4 ≤ N) (gp : ∀ s, R N "guess" [p.toD, schemasD, countsD m] s (pr (sem m p).1, s)) (gq : ∀ s, R N "guess" [q.toD, schemasD, countsD m] s (pr (sem m q).1, s))
    (shr : ∀ s, R N "share" [t.toD, (Qn.join w t p q).toD, schemasD, countsD m] s (pr (sh (p.cols ++ q.cols) (fun c => if c ∈ p.cols then (sem m p).2 c else (sem m q).2 c) t), s)) (s : W) :
    R (N + 1) "guess_join" [(Qn.join w t p q).toD, schemasD, countsD m] s (pr (sem m (.join w t p q)).1, s) := by
  have st : ∀ x, Tb.f_guess_join.start [x, schemasD, countsD m] = [.fz x, .fz schemasD, .fz (countsD m), .no, .no, .no, .no, .no, .no, .no] := fun x => rfl
  refine Run.of T_gj rfl rfl fun Φ e => ?_
  obtain ⟨hw, _, okp, okq, _⟩ := ok
  obtain ⟨_, hl, fp, fq⟩ := fit
  have h1 := (gp s).use e (Nat.le_refl _)
  have h2 := (gq s).use e (Nat.le_refl _)
  have h3 := (shr s).use e (Nat.le_refl _)
  have pp := fp.s.pb
  have pq := fq.s.pb
  have hu : ∀ c, 1 ≤ (fun c => if c ∈ p.cols then (sem m p).2 c else (sem m q).2 c) c ∧ (fun c => if c ∈ p.cols then (sem m p).2 c else (sem m q).2 c) c ≤ 2 ^ 60 := fun c => by
    show 1 ≤ (if c ∈ p.cols then (sem m p).2 c else (sem m q).2 c) ∧ (if c ∈ p.cols then (sem m p).2 c else (sem m q).2 c) ≤ 2 ^ 60
    split
    · exact fp.s.u c
    · exact fq.s.u c
  have ps := (sh_pw (cs := p.cols ++ q.cols) hu hl).1
  have e1 : (sem m (.join w t p q)).1 = jn w (sem m p).1 (sem m q).1 (sh (p.cols ++ q.cols) (fun c => if c ∈ p.cols then (sem m p).2 c else (sem m q).2 c) t) := rfl
  have ptd := tms_pb pp pq
  have m1 := (run_times (pp.w (by decide)) (half_pb.w (by decide)) s).use e (by omega)
  have m2 := (run_times (pp.w (by decide)) (pq.w (by decide)) s).use e (by omega)
  have m3 := (run_times (ptd.w (by decide)) (ps.w (by decide)) s).use e (by omega)
  rw [st, e1, jn_cases]
  rw [Qn.toD] at h3 ⊢
  generalize sh (p.cols ++ q.cols) (fun c => if c ∈ p.cols then (sem m p).2 c else (sem m q).2 c) t = S at *
  generalize hP : (sem m p).1 = P at *
  generalize hQ : (sem m q).1 = Q at *
  have w1 : (PyData.tuple [.int 1, .int 2]) = pr (1, 2) := rfl
  rw [← w1] at m1
  unfold Tb.f_guess_join Tb.b_guess_join
  rcases hw with rfl | rfl | rfl | rfl
  · simp [h1, h2, h3, m2, m3, semi]
  · have m4 := (run_is_less_b (x := tms (tms P Q) S) (y := P) ((tms_pb ptd ps).big (by decide)) (pp.big (by decide)) s).use e (by omega)
    cases hc : lss (tms (tms P Q) S) P <;> rw [hc] at m4 <;> simp [h1, h2, h3, m2, m3, m4, semi]
  · simp [h1, m1, semi]
  · simp [h1, m1, semi]

theorem run_guess (m : Cn) : ∀ (d : Nat) (q : Qn), q.dep ≤ d → q.Ok → Fit m q → GR m q := by
  have st : ∀ x, Tb.f_guess.start [x, schemasD, countsD m] = [.fz x, .fz schemasD, .fz (countsD m), .no, .no, .no, .no] := fun x => rfl
  intro d
  induction d with
  | zero =>
    intro q hd ok fit s
    cases q with
    | take b al =>
      refine Run.mono (N := 0 + 1) (Run.of T_guess rfl rfl fun Φ e => ?_) (by omega)
      rw [st, Qn.toD]
      have g1 := cnt_get m b
      unfold Tb.f_guess Tb.b_guess
      simp [g1, cntD, sem, pr]
    | wher t q => simp [Qn.dep] at hd
    | join w t p q => simp [Qn.dep] at hd
    | make r q => simp [Qn.dep] at hd
    | two tag p q => simp [Qn.dep] at hd
    | once q => simp [Qn.dep] at hd
    | group k f q => simp [Qn.dep] at hd
    | tops n o q => simp [Qn.dep] at hd
  | succ d ih =>
    intro q hd ok fit s
    -- unlike_in of a sub-question
    have un : ∀ q : Qn, q.dep ≤ d → q.Ok → Fit m q → ∀ c ∈ askC q, ∀ s, R (12 * q.dep + 9) "unlike_in" [.str c, q.toD, schemasD, countsD m] s (.int ((sem m q).2 c), s) := fun q hq ok fit c hc s => by
      obtain ⟨sok, _, sd, _⟩ := src_ask c q ok hc
      exact unl_of ok fit hc sd (by omega) (ih _ (by omega) sok (fit.src c)) s
    cases q with
    | take b al => exact ih (.take b al) (by simp [Qn.dep]) ok fit s
    | wher t q =>
      have hq : q.dep ≤ d := by simp only [Qn.dep] at hd; omega
      obtain ⟨_, hl, fq⟩ := fit
      have g := ih q hq ok.2 fq
      have shr := run_share (N := 12 * q.dep + 9) ⟨fun s => (run_asked q s ok.2).mono (by omega), fun c hc s => un q hq ok.2 fq c hc s⟩ (nm_ask ok.2) (by omega) fq.s.u t s ok.1 hl
      refine Run.mono (N := (12 * q.dep + 16) + 1) (Run.of T_guess rfl rfl fun Φ e => ?_) (by simp only [Qn.dep]; omega)
      have h1 := (g s).use e (by omega)
      have h2 := shr.use e (by omega)
      have ps := (sh_pw (cs := askC q) fq.s.u hl).1
      have h3 := (run_times (fq.s.pb.w (by decide)) (ps.w (by decide)) s).use e (by omega)
      have e1 : (sem m (.wher t q)).1 = tms (sem m q).1 (sh (askC q) (sem m q).2 t) := rfl
      rw [st, Qn.toD, e1]
      unfold Tb.f_guess Tb.b_guess
      simp [h1, h2, h3]
    | join w t p q =>
      have hp : p.dep ≤ d := by simp only [Qn.dep] at hd; omega
      have hq : q.dep ≤ d := by simp only [Qn.dep] at hd; omega
      obtain ⟨hw, okt, okp, okq, hlen⟩ := id ok
      obtain ⟨fs, hl, fp, fq⟩ := id fit
      have gp := ih p hp okp fp
      have gq := ih q hq okq fq
      let D := max p.dep q.dep
      have unj : ∀ c ∈ askC (.join w t p q), ∀ s, R (12 * D + 9) "unlike_in" [.str c, (Qn.join w t p q).toD, schemasD, countsD m] s (.int ((sem m (.join w t p q)).2 c), s) := fun c hc s => by
        obtain ⟨sok, _, _, _⟩ := src_ask c _ ok hc
        have sd : (src c (.join w t p q)).dep ≤ D := by
          by_cases h : c ∈ p.cols
          · have := (src_ok c p okp h).2.2.1
            simp only [src, if_pos h]
            omega
          · have hq' : c ∈ q.cols := (List.mem_append.mp (show c ∈ p.cols ++ q.cols from hc)).elim (fun z => (h z).elim) id
            have := (src_ok c q okq hq').2.2.1
            simp only [src, if_neg h]
            omega
        exact unl_of ok fit hc sd (by simp only [Qn.dep]; omega) (ih _ (by omega) sok (fit.src c)) s
      have shr := fun s => run_share (N := 12 * D + 9) (qD := (Qn.join w t p q).toD) (cs := askC (.join w t p q)) (u := (sem m (.join w t p q)).2) ⟨fun s => (run_asked _ s ok).mono (by simp only [Qn.dep]; omega), unj⟩ (nm_ask ok) (by omega) fs.u t s okt hl
      have gj := run_gj (N := 12 * D + 15) ok fit (by omega) (fun s => (gp s).mono (by omega)) (fun s => (gq s).mono (by omega)) (fun s => (shr s).mono (by omega)) s
      refine Run.mono (N := (12 * D + 16) + 1) (Run.of T_guess rfl rfl fun Φ e => ?_) (by simp only [Qn.dep]; omega)
      have h1 := gj.use e (Nat.le_refl _)
      rw [st]
      rw [Qn.toD] at h1 ⊢
      unfold Tb.f_guess Tb.b_guess
      simp [h1]
    | make r q =>
      have hq : q.dep ≤ d := by simp only [Qn.dep] at hd; omega
      have g := ih q hq ok.2 fit.2
      refine Run.mono (N := (12 * q.dep + 8) + 1) (Run.of T_guess rfl rfl fun Φ e => ?_) (by simp only [Qn.dep]; omega)
      have h1 := (g s).use e (by omega)
      have e1 : (sem m (.make r q)).1 = (sem m q).1 := rfl
      rw [st, Qn.toD, e1]
      unfold Tb.f_guess Tb.b_guess
      simp [h1]
    | two tag p q =>
      have hp : p.dep ≤ d := by simp only [Qn.dep] at hd; omega
      have hq : q.dep ≤ d := by simp only [Qn.dep] at hd; omega
      obtain ⟨ht, okp, okq⟩ := ok
      obtain ⟨_, fp, fq⟩ := fit
      have gp := ih p hp okp fp
      have gq := ih q hq okq fq
      refine Run.mono (N := (12 * max p.dep q.dep + 8) + 1) (Run.of T_guess rfl rfl fun Φ e => ?_) (by simp only [Qn.dep]; omega)
      have h1 := (gp s).use e (by omega)
      have h2 := (gq s).use e (by omega)
      have h3 := (run_plus (fp.s.pb.w (by decide)) (fq.s.pb.w (by decide)) s).use e (by omega)
      have h4 := (run_lesser (fp.s.pb.w (by decide)) (fq.s.pb.w (by decide)) s).use e (by omega)
      have e1 : (sem m (.two tag p q)).1 = if tag = Str.ofString "both" then pls (sem m p).1 (sem m q).1 else if tag = Str.ofString "less" then (sem m p).1 else lsr (sem m p).1 (sem m q).1 := rfl
      rw [st, Qn.toD, e1]
      unfold Tb.f_guess Tb.b_guess
      rcases ht with rfl | rfl | rfl <;> simp [h1, h2, h3, h4, setCs]
    | once q =>
      have hq : q.dep ≤ d := by simp only [Qn.dep] at hd; omega
      have g := ih q hq ok fit.2
      refine Run.mono (N := (12 * q.dep + 8) + 1) (Run.of T_guess rfl rfl fun Φ e => ?_) (by simp only [Qn.dep]; omega)
      have h1 := (g s).use e (by omega)
      have e1 : (sem m (.once q)).1 = (sem m q).1 := rfl
      rw [st, Qn.toD, e1]
      unfold Tb.f_guess Tb.b_guess
      simp [h1]
    | group k f q =>
      have hq : q.dep ≤ d := by simp only [Qn.dep] at hd; omega
      have okq := ok.2.2.2
      have fq := fit.2.2
      have g := ih q hq okq fq
      have gg := run_gg (N := 12 * q.dep + 9) ok fit (by omega) (fun s => (g s).mono (by omega)) (fun c hc s => un q hq okq fq c (cols_ask hc) s) s
      refine Run.mono (N := (12 * q.dep + 10) + 1) (Run.of T_guess rfl rfl fun Φ e => ?_) (by simp only [Qn.dep]; omega)
      have h1 := gg.use e (Nat.le_refl _)
      have e1 : (sem m (.group k f q)).1 = grp k (sem m q).1 (sem m q).2 q.cols := rfl
      rw [st, e1]
      rw [Qn.toD] at h1 ⊢
      unfold Tb.f_guess Tb.b_guess
      simp [h1]
    | tops n o q =>
      have hq : q.dep ≤ d := by simp only [Qn.dep] at hd; omega
      obtain ⟨n0, n3, okq⟩ := ok
      have g := ih q hq okq fit.2
      refine Run.mono (N := (12 * q.dep + 8) + 1) (Run.of T_guess rfl rfl fun Φ e => ?_) (by simp only [Qn.dep]; omega)
      have h1 := (g s).use e (by omega)
      have pn : Pb 2 (n, 1) := ⟨n0, by show (0 : Int) < 1; decide, by show n < 4; omega, by show (1 : Int) < 4; decide⟩
      have h2 := (run_lesser (pn.w (by decide)) (fit.2.s.pb.w (by decide)) s).use e (by omega)
      have e1 : (sem m (.tops n o q)).1 = lsr (n, 1) (sem m q).1 := rfl
      have w1 : (PyData.tuple [.int n, .int 1]) = pr (n, 1) := rfl
      rw [← w1] at h2
      rw [st, Qn.toD, e1]
      unfold Tb.f_guess Tb.b_guess
      simp [h1, h2]
end Pure

set_option Elab.async false
set_option linter.all false
set_option maxRecDepth 100000
set_option maxHeartbeats 4000000
set_option autoImplicit false
set_option exponentiation.threshold 20000
/-! K9: the law's guess. -/
namespace Pure
open PySem PL
theorem T_lg : Tb.T "_law_guess" = some Tb.f__law_guess := by kernel_rfl
section
variable (m : Cn) (rows : Bool → List D)
def LG (q : Qn) : Prop := ∀ s, R (12 * q.dep + 8) "_law_guess" [q.toD, tablesD rows, countsD m] s (pr (sem m q).1, s)
def LU (q : Qn) : Prop := ∀ c ∈ askC q, ∀ s, R (12 * q.dep + 9) "_law_unlike" [.str c, q.toD, tablesD rows, countsD m] s (.int ((sem m q).2 c), s)
end
section
variable {m : Cn} {rows : Bool → List D}
theorem lu_st (c : Str) (x : D) : Tb.f__law_unlike.start [.str c, x, tablesD rows, countsD m] = [.fz (.str c), .fz x, .fz (tablesD rows), .fz (countsD m)] := rfl
/-- a step down to a part -/
theorem lu_take (b : Bool) (al : Str) (ok : (Qn.take b al).Ok) : LU m rows (.take b al) := by
  intro c hc s
  refine Run.mono (N := 0 + 1) (Run.of T_lunl rfl rfl fun Φ e => ?_) (by omega)
  have sc' : c ∈ (colsOf b).map fun k => al ++ Str.ofString "." ++ k := hc
  obtain ⟨k, hk, rfl⟩ := List.mem_map.mp sc'
  have al' : al ∈ als := ok
  have e1 := split_al al al' b k hk
  have e2 := len_al al al' b k hk
  have e3 : (sem m (.take b al)).2 (al ++ Str.ofString "." ++ k) = mx1 (m.c b k) := by
    show unlT m b al (al ++ Str.ofString "." ++ k) = _
    unfold unlT
    rw [find_al al al' b k hk]
  have d1 : ((Str.ofString ".").length == 0) = false := by decide +kernel
  have l1 : lineOk (3 + 2) = true := line_of (by decide)
  have g1 := cnt_get m b
  have g2 := col_get m b k hk
  rw [lu_st, e3, Qn.toD]
  unfold Tb.f__law_unlike Tb.b__law_unlike
  simp [g1, cntD, g2, e1, e2, d1, l1, bltD, mx1]
theorem lu_make {r : List (Str × D)} {q : Qn} (g : LG m rows (.make r q)) (fit : Fit m (.make r q)) : LU m rows (.make r q) := by
  intro c hc s
  refine Run.of T_lunl rfl rfl fun Φ e => ?_
  have h1 := (g s).use e (Nat.le_refl _)
  have h2 := (run_lu (fit.s.pb.w (by decide)) s).use e (by omega)
  have e3 : (sem m (.make r q)).2 c = mx1 (up (sem m (.make r q)).1) := rfl
  rw [lu_st, e3]
  rw [Qn.toD] at h1 ⊢
  unfold Tb.f__law_unlike Tb.b__law_unlike
  simp [h1, h2, bltD, mx1]
theorem lu_group {k : List (Str × D)} {f : List (Str × List D)} {q : Qn} (g : LG m rows (.group k f q)) (fit : Fit m (.group k f q)) : LU m rows (.group k f q) := by
  intro c hc s
  refine Run.of T_lunl rfl rfl fun Φ e => ?_
  have h1 := (g s).use e (Nat.le_refl _)
  have h2 := (run_lu (fit.s.pb.w (by decide)) s).use e (by omega)
  have e3 : (sem m (.group k f q)).2 c = mx1 (up (sem m (.group k f q)).1) := rfl
  rw [lu_st, e3]
  rw [Qn.toD] at h1 ⊢
  unfold Tb.f__law_unlike Tb.b__law_unlike
  simp [h1, h2, bltD, mx1]
theorem lu_wher {t : Ts} {q : Qn} (h : LU m rows q) : LU m rows (.wher t q) := by
  intro c hc s
  refine Run.mono (N := 12 * q.dep + 9 + 1) (Run.of T_lunl rfl rfl fun Φ e => ?_) (by simp only [Qn.dep]; omega)
  have h1 := (h c (cols_ask hc) s).use e (Nat.le_refl _)
  have e3 : (sem m (.wher t q)).2 c = (sem m q).2 c := rfl
  rw [lu_st, e3, Qn.toD]
  unfold Tb.f__law_unlike Tb.b__law_unlike
  simp [h1, bltD]
theorem lu_once {q : Qn} (h : LU m rows q) : LU m rows (.once q) := by
  intro c hc s
  refine Run.mono (N := 12 * q.dep + 9 + 1) (Run.of T_lunl rfl rfl fun Φ e => ?_) (by simp only [Qn.dep]; omega)
  have h1 := (h c (cols_ask hc) s).use e (Nat.le_refl _)
  have e3 : (sem m (.once q)).2 c = (sem m q).2 c := rfl
  rw [lu_st, e3, Qn.toD]
  unfold Tb.f__law_unlike Tb.b__law_unlike
  simp [h1, bltD]
theorem lu_tops {n : Int} {o : D} {q : Qn} (h : LU m rows q) : LU m rows (.tops n o q) := by
  intro c hc s
  refine Run.mono (N := 12 * q.dep + 9 + 1) (Run.of T_lunl rfl rfl fun Φ e => ?_) (by simp only [Qn.dep]; omega)
  have h1 := (h c (cols_ask hc) s).use e (Nat.le_refl _)
  have e3 : (sem m (.tops n o q)).2 c = (sem m q).2 c := rfl
  rw [lu_st, e3, Qn.toD]
  unfold Tb.f__law_unlike Tb.b__law_unlike
  simp [h1, bltD]
theorem lu_two {tag : Str} {p q : Qn} (ht : tag = Str.ofString "both" ∨ tag = Str.ofString "less" ∨ tag = Str.ofString "common") (h : LU m rows p) : LU m rows (.two tag p q) := by
  intro c hc s
  refine Run.mono (N := 12 * p.dep + 9 + 1) (Run.of T_lunl rfl rfl fun Φ e => ?_) (by simp only [Qn.dep]; omega)
  have h1 := (h c (cols_ask hc) s).use e (Nat.le_refl _)
  have e3 : (sem m (.two tag p q)).2 c = (sem m p).2 c := rfl
  rw [lu_st, e3, Qn.toD]
  unfold Tb.f__law_unlike Tb.b__law_unlike
  rcases ht with rfl | rfl | rfl <;> simp [h1, bltD]
theorem lu_join {w : Str} {t : Ts} {p q : Qn} (okp : p.Ok) (hp : LU m rows p) (hq : LU m rows q) (c : Str) (hc : c ∈ p.cols ++ q.cols) (s : W) : R (12 * max p.dep q.dep + 10) "_law_unlike" [.str c, (Qn.join w t p q).toD, tablesD rows, countsD m] s (.int ((sem m (.join w t p q)).2 c), s) := by
  refine Run.mono (N := 12 * max p.dep q.dep + 9 + 1) (Run.of T_lunl rfl rfl fun Φ e => ?_) (by omega)
  have h0 := (run_lcols rows p s okp).use e (by omega)
  have e3 : (sem m (.join w t p q)).2 c = if c ∈ p.cols then (sem m p).2 c else (sem m q).2 c := rfl
  rw [lu_st, e3, Qn.toD]
  unfold Tb.f__law_unlike Tb.b__law_unlike
  by_cases h : c ∈ p.cols
  · have h1 := (hp c (cols_ask h) s).use e (by omega)
    simp [h0, in_strsL, h, h1]
  · have hq' : c ∈ q.cols := (List.mem_append.mp hc).elim (fun z => (h z).elim) id
    have h1 := (hq c (cols_ask hq') s).use e (by omega)
    simp [h0, in_strsL, h, h1]
/-- the names that the law asks for -/
theorem asked_law {N : Nat} {q : Qn} (ok : q.Ok) (hN : q.dep + 1 ≤ N) : ∀ Φ s, L N Φ → ∀ (ρ : PL.Env), ρ[1]? = some (.fz q.toD) → ρ[2]? = some (.fz (tablesD rows)) → ev Φ Tb.G ρ (.ite (.cmp .eq (.ix (.v 1) (.int 0)) (.str "join")) (.bin .add (.call "_law_columns" (.cons (.ix (.v 1) (.int 3)) (.cons (.v 2) .nil))) (.call "_law_columns" (.cons (.ix (.v 1) (.int 4)) (.cons (.v 2) .nil)))) (.call "_law_columns" (.cons (.v 1) (.cons (.v 2) .nil)))) s = some (.list ((askC q).map .str), s) := by
  intro Φ s e ρ r1 r2
  cases q with
  | join w t p q =>
    obtain ⟨hw, _, okp, okq, hl⟩ := ok
    have h1 := (run_lcols rows p s okp).use e (by simp only [Qn.dep] at hN; omega)
    have h2 := (run_lcols rows q s okq).use e (by simp only [Qn.dep] at hN; omega)
    have l1 : lineOk (p.cols.length + q.cols.length) = true := line_of (by omega)
    rw [Qn.toD] at r1
    simp [r1, r2, h1, h2, l1, askC]
  | two tag p q =>
    have h1 := (run_lcols rows _ s ok).use e hN
    rw [Qn.toD] at r1 h1
    obtain ⟨ht, _⟩ := ok
    rcases ht with rfl | rfl | rfl <;> simp [r1, r2, h1, askC]
  | take b al => have h1 := (run_lcols rows _ s ok).use e hN; rw [Qn.toD] at r1 h1; simp [r1, r2, h1, askC]
  | wher t q => have h1 := (run_lcols rows _ s ok).use e hN; rw [Qn.toD] at r1 h1; simp [r1, r2, h1, askC]
  | make r q => have h1 := (run_lcols rows _ s ok).use e hN; rw [Qn.toD] at r1 h1; simp [r1, r2, h1, askC]
  | once q => have h1 := (run_lcols rows _ s ok).use e hN; rw [Qn.toD] at r1 h1; simp [r1, r2, h1, askC]
  | group k f q => have h1 := (run_lcols rows _ s ok).use e hN; rw [Qn.toD] at r1 h1; simp [r1, r2, h1, askC]
  | tops n o q => have h1 := (run_lcols rows _ s ok).use e hN; rw [Qn.toD] at r1 h1; simp [r1, r2, h1, askC]
theorem key_turnL {Φ : Fn} {q : Qn} {u : Str → Int} {w acc : Int × Int} {N : Nat} {s : W} {k : Str × D} {c0 c1 c6 c8 c9 c10 c11 c12 : Cell} (e : L N Φ) (hN : 3 ≤ N) (okq : q.Ok) (hd : q.dep + 1 ≤ N) (un : ∀ c ∈ q.cols, ∀ s, R N "_law_unlike" [.str c, q.toD, tablesD rows, countsD m] s (.int (u c), s)) (hk : TmOk k.2) (ha : Pw acc) (hw : Pw w) (hu : ∀ c, Pw (u c, 1)) :
    ∃ c12', forT Φ Tb.G gf (.tup [10, 11]) (.cons (.asg (.nm 12) (.and (.cmp .eq (.ix (.v 11) (.int 0)) (.str "col")) (.cmp .isin (.ix (.v 11) (.int 1)) (.call "_law_columns" (.cons (.v 4) (.cons (.v 1) .nil)))))) (.cons (.asg (.nm 7) (.call "_law_times" (.cons (.v 7) (.cons (.ite (.v 12) (.tup (.cons (.call "_law_unlike" (.cons (.ix (.v 11) (.int 1)) (.cons (.v 4) (.cons (.v 1) (.cons (.v 2) .nil))))) (.cons (.int 1) .nil))) (.v 5)) .nil)))) .nil))
      (row2 k) [c0, .fz (tablesD rows), .fz (countsD m), c1, .fz q.toD, .fz (pr w), c6, .fz (pr acc), c8, c9, c10, c11, c12] s =
    some (.nx [c0, .fz (tablesD rows), .fz (countsD m), c1, .fz q.toD, .fz (pr w), c6, .fz (pr (gstep w u q.cols acc k)), c8, c9, .fz (.str k.1), .fz k.2, c12'], s) := by
  obtain ⟨kn, kt⟩ := k
  have h0 := (run_lcols rows q s okq).use e hd
  obtain ⟨tag, rest, rfl, _, h | h⟩ := tm_read hk
  · obtain ⟨rfl, n, rfl, hn⟩ := h
    by_cases mm : n ∈ q.cols
    · have h1 := (un n mm s).use e (Nat.le_refl _)
      have h2 := (run_lt ha (hu n) s).use e (by omega)
      have g : gstep w u q.cols acc (kn, .tuple [.str "col", .str n]) = tms acc (u n, 1) := by unfold gstep; simp only [hn]; rw [if_pos mm]
      rw [g]
      have pe : pr (u n, 1) = .tuple [.int (u n), .int 1] := rfl
      rw [pe] at h2
      refine ⟨.fz (.bool true), ?_⟩
      simp [forT, row2, in_strsL, mm, h0, h1, h2]
    · have h2 := (run_lt ha hw s).use e (by omega)
      have g : gstep w u q.cols acc (kn, .tuple [.str "col", .str n]) = tms acc w := by unfold gstep; simp only [hn]; rw [if_neg mm]
      rw [g]
      refine ⟨.fz (.bool false), ?_⟩
      simp [forT, row2, in_strsL, mm, h0, h2]
  · obtain ⟨ne, hn⟩ := h
    have h2 := (run_lt ha hw s).use e (by omega)
    have g : gstep w u q.cols acc (kn, .tuple (.str tag :: rest)) = tms acc w := by unfold gstep; simp only [hn]
    rw [g]
    refine ⟨.fz (.bool false), ?_⟩
    simp [forT, row2, ne, h2]
theorem run_lg : ∀ (d : Nat) (q : Qn), q.dep ≤ d → q.Ok → Fit m q → LG m rows q ∧ LU m rows q := by
  have st : ∀ x, Tb.f__law_guess.start [x, tablesD rows, countsD m] = [.fz x, .fz (tablesD rows), .fz (countsD m), .no, .no, .no, .no, .no, .no, .no, .no, .no, .no] := fun x => rfl
  intro d
  induction d with
  | zero =>
    intro q hd ok fit
    cases q with
    | take b al =>
      refine ⟨fun s => ?_, lu_take b al ok⟩
      refine Run.mono (N := 0 + 1) (Run.of T_lg rfl rfl fun Φ e => ?_) (by omega)
      rw [st, Qn.toD]
      have g1 := cnt_get m b
      unfold Tb.f__law_guess Tb.b__law_guess
      simp [g1, cntD, sem, pr]
    | wher t q => simp [Qn.dep] at hd
    | join w t p q => simp [Qn.dep] at hd
    | make r q => simp [Qn.dep] at hd
    | two tag p q => simp [Qn.dep] at hd
    | once q => simp [Qn.dep] at hd
    | group k f q => simp [Qn.dep] at hd
    | tops n o q => simp [Qn.dep] at hd
  | succ d ih =>
    intro q hd ok fit
    cases q with
    | take b al => exact ih (.take b al) (by simp [Qn.dep]) ok fit
    | wher t q =>
      have hq : q.dep ≤ d := by simp only [Qn.dep] at hd; omega
      obtain ⟨_, hl, fq⟩ := id fit
      obtain ⟨g, lu⟩ := ih q hq ok.2 fq
      refine ⟨fun s => ?_, lu_wher lu⟩
      have part := run_part (N := 12 * q.dep + 9) (q := q) (m := m) (rows := rows) (cs := askC q) (u := (sem m q).2) lu (asked_law ok.2 (by omega)) (nm_ask ok.2) (by omega) fq.s.u t s ok.1 hl
      refine Run.mono (N := (12 * q.dep + 16) + 1) (Run.of T_lg rfl rfl fun Φ e => ?_) (by simp only [Qn.dep]; omega)
      have h1 := (g s).use e (by omega)
      have h2 := part.use e (by omega)
      have ps := (sh_pw (cs := askC q) fq.s.u hl).1
      have h3 := (run_lt (fq.s.pb.w (by decide)) (ps.w (by decide)) s).use e (by omega)
      have e1 : (sem m (.wher t q)).1 = tms (sem m q).1 (sh (askC q) (sem m q).2 t) := rfl
      rw [st, Qn.toD, e1]
      unfold Tb.f__law_guess Tb.b__law_guess
      simp [h1, h2, h3, bltD]
    | join w t p q =>
      have hp : p.dep ≤ d := by simp only [Qn.dep] at hd; omega
      have hq : q.dep ≤ d := by simp only [Qn.dep] at hd; omega
      obtain ⟨hw, okt, okp, okq, hlen⟩ := id ok
      obtain ⟨fs, hl, fp, fq⟩ := id fit
      obtain ⟨gp, lp⟩ := ih p hp okp fp
      obtain ⟨gq, lq⟩ := ih q hq okq fq
      have luj := lu_join (w := w) (t := t) okp lp lq
      refine ⟨fun s => ?_, fun c hc s => (luj c hc s).mono (by simp only [Qn.dep]; omega)⟩
      have part := run_part (N := 12 * max p.dep q.dep + 10) (q := .join w t p q) (m := m) (rows := rows) (cs := askC (.join w t p q)) (u := (sem m (.join w t p q)).2) luj (asked_law ok (by simp only [Qn.dep]; omega)) (nm_ask ok) (by omega) fs.u t s okt hl
      refine Run.mono (N := (12 * max p.dep q.dep + 16) + 1) (Run.of T_lg rfl rfl fun Φ e => ?_) (by simp only [Qn.dep]; omega)
      have h1 := (gp s).use e (by omega)
      have h2 := (gq s).use e (by omega)
      have h3 := part.use e (by omega)
      have ps := (sh_pw (cs := askC (.join w t p q)) fs.u hl).1
      have pp := fp.s.pb
      have pq := fq.s.pb
      have ptd := tms_pb pp pq
      have m1 := (run_lt (pp.w (by decide)) (half_pb.w (by decide)) s).use e (by omega)
      have m2 := (run_lt (pp.w (by decide)) (pq.w (by decide)) s).use e (by omega)
      have m3 := (run_lt (ptd.w (by decide)) (ps.w (by decide)) s).use e (by omega)
      have e1 : (sem m (.join w t p q)).1 = jn w (sem m p).1 (sem m q).1 (sh (askC (.join w t p q)) (sem m (.join w t p q)).2 t) := rfl
      rw [st, e1, jn_cases]
      rw [Qn.toD] at h3 ⊢
      generalize sh (askC (.join w t p q)) (sem m (.join w t p q)).2 t = S at *
      generalize hP : (sem m p).1 = P at *
      generalize hQ : (sem m q).1 = Q at *
      have w1 : (PyData.tuple [.int 1, .int 2]) = pr (1, 2) := rfl
      rw [← w1] at m1
      unfold Tb.f__law_guess Tb.b__law_guess
      rcases hw with rfl | rfl | rfl | rfl
      · simp [h1, h2, h3, m2, m3, semi]
      · have m4 := (run_ll_b (x := tms (tms P Q) S) (y := P) ((tms_pb ptd ps).big (by decide)) (pp.big (by decide)) s).use e (by omega)
        cases hc : lss (tms (tms P Q) S) P <;> rw [hc] at m4 <;> simp [h1, h2, h3, m2, m3, m4, semi]
      · simp [h1, m1, semi]
      · simp [h1, m1, semi]
    | make r q =>
      have hq : q.dep ≤ d := by simp only [Qn.dep] at hd; omega
      obtain ⟨g, lu⟩ := ih q hq ok.2 fit.2
      have lg : LG m rows (.make r q) := fun s => by
        refine Run.mono (N := (12 * q.dep + 8) + 1) (Run.of T_lg rfl rfl fun Φ e => ?_) (by simp only [Qn.dep]; omega)
        have h1 := (g s).use e (by omega)
        have e1 : (sem m (.make r q)).1 = (sem m q).1 := rfl
        rw [st, Qn.toD, e1]
        unfold Tb.f__law_guess Tb.b__law_guess
        simp [h1, bltD]
      exact ⟨lg, lu_make lg fit⟩
    | two tag p q =>
      have hp : p.dep ≤ d := by simp only [Qn.dep] at hd; omega
      have hq : q.dep ≤ d := by simp only [Qn.dep] at hd; omega
      obtain ⟨ht, okp, okq⟩ := ok
      obtain ⟨_, fp, fq⟩ := fit
      obtain ⟨gp, lp⟩ := ih p hp okp fp
      obtain ⟨gq, lq⟩ := ih q hq okq fq
      refine ⟨fun s => ?_, lu_two ht lp⟩
      refine Run.mono (N := (12 * max p.dep q.dep + 8) + 1) (Run.of T_lg rfl rfl fun Φ e => ?_) (by simp only [Qn.dep]; omega)
      have h1 := (gp s).use e (by omega)
      have h2 := (gq s).use e (by omega)
      have h3 := (run_la (fp.s.pb.w (by decide)) (fq.s.pb.w (by decide)) s).use e (by omega)
      have h4 := (run_ll (fp.s.pb.w (by decide)) (fq.s.pb.w (by decide)) s).use e (by omega)
      have e1 : (sem m (.two tag p q)).1 = if tag = Str.ofString "both" then pls (sem m p).1 (sem m q).1 else if tag = Str.ofString "less" then (sem m p).1 else lsr (sem m p).1 (sem m q).1 := rfl
      rw [st, Qn.toD, e1]
      unfold Tb.f__law_guess Tb.b__law_guess
      rcases ht with rfl | rfl | rfl
      · simp [h1, h2, h3, setCs]
      · simp [h1, bltD]
      · cases hc : lss (sem m p).1 (sem m q).1 <;> rw [hc] at h4 <;> simp [h1, h2, h4, setCs, lsr, hc]
    | once q =>
      have hq : q.dep ≤ d := by simp only [Qn.dep] at hd; omega
      obtain ⟨g, lu⟩ := ih q hq ok fit.2
      refine ⟨fun s => ?_, lu_once lu⟩
      refine Run.mono (N := (12 * q.dep + 8) + 1) (Run.of T_lg rfl rfl fun Φ e => ?_) (by simp only [Qn.dep]; omega)
      have h1 := (g s).use e (by omega)
      have e1 : (sem m (.once q)).1 = (sem m q).1 := rfl
      rw [st, Qn.toD, e1]
      unfold Tb.f__law_guess Tb.b__law_guess
      simp [h1, bltD]
    | group keys folds q =>
      have hq : q.dep ≤ d := by simp only [Qn.dep] at hd; omega
      obtain ⟨hk, _, _, okq⟩ := id ok
      obtain ⟨_, hl, fq⟩ := id fit
      obtain ⟨g, lu⟩ := ih q hq okq fq
      have lg : LG m rows (.group keys folds q) := fun s => by
        refine Run.mono (N := (12 * q.dep + 10) + 1) (Run.of T_lg rfl rfl fun Φ e => ?_) (by simp only [Qn.dep]; omega)
        have h1 := (g s).use e (by omega)
        have eqn := eq_nilT (ks := keys) fun k hk' => (hk k hk').2
        have pw := fq.s.pb
        have pu : ∀ c, Pw ((sem m q).2 c, 1) := fun c => by
          obtain ⟨h1, h2⟩ := fq.s.u c
          have p := pow_mono (show 61 ≤ 2000 by decide)
          have e : (2 : Int) ^ 61 = 2 * 2 ^ 60 := by decide
          have q := pow_pos 60
          exact Pb.w (k := 2000) ⟨by show 0 ≤ (sem m _).2 c; omega, by show (0 : Int) < 1; decide, by show (sem m _).2 c < _; omega, by show (1 : Int) < _; omega⟩ (by decide)
        have un : ∀ c ∈ q.cols, ∀ s, R (12 * q.dep + 10) "_law_unlike" [.str c, q.toD, tablesD rows, countsD m] s (.int ((sem m q).2 c), s) := fun c hc s => (lu c (cols_ask hc) s).mono (by omega)
        have one : Pb 1 (1, 1) := ⟨by decide, by decide, by decide, by decide⟩
        have e1 : (sem m (.group keys folds q)).1 = grp keys (sem m q).1 (sem m q).2 q.cols := rfl
        have w1 : (PyData.tuple [.int 1, .int 1]) = pr (1, 1) := rfl
        rw [st, e1, Qn.toD]
        unfold Tb.f__law_guess Tb.b__law_guess
        match keys, hl with
        | [], _ =>
          simp only [List.map_nil] at eqn ⊢
          simp [h1, eqn, bltD, seqOf, forLoop, grp, pr]
        | [k1], _ =>
          obtain ⟨x1, t1⟩ := key_turnL (c0 := .fz (.tuple [.str "group", .tuple ([k1].map row2), .tuple (folds.map rowF), q.toD])) (c1 := .fz (.str "group")) (c6 := .no) (c8 := .no) (c9 := .no) (c10 := .no) (c11 := .no) (c12 := .no) (s := s) e (by omega) okq (by omega) un (hk k1 (by simp)).1 (one.w (by decide)) (pw.w (by decide)) pu
          have p1 := gstep_pb pw (fun c => fq.s.u c) one k1 (cs := q.cols)
          have l1 := (run_ll (p1.w (by decide)) (pw.w (by decide)) s).use e (by omega)
          simp only [List.map_cons, List.map_nil] at eqn t1 ⊢
          have gr : grp [k1] (sem m q).1 (sem m q).2 q.cols = lsr (gstep (sem m q).1 (sem m q).2 q.cols (1, 1) k1) (sem m q).1 := rfl
          rw [gr]
          cases hc : lss (gstep (sem m q).1 (sem m q).2 q.cols (1, 1) k1) (sem m q).1 <;> rw [hc] at l1 <;> simp [h1, eqn, bltD, seqOf, forLoop, w1, t1, l1, lsr, hc]
        | [k1, k2], _ =>
          obtain ⟨x1, t1⟩ := key_turnL (c0 := .fz (.tuple [.str "group", .tuple ([k1, k2].map row2), .tuple (folds.map rowF), q.toD])) (c1 := .fz (.str "group")) (c6 := .no) (c8 := .no) (c9 := .no) (c10 := .no) (c11 := .no) (c12 := .no) (s := s) e (by omega) okq (by omega) un (hk k1 (by simp)).1 (one.w (by decide)) (pw.w (by decide)) pu
          have p1 := gstep_pb pw (fun c => fq.s.u c) one k1 (cs := q.cols)
          obtain ⟨x2, t2⟩ := key_turnL (c0 := .fz (.tuple [.str "group", .tuple ([k1, k2].map row2), .tuple (folds.map rowF), q.toD])) (c1 := .fz (.str "group")) (c6 := .no) (c8 := .no) (c9 := .no) (c10 := .fz (.str k1.1)) (c11 := .fz k1.2) (c12 := x1) (s := s) e (by omega) okq (by omega) un (hk k2 (by simp)).1 (p1.w (by decide)) (pw.w (by decide)) pu
          have p2 := gstep_pb pw (fun c => fq.s.u c) p1 k2 (cs := q.cols)
          have l1 := (run_ll (p2.w (by decide)) (pw.w (by decide)) s).use e (by omega)
          simp only [List.map_cons, List.map_nil] at eqn t1 t2 ⊢
          have gr : grp [k1, k2] (sem m q).1 (sem m q).2 q.cols = lsr (gstep (sem m q).1 (sem m q).2 q.cols (gstep (sem m q).1 (sem m q).2 q.cols (1, 1) k1) k2) (sem m q).1 := rfl
          rw [gr]
          cases hc : lss (gstep (sem m q).1 (sem m q).2 q.cols (gstep (sem m q).1 (sem m q).2 q.cols (1, 1) k1) k2) (sem m q).1 <;> rw [hc] at l1 <;> simp [h1, eqn, bltD, seqOf, forLoop, w1, t1, t2, l1, lsr, hc]
      exact ⟨lg, lu_group lg fit⟩
    | tops n o q =>
      have hq : q.dep ≤ d := by simp only [Qn.dep] at hd; omega
      obtain ⟨n0, n3, okq⟩ := ok
      obtain ⟨g, lu⟩ := ih q hq okq fit.2
      refine ⟨fun s => ?_, lu_tops lu⟩
      refine Run.mono (N := (12 * q.dep + 8) + 1) (Run.of T_lg rfl rfl fun Φ e => ?_) (by simp only [Qn.dep]; omega)
      have h1 := (g s).use e (by omega)
      have pn : Pb 2 (n, 1) := ⟨n0, by show (0 : Int) < 1; decide, by show n < 4; omega, by show (1 : Int) < 4; decide⟩
      have h2 := (run_ll (pn.w (by decide)) (fit.2.s.pb.w (by decide)) s).use e (by omega)
      have e1 : (sem m (.tops n o q)).1 = lsr (n, 1) (sem m q).1 := rfl
      have w1 : (PyData.tuple [.int n, .int 1]) = pr (n, 1) := rfl
      rw [← w1] at h2
      rw [st, Qn.toD, e1]
      unfold Tb.f__law_guess Tb.b__law_guess
      cases hc : lss (n, 1) (sem m q).1 <;> rw [hc] at h2 <;> simp [h1, h2, bltD, lsr, hc, ← w1]
end
end Pure

set_option Elab.async false
set_option linter.all false
set_option maxRecDepth 100000
set_option maxHeartbeats 4000000
set_option autoImplicit false
set_option exponentiation.threshold 20000
/-! K10: what is drawn no more than three deep fits. -/
namespace Pure
open PySem PL
def vv : Nat → Nat
  | 0 => 6
  | d + 1 => 2 * vv d + 1
def bb : Nat → Nat
  | 0 => 6
  | d + 1 => 2 * bb d + 16 * (vv d + 5) + 2
theorem vv_mono : ∀ {d e : Nat}, d ≤ e → vv d ≤ vv e
  | d, 0, h => by have : d = 0 := by omega
                  subst this; exact Nat.le_refl _
  | d, e + 1, h => by
    by_cases c : d = e + 1
    · subst c; exact Nat.le_refl _
    · have := vv_mono (show d ≤ e by omega)
      show vv d ≤ 2 * vv e + 1
      omega
theorem bb_mono : ∀ {d e : Nat}, d ≤ e → bb d ≤ bb e
  | d, 0, h => by have : d = 0 := by omega
                  subst this; exact Nat.le_refl _
  | d, e + 1, h => by
    by_cases c : d = e + 1
    · subst c; exact Nat.le_refl _
    · have := bb_mono (show d ≤ e by omega)
      show bb d ≤ 2 * bb e + 16 * (vv e + 5) + 2
      omega
theorem bb6 : ∀ d, 6 ≤ bb d := fun d => bb_mono (Nat.zero_le d)
theorem vv6 : ∀ d, 6 ≤ vv d := fun d => vv_mono (Nat.zero_le d)
/-- how deep it was drawn -/
def dd : Qn → Nat
  | .take _ _ => 0
  | .wher _ q => dd q + 1
  | .join _ _ p q => max (dd p) (dd q) + 1
  | .make _ q => dd q
  | .two _ p q => max (dd p) (dd q) + 1
  | .once q => dd q
  | .group _ _ q => dd q + 1
  | .tops _ _ q => dd q
/-- tests of at most sixteen leaves, groups by at most two -/
def Slim : Qn → Prop
  | .take _ _ => True
  | .wher t q => t.lv ≤ 4 ∧ Slim q
  | .join _ t p q => t.lv ≤ 4 ∧ Slim p ∧ Slim q
  | .make _ q => Slim q
  | .two _ p q => Slim p ∧ Slim q
  | .once q => Slim q
  | .group k _ q => k.length ≤ 2 ∧ Slim q
  | .tops n _ q => (0 ≤ n ∧ n ≤ 3) ∧ Slim q
structure CnOk (m : Cn) : Prop where
  n : ∀ b, 0 ≤ m.n b ∧ m.n b < 2 ^ 6
  c : ∀ b k, m.c b k < 2 ^ 6
structure Sd (d : Nat) (x : (Int × Int) × (Str → Int)) : Prop where
  pb : Pb (bb d) x.1
  le : Le' (2 ^ vv d) x.1
  u : ∀ c, 1 ≤ x.2 c ∧ x.2 c ≤ 2 ^ vv d
theorem le_mono {a b : Int} {k : Nat} {x : Int × Int} (p : Pb k x) (h : Le' a x) (l : a ≤ b) : Le' b x :=
  Int.le_trans h (Int.mul_le_mul_of_nonneg_right l (Int.le_of_lt p.d0))
theorem Sd.mono {d e : Nat} {x : (Int × Int) × (Str → Int)} (h : Sd d x) (l : d ≤ e) : Sd e x :=
  ⟨h.pb.mono (bb_mono l), le_mono h.pb h.le (pow_mono (vv_mono l)), fun c => ⟨(h.u c).1, Int.le_trans (h.u c).2 (pow_mono (vv_mono l))⟩⟩
theorem up_le {k v : Nat} {x : Int × Int} (p : Pb k x) (h : Le' (2 ^ v) x) : 1 ≤ mx1 (up x) ∧ mx1 (up x) ≤ 2 ^ v := by
  have d0 := p.d0
  have u : up x ≤ 2 ^ v := by
    unfold up
    apply Int.le_of_lt_add_one
    apply Int.ediv_lt_of_lt_mul d0
    unfold Le' at h
    rw [Int.add_mul]
    omega
  have o := pow_pos v
  unfold mx1
  split
  · exact ⟨by omega, u⟩
  · exact ⟨by decide, by omega⟩
theorem le_pls {a b : Int} {x y : Int × Int} {j k : Nat} (hx : Pb j x) (hy : Pb k y) (ha : Le' a x) (hb : Le' b y) : Le' (a + b) (pls x y) := by
  refine nrm_le (Int.mul_pos hx.d0 hy.d0) ?_
  have e1 : x.1 * y.2 ≤ (a * x.2) * y.2 := Int.mul_le_mul_of_nonneg_right ha (Int.le_of_lt hy.d0)
  have e2 : y.1 * x.2 ≤ (b * y.2) * x.2 := Int.mul_le_mul_of_nonneg_right hb (Int.le_of_lt hx.d0)
  have e3 : (a + b) * (x.2 * y.2) = (a * x.2) * y.2 + (b * y.2) * x.2 := by
    rw [Int.add_mul, Int.mul_assoc, Int.mul_assoc, Int.mul_comm y.2 x.2]
  omega
theorem u1_pb {v : Nat} {u : Int} (h : 1 ≤ u ∧ u ≤ 2 ^ v) : Pb (v + 1) (u, 1) := by
  have e : (2 : Int) ^ (v + 1) = 2 * 2 ^ v := by rw [Int.pow_succ]; omega
  have p := pow_pos v
  exact ⟨by show 0 ≤ u; omega, by show (0 : Int) < 1; decide, by show u < _; omega, by show (1 : Int) < _; omega⟩
theorem gstep_sd {d : Nat} {x : (Int × Int) × (Str → Int)} {cs : List Str} {acc : Int × Int} {j : Nat} (h : Sd d x) (ha : Pb j acc) (k : Str × D) : Pb (j + (bb d + vv d + 1)) (gstep x.1 x.2 cs acc k) := by
  unfold gstep
  split
  · split
    · exact (tms_pb ha (u1_pb (h.u _))).mono (by omega)
    · exact (tms_pb ha h.pb).mono (by omega)
  · exact (tms_pb ha h.pb).mono (by omega)
theorem one_pb : Pb 1 (1, 1) := ⟨by decide, by decide, by decide, by decide⟩
theorem one_le (v : Nat) : Le' (2 ^ v) (1, 1) := by
  have := pow_pos v
  unfold Le'
  show (1 : Int) ≤ 2 ^ v * 1
  omega
theorem sd_all {m : Cn} (hm : CnOk m) : ∀ q : Qn, Slim q → Sd (dd q) (sem m q) := by
  intro q
  induction q with
  | take b al =>
    intro _
    obtain ⟨n0, n1⟩ := hm.n b
    refine ⟨⟨n0, by show (0 : Int) < 1; decide, n1, by show (1 : Int) < 2 ^ 6; decide⟩, ?_, fun c => ?_⟩
    · unfold Le'
      show m.n b ≤ 2 ^ 6 * 1
      omega
    · show 1 ≤ unlT m b al c ∧ unlT m b al c ≤ 2 ^ 6
      unfold unlT
      split
      · rename_i k _
        have := hm.c b k
        unfold mx1
        split <;> omega
      · exact ⟨by decide, by decide⟩
  | make r q ih =>
    intro s
    have h := ih s
    exact ⟨h.pb, h.le, fun c => up_le h.pb h.le⟩
  | once q ih => exact fun s => ih s
  | tops n o q ih =>
    intro s
    obtain ⟨⟨n0, n3⟩, s⟩ := s
    have h := ih s
    have pn : Pb (bb (dd q)) (n, 1) := (show Pb 2 (n, 1) from ⟨n0, by show (0 : Int) < 1; decide, by show n < 4; omega, by show (1 : Int) < 4; decide⟩).mono (by have := bb6 (dd q); omega)
    exact ⟨lsr_pb pn h.pb, le_lsr1 pn h.pb h.le, h.u⟩
  | wher t q ih =>
    intro s
    obtain ⟨hl, s⟩ := s
    have h := ih s
    obtain ⟨s1, s2⟩ := sh_pb (cs := askC q) h.u t
    have l : (vv (dd q) + 5) * 2 ^ t.lv ≤ (vv (dd q) + 5) * 2 ^ 4 := Nat.mul_le_mul_left _ (Nat.pow_le_pow_right (by decide) hl)
    refine ⟨(tms_pb h.pb s1).mono ?_, ?_, fun c => ⟨(h.u c).1, Int.le_trans (h.u c).2 (pow_mono (vv_mono (Nat.le_succ _)))⟩⟩
    · show bb (dd q) + _ ≤ 2 * bb (dd q) + 16 * (vv (dd q) + 5) + 2
      omega
    · have := le_tms h.pb s1 (Int.le_of_lt (pow_pos _)) h.le s2
      rw [Int.mul_one] at this
      exact le_mono (tms_pb h.pb s1) this (pow_mono (vv_mono (Nat.le_succ _)))
  | two tag p q ihp ihq =>
    intro s
    have hp := (ihp s.1).mono (Nat.le_max_left (dd p) (dd q))
    have hq := (ihq s.2).mono (Nat.le_max_right (dd p) (dd q))
    have up : Sd (max (dd p) (dd q) + 1) (sem m p) := hp.mono (Nat.le_succ _)
    have hd : dd (.two tag p q) = max (dd p) (dd q) + 1 := rfl
    rw [hd]
    have e1 : (sem m (.two tag p q)).1 = if tag = Str.ofString "both" then pls (sem m p).1 (sem m q).1 else if tag = Str.ofString "less" then (sem m p).1 else lsr (sem m p).1 (sem m q).1 := rfl
    have b1 : bb (max (dd p) (dd q)) + bb (max (dd p) (dd q)) + 1 ≤ bb (max (dd p) (dd q) + 1) := by
      show _ ≤ 2 * bb _ + 16 * (vv _ + 5) + 2
      omega
    have pb : Pb (bb (max (dd p) (dd q) + 1)) (sem m (.two tag p q)).1 ∧ Le' (2 ^ vv (max (dd p) (dd q) + 1)) (sem m (.two tag p q)).1 := by
      rw [e1]
      split
      · have z := le_pls hp.pb hq.pb hp.le hq.le
        refine ⟨(pls_pb hp.pb hq.pb).mono b1, le_mono (pls_pb hp.pb hq.pb) z ?_⟩
        have e : (2 : Int) ^ (vv (max (dd p) (dd q)) + 1) = 2 * 2 ^ vv (max (dd p) (dd q)) := by rw [Int.pow_succ]; omega
        have l := pow_mono (show vv (max (dd p) (dd q)) + 1 ≤ vv (max (dd p) (dd q) + 1) by show _ ≤ 2 * vv _ + 1; omega)
        omega
      · split
        · exact ⟨up.pb, up.le⟩
        · exact ⟨(lsr_pb hp.pb hq.pb).mono (bb_mono (Nat.le_succ _)), le_mono (lsr_pb hp.pb hq.pb) (le_lsr1 hp.pb hq.pb hq.le) (pow_mono (vv_mono (Nat.le_succ _)))⟩
    exact ⟨pb.1, pb.2, up.u⟩
  | group k f q ih =>
    intro s
    obtain ⟨hl, s⟩ := s
    have h := ih s
    have hd : dd (.group k f q) = dd q + 1 := rfl
    have e1 : (sem m (.group k f q)).1 = grp k (sem m q).1 (sem m q).2 q.cols := rfl
    have pbl : Pb (bb (dd q + 1)) (grp k (sem m q).1 (sem m q).2 q.cols) ∧ Le' (2 ^ vv (dd q + 1)) (grp k (sem m q).1 (sem m q).2 q.cols) := by
      have up := h.mono (Nat.le_succ (dd q))
      have big : 1 + (bb (dd q) + vv (dd q) + 1) + (bb (dd q) + vv (dd q) + 1) ≤ bb (dd q + 1) := by
        show _ ≤ 2 * bb _ + 16 * (vv _ + 5) + 2
        omega
      match k, hl with
      | [], _ => exact ⟨one_pb.mono (by have := bb6 (dd q + 1); omega), one_le _⟩
      | [k1], _ =>
        have p1 := (gstep_sd (cs := q.cols) h one_pb k1).mono (show _ ≤ bb (dd q + 1) by omega)
        exact ⟨lsr_pb p1 up.pb, le_lsr1 p1 up.pb up.le⟩
      | [k1, k2], _ =>
        have p1 := (gstep_sd (cs := q.cols) h (gstep_sd (cs := q.cols) h one_pb k1) k2).mono (show _ ≤ bb (dd q + 1) by omega)
        exact ⟨lsr_pb p1 up.pb, le_lsr1 p1 up.pb up.le⟩
    rw [hd]
    exact ⟨pbl.1, pbl.2, fun c => up_le pbl.1 pbl.2⟩
  | join w t p q ihp ihq =>
    intro s
    obtain ⟨hl, sp, sq⟩ := s
    have hp := (ihp sp).mono (Nat.le_max_left (dd p) (dd q))
    have hq := (ihq sq).mono (Nat.le_max_right (dd p) (dd q))
    have hd : dd (.join w t p q) = max (dd p) (dd q) + 1 := rfl
    rw [hd]
    have hu : ∀ c, 1 ≤ (sem m (.join w t p q)).2 c ∧ (sem m (.join w t p q)).2 c ≤ 2 ^ vv (max (dd p) (dd q)) := fun c => by
      show 1 ≤ (if c ∈ p.cols then (sem m p).2 c else (sem m q).2 c) ∧ (if c ∈ p.cols then (sem m p).2 c else (sem m q).2 c) ≤ _
      split
      · exact hp.u c
      · exact hq.u c
    obtain ⟨s1, s2⟩ := sh_pb (cs := askC (.join w t p q)) hu t
    have l : (vv (max (dd p) (dd q)) + 5) * 2 ^ t.lv ≤ (vv (max (dd p) (dd q)) + 5) * 2 ^ 4 := Nat.mul_le_mul_left _ (Nat.pow_le_pow_right (by decide) hl)
    have e1 : (sem m (.join w t p q)).1 = jn w (sem m p).1 (sem m q).1 (sh (askC (.join w t p q)) (sem m (.join w t p q)).2 t) := rfl
    have t1 := tms_pb hp.pb hq.pb
    have t2 := tms_pb t1 s1
    have v2 : 2 ^ vv (max (dd p) (dd q)) * 2 ^ vv (max (dd p) (dd q)) ≤ (2 : Int) ^ vv (max (dd p) (dd q) + 1) := by
      rw [← Int.pow_add]
      exact pow_mono (by show _ ≤ 2 * vv _ + 1; omega)
    have w1 := le_tms hp.pb hq.pb (Int.le_of_lt (pow_pos _)) hp.le hq.le
    have w2 := le_tms t1 s1 (Int.mul_nonneg (Int.le_of_lt (pow_pos _)) (Int.le_of_lt (pow_pos _))) w1 s2
    rw [Int.mul_one] at w2
    have th := tms_pb hp.pb half_pb
    have lh := le_tms hp.pb half_pb (Int.le_of_lt (pow_pos _)) hp.le (show Le' 1 (1, 2) by unfold Le'; decide)
    rw [Int.mul_one] at lh
    have up : Sd (max (dd p) (dd q) + 1) (sem m p) := hp.mono (Nat.le_succ _)
    have big : bb (max (dd p) (dd q)) + bb (max (dd p) (dd q)) + ((vv (max (dd p) (dd q)) + 5) * 2 ^ t.lv - 1) ≤ bb (max (dd p) (dd q) + 1) := by
      show _ ≤ 2 * bb _ + 16 * (vv _ + 5) + 2
      omega
    have big2 : bb (max (dd p) (dd q)) + 2 ≤ bb (max (dd p) (dd q) + 1) := by
      show _ ≤ 2 * bb _ + 16 * (vv _ + 5) + 2
      omega
    refine ⟨?_, ?_, fun c => ⟨(hu c).1, Int.le_trans (hu c).2 (pow_mono (vv_mono (Nat.le_succ _)))⟩⟩
    · rw [e1]
      unfold jn
      split
      · exact th.mono big2
      · split
        · exact up.pb
        · exact t2.mono big
    · rw [e1]
      unfold jn
      split
      · exact le_mono th lh (pow_mono (vv_mono (Nat.le_succ _)))
      · split
        · exact up.le
        · exact le_mono t2 w2 v2
theorem fit_of {m : Cn} (hm : CnOk m) : ∀ q : Qn, Slim q → dd q ≤ 3 → Fit m q := by
  have sb : ∀ q : Qn, Slim q → dd q ≤ 3 → SBs (sem m q) := fun q s h => by
    have z := (sd_all hm q s).mono h
    have b3 : bb 3 ≤ 2000 := by decide
    have v3 : vv 3 ≤ 60 := by decide
    exact ⟨z.pb.mono b3, fun c => ⟨(z.u c).1, Int.le_trans (z.u c).2 (pow_mono v3)⟩⟩
  intro q
  induction q with
  | take b al => exact fun s h => sb _ s h
  | wher t q ih => exact fun s h => ⟨sb (.wher t q) s h, s.1, ih s.2 (by simp only [dd] at h; omega)⟩
  | join w t p q ihp ihq => exact fun s h => ⟨sb (.join w t p q) s h, s.1, ihp s.2.1 (by simp only [dd] at h; omega), ihq s.2.2 (by simp only [dd] at h; omega)⟩
  | make r q ih => exact fun s h => ⟨sb (.make r q) s h, ih s h⟩
  | two tag p q ihp ihq => exact fun s h => ⟨sb (.two tag p q) s h, ihp s.1 (by simp only [dd] at h; omega), ihq s.2 (by simp only [dd] at h; omega)⟩
  | once q ih => exact fun s h => ⟨sb (.once q) s h, ih s h⟩
  | group k f q ih => exact fun s h => ⟨sb (.group k f q) s h, s.1, ih s.2 (by simp only [dd] at h; omega)⟩
  | tops n o q ih => exact fun s h => ⟨sb (.tops n o q) s h, ih s.2 h⟩
end Pure

set_option Elab.async false
set_option linter.all false
set_option maxRecDepth 100000
set_option maxHeartbeats 4000000
set_option autoImplicit false
set_option exponentiation.threshold 20000
/-! K11: the law's state; drawing numbers, picking. -/
namespace Pure
open PySem PL
def wd (dr : List Int) (a : Nat) (ne : Option Nat) : W := some ((.str "draws", .list (dr.map .int)) :: (.str "at", .int a) :: (match ne with | none => [] | some n => [(.str "nest", .int n)]))
/-- the state, nest being e -/
def St (e : Nat) (w : W) : Prop := ∃ dr a ne, w = wd dr a ne ∧ ne.getD 0 = e
theorem St.some {e : Nat} {w : W} (h : St e w) : w.isSome = true := by
  obtain ⟨dr, a, ne, rfl, _⟩ := h
  rfl
/-- what a drawing def gives: a value that is so, the state again -/
def Gives (N : Nat) (f : Str) (xs : List D) (e : Nat) (P : D → Prop) : Prop := ∀ w, St e w → ∃ x w', R N f xs w (x, w') ∧ P x ∧ St e w'
theorem Gives.mono {N M : Nat} {f : Str} {xs : List D} {e : Nat} {P : D → Prop} (h : Gives N f xs e P) (l : N ≤ M) : Gives M f xs e P := fun w hw => by
  obtain ⟨x, w', r, p, s⟩ := h w hw
  exact ⟨x, w', r.mono l, p, s⟩
theorem Gives.imp {N : Nat} {f : Str} {xs : List D} {e : Nat} {P Q : D → Prop} (h : Gives N f xs e P) (i : ∀ x, P x → Q x) : Gives N f xs e Q := fun w hw => by
  obtain ⟨x, w', r, p, s⟩ := h w hw
  exact ⟨x, w', r, i x p, s⟩
theorem Gives.use {N M : Nat} {f : Str} {xs : List D} {e : Nat} {P : D → Prop} (h : Gives N f xs e P) {Φ : Fn} (l : L M Φ) (hN : N ≤ M) {w : W} (hw : St e w) : ∃ x w', Φ f xs w = some (x, w') ∧ P x ∧ St e w' := by
  obtain ⟨x, w', r, p, s⟩ := h w hw
  exact ⟨x, w', r.use l hN, p, s⟩
theorem T_next : Tb.T "_law_next" = some Tb.f__law_next := by kernel_rfl
theorem T_pick : Tb.T "_law_pick" = some Tb.f__law_pick := by kernel_rfl
theorem put_at (dr : List Int) (a : Nat) (ne : Option Nat) (x : Int) : dPut ((.str "draws", .list (dr.map .int)) :: (.str "at", .int a) :: (match ne with | none => [] | some n => [(.str "nest", .int n)])) (.inr (Str.ofString "at")) (.int x) = ((.str "draws", .list (dr.map .int)) :: (.str "at", .int x) :: (match ne with | none => [] | some n => [(.str "nest", .int n)])) := by
  cases ne <;> rfl
theorem ln3 : lineOk 3 = true := by decide
theorem ln4 : lineOk 4 = true := by decide
theorem gives_next (k : Int) (hk : 0 < k) (e : Nat) : Gives 1 "_law_next" [.int k] e (fun x => ∃ r : Int, x = .int r ∧ 0 ≤ r ∧ r < k) := by
  intro w hw
  obtain ⟨dr, a, ne, rfl, he⟩ := hw
  have st : Tb.f__law_next.start [.int k] = [.st, .fz (.int k)] := rfl
  by_cases h : (dr.length : Int) < (a : Int) + 1
  · refine ⟨.int 0, wd dr (a + 1) ne, Run.of T_next rfl rfl fun Φ e => ?_, ⟨0, rfl, by decide, hk⟩, dr, a + 1, ne, rfl, he⟩
    rw [st]
    have pa := put_at dr a ne ((a : Int) + 1)
    unfold Tb.f__law_next Tb.b__law_next wd
    cases ne <;> (
      dsimp only at pa
      simp only [evSq_6, evSs, evq_2, dGet_cons, ofS, isSt_st, List.getElem?_cons_zero, Bool.true_and]
      simp [ln3, ln4, pa, bltD, h])
  · have hlt : a < dr.length := by omega
    have hx : L2.atI (dr.map PyData.int) (a : Int) = some (.int dr[a]) := by
      rw [atI_nat]
      simp [hlt]
    refine ⟨.int (dr[a] % k), wd dr (a + 1) ne, Run.of T_next rfl rfl fun Φ e => ?_, ⟨_, rfl, Int.emod_nonneg _ (by omega), Int.emod_lt_of_pos _ hk⟩, dr, a + 1, ne, rfl, he⟩
    rw [st]
    have pa := put_at dr a ne ((a : Int) + 1)
    have e1 : (a : Int) + 1 - 1 = a := by omega
    unfold Tb.f__law_next Tb.b__law_next wd
    cases ne <;> (
      dsimp only at pa
      simp only [evSq_6, evSs, evq_2, dGet_cons, ofS, isSt_st, List.getElem?_cons_zero, Bool.true_and]
      simp [ln3, ln4, pa, bltD, h, e1, hx, hk])
/-- picking from a list -/
theorem gives_pick (xs : List D) (h : xs ≠ []) (e : Nat) : Gives 2 "_law_pick" [.list xs] e (fun x => x ∈ xs) := by
  intro w hw
  have lp : 0 < xs.length := List.length_pos_iff.mpr h
  obtain ⟨y, w', r, ⟨k, rfl, k0, k1⟩, s⟩ := gives_next (xs.length : Int) (by omega) e w hw
  have st : Tb.f__law_pick.start [.list xs] = [.st, .fz (.list xs)] := rfl
  obtain ⟨n, rfl⟩ : ∃ n : Nat, k = n := ⟨k.toNat, by omega⟩
  have hn : n < xs.length := by omega
  refine ⟨xs[n], w', Run.of T_pick rfl (by rw [hw.some]; rfl) fun Φ e => ?_, List.getElem_mem hn, s⟩
  have h1 := r.use e (Nat.le_refl _)
  have hx : L2.atI xs (n : Int) = some xs[n] := by rw [atI_nat]; simp [hn]
  rw [st]
  unfold Tb.f__law_pick Tb.b__law_pick
  simp [bltD, h1, hx]
end Pure

set_option Elab.async false
set_option linter.all false
set_option maxRecDepth 100000
set_option maxHeartbeats 4000000
set_option autoImplicit false
set_option exponentiation.threshold 20000
/-! K12: schemas, takes. -/
namespace Pure
open PySem PL
theorem T_lsch : Tb.T "_law_schemas" = some Tb.f__law_schemas := by kernel_rfl
theorem T_take : Tb.T "_law_take" = some Tb.f__law_take := by kernel_rfl
theorem run_lsch (s : W) : R 1 "_law_schemas" [] s (schemasD, s) := by
  refine Run.of T_lsch rfl rfl fun Φ e => ?_
  unfold Tb.f__law_schemas Tb.b__law_schemas schemasD
  simp [FD.start]
  kernel_rfl
/-- columns with their kinds -/
abbrev Kn := List (Str × Str)
def kcD (r : Str × Str) : D := .tuple [.str r.1, .str r.2]
def knD (k : Kn) : D := .list (k.map kcD)
def colsK (b : Bool) : Kn := if b then [("k", "num"), ("x", "num"), ("s", "text")] else [("k", "num"), ("t", "num"), ("y", "num"), ("z", "text")]
def takeK (b : Bool) (al : Str) : Kn := (colsK b).map fun r => (al ++ Str.ofString "." ++ r.1, r.2)
theorem takeK_cols (b : Bool) (al : Str) : (takeK b al).map (·.1) = (Qn.take b al).cols := by
  cases b <;> rfl
def free (tk : List Str) : List Str := als.filter fun a => !decide (a ∈ tk)
theorem cut_some {xs : List D} (h : xs ≠ []) {i : Int} (hi : 1 ≤ i) : ∃ ys, cut xs none (some i) = ys ∧ ys ≠ [] ∧ ∀ y ∈ ys, y ∈ xs := by
  refine ⟨_, rfl, ?_, ?_⟩
  · unfold cut HT.sIx
    simp only
    rw [if_neg (by omega)]
    intro hc
    have : (List.take (min i.toNat xs.length - 0) (List.drop 0 xs)).length = 0 := by rw [hc]; rfl
    have lp : 0 < xs.length := List.length_pos_iff.mpr h
    simp at this
    rcases this with h1 | h1
    · omega
    · exact h h1
  · intro y hy
    unfold cut HT.sIx at hy
    exact List.mem_of_mem_drop (List.mem_of_mem_take hy)
theorem gives_take (tk : List Str) (h : free tk ≠ []) (e : Nat) : Gives 3 "_law_take" [.list (tk.map .str)] e (fun x => ∃ b al, al ∈ free tk ∧ x = .tuple [(Qn.take b al).toD, knD (takeK b al)]) := by
  intro w hw
  obtain ⟨tb, w1, r1, htb, s1⟩ := gives_pick [.str "t", .str "u"] (by simp) e w hw
  have hfr : (free tk).map PyData.str ≠ [] := by simpa using h
  obtain ⟨b, rfl⟩ : ∃ b, tb = .str (tn b) := by
    simp only [List.mem_cons, List.not_mem_nil, or_false] at htb
    rcases htb with rfl | rfl
    · exact ⟨true, rfl⟩
    · exact ⟨false, rfl⟩
  obtain ⟨ys, hys, ys0, ysm⟩ := cut_some hfr (i := if (4 : Int) - tk.length > 1 then 4 - tk.length else 1) (by split <;> omega)
  obtain ⟨y, w2, r2, hy, s2⟩ := gives_pick ys ys0 e w1 s1
  obtain ⟨al, hal, rfl⟩ := List.mem_map.mp (ysm y hy)
  have ha : al ∈ als := (List.mem_filter.mp hal).1
  have st : Tb.f__law_take.start [.list (tk.map .str)] = [.st, .fz (.list (tk.map .str)), .no, .no, .no, .no, .no, .no] := rfl
  refine ⟨_, w2, Run.of T_take rfl (by rw [hw.some]; rfl) fun Φ e => ?_, ⟨b, al, hal, rfl⟩, s2⟩
  have h1 := r1.use e (by omega)
  have h2 := r2.use e (by omega)
  have h3 := (run_lsch w2).use e (by omega)
  have hl : ∀ own elt t c, (∀ a ∈ als, lcT Φ Tb.G [.st, .fz (.list (tk.map .str)), .no, .no, .no, .no, .no, .no] own elt t c (.str a) w = some (if !decide (a ∈ tk) then some (.str a) else none, w)) →
      lcLoop (lcT Φ Tb.G [.st, .fz (.list (tk.map .str)), .no, .no, .no, .no, .no, .no] own elt t c) [.str "a", .str "b", .str "c", .str "d", .str "e", .str "f", .str "h", .str "i", .str "j", .str "l"] w = some ((free tk).map .str, w) := fun own elt t c hh => by
    have := lc_filtM (turn := lcT Φ Tb.G [.st, .fz (.list (tk.map .str)), .no, .no, .no, .no, .no, .no] own elt t c) (f := PyData.str) (h := PyData.str) (b := fun a => !decide (a ∈ tk)) (xs := als) (s := w) hh
    exact this
  rw [st]
  unfold Tb.f__law_take Tb.b__law_take
  have a1 := al_line ha
  have l1 : lineOk (al.length + (Str.ofString ".").length) = true := line_of (by rw [a1, dot_len]; omega)
  have l2 : ∀ c : Str, c.length = 1 → lineOk ((al ++ Str.ofString ".").length + c.length) = true := fun c hc => line_of (by rw [sapp_len, a1, dot_len, hc]; omega)
  rw [evSs, evSq_0, ev_lc]
  simp only [evI, ev, evs, seqOf]
  rw [hl _ _ _ _ (fun a _ => by by_cases hm : a ∈ tk <;> simp [lcT, wipeE, in_strsL, hm])]
  have hmx : bltD .max2 [.int 1, .int (4 - (tk.length : Int))] = some (.int (if (4 : Int) - tk.length > 1 then 4 - tk.length else 1)) := rfl
  have hle : bltD .len [.list (tk.map .str)] = some (.int (tk.length : Int)) := by simp [bltD]
  simp [hle, hmx, h1, slD, hys, h2, h3]
  cases b <;> simp [setCs, tn, h3, schemasD, seqOf, lcLoop, lcT, wipeE, l1, l2 "k" (by decide +kernel), l2 "x" (by decide +kernel), l2 "s" (by decide +kernel), l2 "t" (by decide +kernel), l2 "y" (by decide +kernel), l2 "z" (by decide +kernel), Qn.toD, knD, takeK, colsK, kcD]
end Pure

set_option Elab.async false
set_option linter.all false
set_option maxRecDepth 100000
set_option maxHeartbeats 4000000
set_option autoImplicit false
set_option exponentiation.threshold 20000
/-! K13: terms and tests: the nest. -/
namespace Pure
open PySem PL
theorem T_term : Tb.T "_law_term" = some Tb.f__law_term := by kernel_rfl
theorem T_termof : Tb.T "_law_term_of" = some Tb.f__law_term_of := by kernel_rfl
theorem T_test : Tb.T "_law_test" = some Tb.f__law_test := by kernel_rfl
theorem T_testof : Tb.T "_law_test_of" = some Tb.f__law_test_of := by kernel_rfl
def wl (dr : List Int) (a : Nat) (ne : Option Nat) : KV := (.str "draws", .list (dr.map .int)) :: (.str "at", .int a) :: (match ne with | none => [] | some n => [(.str "nest", .int n)])
theorem wd_eq (dr : List Int) (a : Nat) (ne : Option Nat) : wd dr a ne = some (wl dr a ne) := rfl
theorem wl_line (dr : List Int) (a : Nat) (ne : Option Nat) : lineOk ((wl dr a ne).length + 1) = true := by
  cases ne <;> exact line_of (by simp [wl])
theorem wl_get (dr : List Int) (a : Nat) (ne : Option Nat) : (dGet (wl dr a ne) (.inr (Str.ofString "nest"))).getD (.int 0) = .int ((ne.getD 0 : Nat) : Int) := by
  cases ne <;> simp [wl]
theorem wl_get' (dr : List Int) (a : Nat) (n : Nat) : dGet (wl dr a (some n)) (.inr (Str.ofString "nest")) = some (.int (n : Int)) := by
  simp [wl]
theorem wl_put (dr : List Int) (a : Nat) (ne : Option Nat) (n : Nat) : dPut (wl dr a ne) (.inr (Str.ofString "nest")) (.int (n : Int)) = wl dr a (some n) := by
  cases ne <;> rfl
theorem st_of {e : Nat} {w : W} (h : St (e + 1) w) : ∃ dr a, w = some (wl dr a (some (e + 1))) := by
  obtain ⟨dr, a, ne, rfl, he⟩ := h
  cases ne with
  | none => simp at he
  | some n => exact ⟨dr, a, by simp at he; rw [he]; rfl⟩
theorem st_mk (e : Nat) (dr : List Int) (a : Nat) : St e (some (wl dr a (some e))) := ⟨dr, a, some e, rfl, rfl⟩
theorem gives_term {N e : Nat} {k kind deep : D} {P : D → Prop} (hN : 1 ≤ N) (h : ∀ way : Int, 0 ≤ way → way < (if e + 1 < 7 then 9 else 5) → Gives N "_law_term_of" [k, kind, deep, .int way] (e + 1) P) :
    Gives (N + 1) "_law_term" [k, kind, deep] e P := by
  intro w hw
  obtain ⟨dr, a, ne, rfl, he⟩ := hw
  obtain ⟨_, w2, r2, ⟨way, rfl, y0, y1⟩, s2⟩ := gives_next (if e + 1 < 7 then 9 else 5) (by split <;> decide) (e + 1) _ (st_mk (e + 1) dr a)
  obtain ⟨x, w3, r3, px, s3⟩ := h way y0 y1 w2 s2
  obtain ⟨dr3, a3, rfl⟩ := st_of s3
  refine ⟨x, some (wl dr3 a3 (some e)), Run.of T_term rfl rfl fun Φ l => ?_, px, st_mk e dr3 a3⟩
  have st : Tb.f__law_term.start [k, kind, deep] = [.st, .fz k, .fz kind, .fz deep, .no] := rfl
  have h2 := r2.use l hN
  have h3 := r3.use l (Nat.le_refl _)
  have p1 := wl_put dr a ne (e + 1)
  have p2 := wl_put dr3 a3 (some (e + 1)) e
  have g1 := wl_get dr a ne
  rw [he] at g1
  have c1 : ((e : Int) + 1) = ((e + 1 : Nat) : Int) := by push_cast; rfl
  have c2 : (((e + 1 : Nat) : Int) - 1) = (e : Int) := by omega
  have lt : (((e + 1 : Nat) : Int) < 7) ↔ e + 1 < 7 := by omega
  rw [st, wd_eq]
  unfold Tb.f__law_term Tb.b__law_term
  by_cases hc : e + 1 < 7
  · rw [if_pos hc] at h2
    have hd : decide (((e + 1 : Nat) : Int) < 7) = true := decide_eq_true (lt.mpr hc)
    simp only [evSs, evSq_5, evq_25, evq_2, evq_24, evq_20, evSq_0, evSq_11, isSt_st, List.getElem?_cons_zero, Bool.true_and, if_true, g1, wl_line, p1, p2]
    simp [-Int.natCast_add, g1, wl_line, c1, c2, p1, p2, wl_get', hd, h2, h3]
  · rw [if_neg hc] at h2
    have hd : decide (((e + 1 : Nat) : Int) < 7) = false := decide_eq_false (fun c => hc (lt.mp c))
    simp [-Int.natCast_add, g1, wl_line, c1, c2, p1, p2, wl_get', hd, h2, h3]
theorem gives_test {N e : Nat} {k deep : D} {P : D → Prop} (hN : 1 ≤ N) (h : ∀ way : Int, 0 ≤ way → way < (if e + 1 < 5 then 12 else 7) → Gives N "_law_test_of" [k, deep, .int way] (e + 1) P) :
    Gives (N + 1) "_law_test" [k, deep] e P := by
  intro w hw
  obtain ⟨dr, a, ne, rfl, he⟩ := hw
  obtain ⟨_, w2, r2, ⟨way, rfl, y0, y1⟩, s2⟩ := gives_next (if e + 1 < 5 then 12 else 7) (by split <;> decide) (e + 1) _ (st_mk (e + 1) dr a)
  obtain ⟨x, w3, r3, px, s3⟩ := h way y0 y1 w2 s2
  obtain ⟨dr3, a3, rfl⟩ := st_of s3
  refine ⟨x, some (wl dr3 a3 (some e)), Run.of T_test rfl rfl fun Φ l => ?_, px, st_mk e dr3 a3⟩
  have st : Tb.f__law_test.start [k, deep] = [.st, .fz k, .fz deep, .no] := rfl
  have h2 := r2.use l hN
  have h3 := r3.use l (Nat.le_refl _)
  have p1 := wl_put dr a ne (e + 1)
  have p2 := wl_put dr3 a3 (some (e + 1)) e
  have g1 := wl_get dr a ne
  rw [he] at g1
  have c1 : ((e : Int) + 1) = ((e + 1 : Nat) : Int) := by push_cast; rfl
  have c2 : (((e + 1 : Nat) : Int) - 1) = (e : Int) := by omega
  have lt : (((e + 1 : Nat) : Int) < 5) ↔ e + 1 < 5 := by omega
  rw [st, wd_eq]
  unfold Tb.f__law_test Tb.b__law_test
  by_cases hc : e + 1 < 5
  · rw [if_pos hc] at h2
    have hd : decide (((e + 1 : Nat) : Int) < 5) = true := decide_eq_true (lt.mpr hc)
    simp only [evSs, evSq_5, evq_25, evq_2, evq_24, evq_20, evSq_0, evSq_11, isSt_st, List.getElem?_cons_zero, Bool.true_and, if_true, g1, wl_line, p1, p2]
    simp [-Int.natCast_add, g1, wl_line, c1, c2, p1, p2, wl_get', hd, h2, h3]
  · rw [if_neg hc] at h2
    have hd : decide (((e + 1 : Nat) : Int) < 5) = false := decide_eq_false (fun c => hc (lt.mp c))
    simp [-Int.natCast_add, g1, wl_line, c1, c2, p1, p2, wl_get', hd, h2, h3]
end Pure

set_option Elab.async false
set_option linter.all false
set_option maxRecDepth 100000
set_option maxHeartbeats 4000000
set_option autoImplicit false
set_option exponentiation.threshold 20000
/-! K14: terms. -/
namespace Pure
open PySem PL
@[simp] theorem lay_t (xs : List D) : PyData.canLay0 (.tuple xs) = PyData.canLayAll0 xs := by simp only [PyData.canLay0]
@[simp] theorem lay_n : PyData.canLayAll0 [] = true := by simp only [PyData.canLayAll0]
@[simp] theorem lay_c (x : D) (xs : List D) : PyData.canLayAll0 (x :: xs) = (PyData.canLay0 x && PyData.canLayAll0 xs) := by simp only [PyData.canLayAll0]
@[simp] theorem lay_i (i : Int) : PyData.canLay0 (.int i) = true := by simp only [PyData.canLay0]
def lits : List String := ["col", "add", "sub", "mul", "neg", "first", "fold", "make", "where", "count", "sum", "least", "most", "pick", "num", "text", "null", "n", "same", "below", "isnull", "some", "once", "tops", "among", "m", "not", "and", "or", "yes", "no", "a", "", "ab", "take", "t", "u", "c", "d", "g", "h", "join", "group", "all", "both", "less", "common", "in", "left", "semi", "anti"]
theorem lits_lay : ∀ s ∈ lits, PyData.canLay0 (.str (Str.ofString s)) = true := by decide +kernel
theorem lay_l {s : String} (h : lits.contains s = true) : PyData.canLay0 (.str (Str.ofString s)) = true := lits_lay s (by simpa using h)
def TmL (x : D) : Prop := TmOk x ∧ PyData.canLay0 x = true
structure KnOk (e : Nat) (k : Kn) : Prop where
  lay : ∀ r ∈ k, PyData.canLay0 (.str r.1) = true
  len : k.length + 8 * (10 - e) ≤ 1000
def KdOk (s : Str) : Prop := s = Str.ofString "num" ∨ s = Str.ofString "text"
def TermC (N e : Nat) : Prop := ∀ (k : Kn) (kind : Str) (deep : Int), KnOk e k → KdOk kind → Gives N "_law_term" [knD k, .str kind, .int deep] e TmL
def TestP (e : Nat) (x : D) : Prop := ∃ t : Ts, x = t.toD ∧ t.Ok ∧ t.lv ≤ 4 - e ∧ PyData.canLay0 x = true
def TestC (N e : Nat) : Prop := ∀ (k : Kn) (deep : Int), KnOk e k → Gives N "_law_test" [knD k, .int deep] e (TestP e)
/-- the leaves of terms -/
theorem tmL_tag (s : String) (rest : List D) (h : lits.contains s = true) (hc : s ≠ "col") (hr : PyData.canLayAll0 rest = true) : TmL (.tuple (.str (Str.ofString s) :: rest)) := by
  refine ⟨⟨_, rest, rfl, fun c => absurd ((ofS _ _).mp c) hc⟩, ?_⟩
  simp [lay_l h, hr]
theorem tmL_col {n : Str} (h : PyData.canLay0 (.str n) = true) : TmL (.tuple [.str (Str.ofString "col"), .str n]) :=
  ⟨⟨_, _, rfl, fun _ => ⟨n, rfl⟩⟩, by simp [lay_l (s := "col") (by decide), h]⟩
def able (k : Kn) (kind : Str) : List Str := (k.filter fun r => decide (r.2 = kind)).map (·.1)
theorem able_lay {k : Kn} {kind : Str} (h : ∀ r ∈ k, PyData.canLay0 (.str r.1) = true) : PyData.canLayAll0 ((able k kind).map .str) = true :=
  lay_names fun c hc => by
    obtain ⟨r, hr, rfl⟩ := List.mem_map.mp hc
    exact h r (List.mem_filter.mp hr).1
theorem cmp_ne (x y : D) : cmpD .ne x y = (cmpD .eq x y).map (!·) := by
  unfold cmpD
  split <;> simp_all
def lastN : List D := [.tuple [.str "num", .int 0], .tuple [.str "num", .int 1], .tuple [.str "num", .int 2], .tuple [.str "num", .int (-3)], .tuple [.str "null"]]
def lastT : List D := [.tuple [.str "text", .str "a"], .tuple [.str "text", .str ""], .tuple [.str "text", .str "ab"], .tuple [.str "null"]]
theorem lastN_ok : ∀ x ∈ lastN, TmL x := by
  intro x hx
  simp only [lastN, List.mem_cons, List.not_mem_nil, or_false] at hx
  rcases hx with rfl | rfl | rfl | rfl | rfl
  · exact tmL_tag "num" _ (by decide) (by decide) (by simp)
  · exact tmL_tag "num" _ (by decide) (by decide) (by simp)
  · exact tmL_tag "num" _ (by decide) (by decide) (by simp)
  · exact tmL_tag "num" _ (by decide) (by decide) (by simp)
  · exact tmL_tag "null" _ (by decide) (by decide) (by simp)
theorem lastT_ok : ∀ x ∈ lastT, TmL x := by
  intro x hx
  simp only [lastT, List.mem_cons, List.not_mem_nil, or_false] at hx
  rcases hx with rfl | rfl | rfl | rfl
  · exact tmL_tag "text" _ (by decide) (by decide) (by simp [lay_l (s := "a") (by decide)])
  · exact tmL_tag "text" _ (by decide) (by decide) (by simp [lay_l (s := "") (by decide)])
  · exact tmL_tag "text" _ (by decide) (by decide) (by simp [lay_l (s := "ab") (by decide)])
  · exact tmL_tag "null" _ (by decide) (by decide) (by simp)
end Pure

set_option Elab.async false
set_option linter.all false
set_option maxRecDepth 100000
set_option maxHeartbeats 4000000
set_option autoImplicit false
set_option exponentiation.threshold 20000
/-! K15: what a term is made of. -/
namespace Pure
open PySem PL
theorem knD_add {x y : Kn} (h : x.length + y.length ≤ 4000) : binD .add (knD x) (knD y) = some (knD (x ++ y)) := by
  unfold knD
  rw [binD_addL]
  rw [if_pos (line_of (by simpa using h))]
  simp
theorem takeK_len (b : Bool) (al : Str) : (takeK b al).length ≤ 4 := by
  cases b <;> simp [takeK, colsK]
theorem takeK_lay {al : Str} (b : Bool) (h : al ∈ als) : ∀ r ∈ takeK b al, PyData.canLay0 (.str r.1) = true := by
  intro r hr
  obtain ⟨c, hc, rfl⟩ := List.mem_map.mp hr
  refine lay_al al h b c.1 ?_
  have : (colsK b).map (·.1) = colsOf b := by cases b <;> rfl
  rw [← this]
  exact List.mem_map_of_mem hc
theorem take_lay {al : Str} (b : Bool) (h : al ∈ als) : PyData.canLay0 (Qn.take b al).toD = true := by
  have h1 : ∀ a ∈ als, PyData.canLay0 (.str a) = true := by decide +kernel
  cases b <;> simp [Qn.toD, tn, lay_l (s := "take") (by decide), lay_l (s := "t") (by decide), lay_l (s := "u") (by decide), h1 al h]
theorem kn_app {e : Nat} {k : Kn} {al : Str} {b : Bool} (h : al ∈ als) (hk : ∀ r ∈ k, PyData.canLay0 (.str r.1) = true) (hl : k.length + 4 + 8 * (10 - e) ≤ 1000) : KnOk e (takeK b al ++ k) := by
  constructor
  · intro r hr
    rcases List.mem_append.mp hr with h1 | h1
    · exact takeK_lay b h r h1
    · exact hk r h1
  · have := takeK_len b al
    rw [List.length_append]; omega
theorem free_nil : free [] ≠ [] := by decide +kernel
theorem free_als {tk : List Str} {al : Str} (h : al ∈ free tk) : al ∈ als := (List.mem_filter.mp h).1
theorem gives_termof {N e : Nat} (hN : 3 ≤ N) {k : Kn} {kind : Str} {deep way : Int} (hk : ∀ r ∈ k, PyData.canLay0 (.str r.1) = true) (hd : KdOk kind) (w0 : 0 ≤ way) (w9 : way < 9)
    (hl : 5 ≤ way → k.length + 4 + 8 * (10 - e) ≤ 1000) (hT : 5 ≤ way → TermC N e) (hS : 5 ≤ way → TestC N e) :
    Gives (N + 1) "_law_term_of" [knD k, .str kind, .int deep, .int way] e TmL := by
  intro w hw
  have st : Tb.f__law_term_of.start [knD k, .str kind, .int deep, .int way] = [.st, .fz (knD k), .fz (.str kind), .fz (.int deep), .fz (.int way), .no, .no, .no, .no, .no, .no, .no] := rfl
  have hab : ∀ Φ : Fn, ev Φ Tb.G [.st, .fz (knD k), .fz (.str kind), .fz (.int deep), .fz (.int way), .no, .no, .no, .no, .no, .no, .no] (.lc [10, 11] (.v 10) (.tup [10, 11]) (.seq (.v 1)) (.yes (.cmp .eq (.v 11) (.v 2)))) w = some (.list ((able k kind).map .str), w) := fun Φ => by
    rw [ev_lc]
    simp only [evI, ev, knD, seqOf, List.getElem?_cons_succ, List.getElem?_cons_zero, fzC_fz]
    rw [lc_filtM (f := kcD) (h := fun r => .str r.1) (b := fun r => decide (r.2 = kind))]
    · simp [able, Function.comp_def]
    · intro r _
      by_cases hm : r.2 = kind <;> simp [lcT, wipeE, kcD, hm]
  have hne : cmpD .ne (.list ((able k kind).map .str)) (.list []) = some (!isE (able k kind)) := by rw [cmp_ne, eq_nilE (able_lay hk)]; rfl
  have fin : (∀ (Φ : Fn) (y : D) (w1 : W), Φ "_law_pick" [.list (if kind = Str.ofString "num" then lastN else lastT)] w = some (y, w1) → evSs Φ Tb.G gf Tb.b__law_term_of [.st, .fz (knD k), .fz (.str kind), .fz (.int deep), .fz (.int way), .no, .no, .no, .no, .no, .no, .no] w = some (.rt y, w1)) → ∃ x w', R (N + 1) "_law_term_of" [knD k, .str kind, .int deep, .int way] w (x, w') ∧ TmL x ∧ St e w' := by
    intro hh
    obtain ⟨y, w1, r1, hy, s1⟩ := gives_pick (if kind = Str.ofString "num" then lastN else lastT) (by split <;> simp [lastN, lastT]) e w hw
    refine ⟨y, w1, Run.of T_termof rfl (by rw [hw.some]; rfl) fun Φ l => ?_, ?_, s1⟩
    · have h1 := r1.use l (by omega)
      rw [st]
      show evSs Φ Tb.G gf Tb.b__law_term_of _ w = _
      exact hh Φ y w1 h1
    · split at hy
      · exact lastN_ok y hy
      · exact lastT_ok y hy
  by_cases c1 : way < 5
  · by_cases c2 : able k kind = []
    · refine fin fun Φ y w1 h1 => ?_
      unfold Tb.b__law_term_of
      rw [evSs, evSq_0, hab]
      have c3 : isE (able k kind) = true := by simpa [isE] using c2
      have n5 : ¬ way = 5 := by omega
      have n6 : ¬ way = 6 := by omega
      have n7 : ¬ way = 7 := by omega
      have n8 : ¬ way = 8 := by omega
      have m5 : ¬ 5 = way := by omega
      have m6 : ¬ 6 = way := by omega
      rcases hd with rfl | rfl <;> (
        simp [lastN, lastT] at h1
        simp [c1, hne, c3, inD, flatD, n5, n6, n7, n8, m5, m6, h1])
    · have hp : (able k kind).map PyData.str ≠ [] := by simpa using c2
      obtain ⟨y, w1, r1, hy, s1⟩ := gives_pick _ hp e w hw
      obtain ⟨n, hn, rfl⟩ := List.mem_map.mp hy
      obtain ⟨r, hr, rfl⟩ := List.mem_map.mp hn
      refine ⟨_, w1, Run.of T_termof rfl (by rw [hw.some]; rfl) fun Φ l => ?_, tmL_col (hk r (List.mem_filter.mp hr).1), s1⟩
      have h1 := r1.use l (by omega)
      rw [st]
      unfold Tb.f__law_term_of Tb.b__law_term_of
      rw [evSs, evSq_0, hab]
      have c3 : isE (able k kind) = false := by simpa [isE] using c2
      simp [c1, hne, c3, h1]
  · have cT := hT (by omega)
    have cS := hS (by omega)
    have cl := hl (by omega)
    clear hT hS hl
    have ko : KnOk e k := ⟨hk, by omega⟩
    have kn : KnOk e [] := ⟨by simp, by simp; omega⟩
    have l2 : lineOk (1 + 1 + 1) = true := line_of (by decide)
    have l3 : lineOk (1 + 1) = true := line_of (by decide)
    obtain h56 | rfl | rfl : (way = 5 ∨ way = 6) ∨ way = 7 ∨ way = 8 := by omega
    · rcases hd with rfl | rfl
      · obtain ⟨y, w1, r1, hy, s1⟩ := gives_pick [.str "add", .str "sub", .str "mul", .str "neg"] (by simp) e w hw
        obtain ⟨a, w2, r2, pa, s2⟩ := cT k "num" 0 ko (.inl rfl) w1 s1
        obtain ⟨b, w3, r3, pb, s3⟩ := cT k "num" 0 ko (.inl rfl) w2 s2
        have two : ∀ s : String, y = .str (Str.ofString s) → lits.contains s = true → s ≠ "col" → s ≠ "neg" → ∃ x w', R (N + 1) "_law_term_of" [knD k, .str "num", .int deep, .int way] w (x, w') ∧ TmL x ∧ St e w' := by
          rintro s rfl hs hc hn
          refine ⟨_, w3, Run.of T_termof rfl (by rw [hw.some]; rfl) fun Φ l => ?_, tmL_tag s [a, b] hs hc (by simp [pa.2, pb.2]), s3⟩
          have h1 := r1.use l (by omega)
          have h2 := r2.use l (Nat.le_refl _)
          have h3 := r3.use l (Nat.le_refl _)
          rw [st]
          unfold Tb.f__law_term_of Tb.b__law_term_of
          rw [evSs, evSq_0, hab]
          rcases h56 with rfl | rfl <;> simp [hne, inD, flatD, h1, h2, h3, hn, l2]
        simp only [List.mem_cons, List.not_mem_nil, or_false] at hy
        rcases hy with hy | hy | hy | rfl
        · exact two "add" hy (by decide) (by decide) (by decide)
        · exact two "sub" hy (by decide) (by decide) (by decide)
        · exact two "mul" hy (by decide) (by decide) (by decide)
        · refine ⟨_, w2, Run.of T_termof rfl (by rw [hw.some]; rfl) fun Φ l => ?_, tmL_tag "neg" [a] (by decide) (by decide) (by simp [pa.2]), s2⟩
          have h1 := r1.use l (by omega)
          have h2 := r2.use l (Nat.le_refl _)
          rw [st]
          unfold Tb.f__law_term_of Tb.b__law_term_of
          rw [evSs, evSq_0, hab]
          rcases h56 with rfl | rfl <;> simp [hne, inD, flatD, h1, h2, l3]
      · refine fin fun Φ y w1 h1 => ?_
        unfold Tb.b__law_term_of
        rw [evSs, evSq_0, hab]
        simp [lastT] at h1
        rcases h56 with rfl | rfl <;> simp [hne, inD, flatD, h1]
    · obtain ⟨a, w1, r1, pa, s1⟩ := cT k kind 0 ko hd w hw
      obtain ⟨b, w2, r2, pb, s2⟩ := cT k kind 0 ko hd w1 s1
      refine ⟨_, w2, Run.of T_termof rfl (by rw [hw.some]; rfl) fun Φ l => ?_, tmL_tag "first" [a, b] (by decide) (by decide) (by simp [pa.2, pb.2]), s2⟩
      have h1 := r1.use l (Nat.le_refl _)
      have h2 := r2.use l (Nat.le_refl _)
      rw [st]
      unfold Tb.f__law_term_of Tb.b__law_term_of
      rw [evSs, evSq_0, hab]
      rcases hd with rfl | rfl <;> simp [hne, inD, flatD, h1, h2]
    · by_cases dp : 0 < deep
      · obtain ⟨tk, w1, r1, ⟨b, al, hal, rfl⟩, s1⟩ := gives_take [] free_nil e w hw
        have ha := free_als hal
        have kc := kn_app (b := b) ha hk cl
        obtain ⟨t, w2, r2, ⟨tt, _, _, _, pt⟩, s2⟩ := cS (takeK b al ++ k) 0 kc w1 s1
        obtain ⟨f, w3, r3, hf, s3⟩ := gives_pick (if kind = Str.ofString "num" then [.str "count", .str "sum", .str "least", .str "most"] else [.str "least", .str "most"]) (by split <;> simp) e w2 s2
        obtain ⟨a, w4, r4, pa, s4⟩ := cT (takeK b al ++ k) kind 0 kc hd w3 s3
        have hfl : PyData.canLay0 f = true := by
          have : ∀ s : String, lits.contains s = true → f = .str (Str.ofString s) → PyData.canLay0 f = true := by
            rintro s hs rfl; exact lay_l hs
          split at hf <;> simp only [List.mem_cons, List.not_mem_nil, or_false] at hf
          · rcases hf with h | h | h | h
            · exact this "count" (by decide) h
            · exact this "sum" (by decide) h
            · exact this "least" (by decide) h
            · exact this "most" (by decide) h
          · rcases hf with h | h
            · exact this "least" (by decide) h
            · exact this "most" (by decide) h
        refine ⟨_, w4, Run.of T_termof rfl (by rw [hw.some]; rfl) fun Φ l => ?_, tmL_tag "fold" [f, .tuple [.str "make", .tuple [.tuple [.str "n", a]], .tuple [.str "where", t, (Qn.take b al).toD]]] (by decide) (by decide) (by
          simp [hfl, lay_l (s := "make") (by decide), lay_l (s := "n") (by decide), lay_l (s := "where") (by decide), pa.2, pt, take_lay b ha]), s4⟩
        have h1 := r1.use l hN
        have h2 := r2.use l (Nat.le_refl _)
        have h3 := r3.use l (by omega)
        have h4 := r4.use l (Nat.le_refl _)
        have ka : binD .add (knD (takeK b al)) (knD k) = some (knD (takeK b al ++ k)) := knD_add (by have := takeK_len b al; omega)
        simp only [List.map_nil] at h1
        rw [st]
        unfold Tb.f__law_term_of Tb.b__law_term_of
        rw [evSs, evSq_0, hab]
        rcases hd with rfl | rfl <;> (
          simp at h3
          simp [hne, inD, flatD, dp, h1, h2, h3, h4, ka])
      · obtain ⟨t, w1, r1, ⟨tt, _, _, _, pt⟩, s1⟩ := cS k 0 ko w hw
        obtain ⟨a, w2, r2, pa, s2⟩ := cT [] kind 0 kn hd w1 s1
        obtain ⟨b, w3, r3, pb, s3⟩ := cT k kind 0 ko hd w2 s2
        refine ⟨_, w3, Run.of T_termof rfl (by rw [hw.some]; rfl) fun Φ l => ?_, tmL_tag "pick" [t, a, b] (by decide) (by decide) (by simp [pa.2, pb.2, pt]), s3⟩
        have h1 := r1.use l (Nat.le_refl _)
        have h2 := r2.use l (Nat.le_refl _)
        have h3 := r3.use l (Nat.le_refl _)
        have k0 : knD [] = .list [] := rfl
        rw [k0] at h2
        rw [st]
        unfold Tb.f__law_term_of Tb.b__law_term_of
        rw [evSs, evSq_0, hab]
        rcases hd with rfl | rfl <;> simp [hne, inD, flatD, dp, h1, h2, h3]
end Pure

set_option Elab.async false
set_option linter.all false
set_option maxRecDepth 100000
set_option maxHeartbeats 4000000
set_option autoImplicit false
set_option exponentiation.threshold 20000
/-! K16: what a test is made of. -/
namespace Pure
open PySem PL
def leafT (x : D) : Prop := ∃ t : Ts, x = t.toD ∧ t.Ok ∧ t.lv = 0 ∧ PyData.canLay0 x = true
theorem leaf_oth (s : String) (rest : List D) (hs : s = "below" ∨ s = "isnull" ∨ s = "some" ∨ s = "among") (hr : PyData.canLayAll0 rest = true) : leafT (.tuple (.str (Str.ofString s) :: rest)) := by
  refine ⟨.oth (Str.ofString s) rest, by rw [Ts.toD], ?_, by simp [Ts.lv], ?_⟩
  · rcases hs with rfl | rfl | rfl | rfl
    · exact .inl rfl
    · exact .inr (.inl rfl)
    · exact .inr (.inr (.inl rfl))
    · exact .inr (.inr (.inr rfl))
  · rcases hs with rfl | rfl | rfl | rfl
    · simp [hr, lay_l (s := "below") (by decide)]
    · simp [hr, lay_l (s := "isnull") (by decide)]
    · simp [hr, lay_l (s := "some") (by decide)]
    · simp [hr, lay_l (s := "among") (by decide)]
theorem leaf_same {a b : D} (ha : TmL a) (hb : TmL b) : leafT (.tuple [.str "same", a, b]) :=
  ⟨.same a b, by rw [Ts.toD], ⟨ha.1, hb.1⟩, by simp [Ts.lv], by simp [ha.2, hb.2, lay_l (s := "same") (by decide)]⟩
theorem leaf_yes : leafT (.tuple [.str "yes"]) := ⟨.yes, by rw [Ts.toD], trivial, by simp [Ts.lv], by simp [lay_l (s := "yes") (by decide)]⟩
theorem leaf_no : leafT (.tuple [.str "no"]) := ⟨.no, by rw [Ts.toD], trivial, by simp [Ts.lv], by simp [lay_l (s := "no") (by decide)]⟩
/-- a test of at most v levels -/
def TestL (v : Nat) (x : D) : Prop := ∃ t : Ts, x = t.toD ∧ t.Ok ∧ t.lv ≤ v ∧ PyData.canLay0 x = true
theorem leafT.le {x : D} (h : leafT x) (v : Nat) : TestL v x := by
  obtain ⟨t, a, b, c, d⟩ := h
  exact ⟨t, a, b, by omega, d⟩
end Pure

set_option Elab.async false
set_option linter.all false
set_option maxRecDepth 100000
set_option maxHeartbeats 4000000
set_option autoImplicit false
set_option exponentiation.threshold 20000
/-! K17: _law_test_of. -/
namespace Pure
open PySem PL
theorem kd_pick {x : D} (h : x ∈ [PyData.str "num", .str "num", .str "text"]) : ∃ kind, KdOk kind ∧ x = .str kind := by
  simp only [List.mem_cons, List.not_mem_nil, or_false] at h
  rcases h with rfl | rfl | rfl
  · exact ⟨_, .inl rfl, rfl⟩
  · exact ⟨_, .inl rfl, rfl⟩
  · exact ⟨_, .inr rfl, rfl⟩
theorem kd_pick2 {x : D} (h : x ∈ [PyData.str "num", .str "text"]) : ∃ kind, KdOk kind ∧ x = .str kind := by
  simp only [List.mem_cons, List.not_mem_nil, or_false] at h
  rcases h with rfl | rfl
  · exact ⟨_, .inl rfl, rfl⟩
  · exact ⟨_, .inr rfl, rfl⟩
theorem gives_testof_lo {N e : Nat} (hN : 3 ≤ N) {k : Kn} {deep way : Int} (ko : KnOk e k) (w0 : 0 ≤ way) (w7 : way < 7) (hT : TermC N e) :
    Gives (N + 1) "_law_test_of" [knD k, .int deep, .int way] e leafT := by
  intro w hw
  have st : Tb.f__law_test_of.start [knD k, .int deep, .int way] = [.st, .fz (knD k), .fz (.int deep), .fz (.int way), .no, .no, .no] := rfl
  by_cases c : way < 6
  · obtain ⟨y, w1, r1, hy, s1⟩ := gives_pick [.str "num", .str "num", .str "text"] (by simp) e w hw
    obtain ⟨kind, hk, rfl⟩ := kd_pick hy
    obtain ⟨t, w2, r2, ht, s2⟩ := gives_pick [.str "same", .str "same", .str "below"] (by simp) e w1 s1
    obtain ⟨a, w3, r3, pa, s3⟩ := hT k kind deep ko hk w2 s2
    obtain ⟨b, w4, r4, pb, s4⟩ := hT k kind 0 ko hk w3 s3
    refine ⟨.tuple [t, a, b], w4, Run.of T_testof rfl (by rw [hw.some]; rfl) fun Φ l => ?_, ?_, s4⟩
    · have h1 := r1.use l (by omega)
      have h2 := r2.use l (by omega)
      have h3 := r3.use l (Nat.le_refl _)
      have h4 := r4.use l (Nat.le_refl _)
      rw [st]
      unfold Tb.f__law_test_of Tb.b__law_test_of
      simp [c, h1, h2, h3, h4]
    · simp only [List.mem_cons, List.not_mem_nil, or_false] at ht
      rcases ht with rfl | rfl | rfl
      · exact leaf_same pa pb
      · exact leaf_same pa pb
      · exact leaf_oth "below" _ (.inl rfl) (by simp [pa.2, pb.2])
  · obtain rfl : way = 6 := by omega
    obtain ⟨y, w1, r1, hy, s1⟩ := gives_pick [.str "num", .str "text"] (by simp) e w hw
    obtain ⟨kind, hk, rfl⟩ := kd_pick2 hy
    obtain ⟨a, w2, r2, pa, s2⟩ := hT k kind 0 ko hk w1 s1
    refine ⟨_, w2, Run.of T_testof rfl (by rw [hw.some]; rfl) fun Φ l => ?_, leaf_oth "isnull" [a] (.inr (.inl rfl)) (by simp [pa.2]), s2⟩
    have h1 := r1.use l (by omega)
    have h2 := r2.use l (Nat.le_refl _)
    rw [st]
    unfold Tb.f__law_test_of Tb.b__law_test_of
    simp [h1, h2]
def TestV (N e v : Nat) : Prop := ∀ (k : Kn) (deep : Int), KnOk e k → Gives N "_law_test" [knD k, .int deep] e (TestL v)
theorem gives_testof_hi {N e v : Nat} (hN : 3 ≤ N) {k : Kn} {deep way : Int} (hk : ∀ r ∈ k, PyData.canLay0 (.str r.1) = true) (cl : k.length + 4 + 8 * (10 - e) ≤ 1000) (w7 : 7 ≤ way) (w12 : way < 12) (hT : TermC N e) (hS : TestV N e v) :
    Gives (N + 1) "_law_test_of" [knD k, .int deep, .int way] e (TestL (v + 1)) := by
  intro w hw
  have st : Tb.f__law_test_of.start [knD k, .int deep, .int way] = [.st, .fz (knD k), .fz (.int deep), .fz (.int way), .no, .no, .no] := rfl
  have ko : KnOk e k := ⟨hk, by omega⟩
  have x6 : ¬ way < 6 := by omega
  have n6 : ¬ way = 6 := by omega
  by_cases c9 : way < 9
  · by_cases dp : 0 < deep
    · obtain ⟨tk, w1, r1, ⟨b, al, hal, rfl⟩, s1⟩ := gives_take [] free_nil e w hw
      have ha := free_als hal
      have kc := kn_app (b := b) ha hk cl
      obtain ⟨t, w2, r2, ⟨tt, _, _, _, pt⟩, s2⟩ := hS (takeK b al ++ k) (deep - 1) kc w1 s1
      have ka : binD .add (knD (takeK b al)) (knD k) = some (knD (takeK b al ++ k)) := knD_add (by have := takeK_len b al; omega)
      have li : PyData.canLay0 (.tuple [.str "where", t, (Qn.take b al).toD]) = true := by simp [lay_l (s := "where") (by decide), pt, take_lay b ha]
      by_cases c7 : way = 7
      · obtain ⟨i, w3, r3, hi, s3⟩ := gives_pick [.tuple [.str "where", t, (Qn.take b al).toD], .tuple [.str "once", .tuple [.str "where", t, (Qn.take b al).toD]], .tuple [.str "tops", .int 1, .tuple [], .tuple [.str "where", t, (Qn.take b al).toD]]] (by simp) e w2 s2
        have hl : PyData.canLay0 i = true := by
          simp only [List.mem_cons, List.not_mem_nil, or_false] at hi
          rcases hi with rfl | rfl | rfl
          · exact li
          · simp only [lay_t, lay_c, lay_n, lay_l (s := "once") (by decide), Bool.true_and, Bool.and_true] at li ⊢; exact li
          · simp only [lay_t, lay_c, lay_n, lay_i, lay_l (s := "tops") (by decide), Bool.true_and, Bool.and_true] at li ⊢; exact li
        refine ⟨_, w3, Run.of T_testof rfl (by rw [hw.some]; rfl) fun Φ l => ?_, (leaf_oth "some" [i] (.inr (.inr (.inl rfl))) (by simp [hl])).le _, s3⟩
        have h1 := r1.use l hN
        have h2 := r2.use l (Nat.le_refl _)
        have h3 := r3.use l (by omega)
        simp only [List.map_nil] at h1
        rw [st]
        unfold Tb.f__law_test_of Tb.b__law_test_of
        subst c7
        simp [dp, h1, h2, h3, ka]
      · obtain ⟨a, w3, r3, pa, s3⟩ := hT k "num" 0 ko (.inl rfl) w2 s2
        have kt : KnOk e (takeK b al) := ⟨takeK_lay b ha, by have := takeK_len b al; omega⟩
        obtain ⟨m, w4, r4, pm, s4⟩ := hT (takeK b al) "num" 0 kt (.inl rfl) w3 s3
        refine ⟨_, w4, Run.of T_testof rfl (by rw [hw.some]; rfl) fun Φ l => ?_, (leaf_oth "among" [a, .tuple [.str "make", .tuple [.tuple [.str "m", m]], .tuple [.str "where", t, (Qn.take b al).toD]]] (.inr (.inr (.inr rfl))) (by
          simp only [lay_t, lay_c, lay_n, lay_i, Bool.true_and, Bool.and_true] at li ⊢
          simp [pa.2, pm.2, lay_l (s := "make") (by decide), lay_l (s := "m") (by decide), li])).le _, s4⟩
        have h1 := r1.use l hN
        have h2 := r2.use l (Nat.le_refl _)
        have h3 := r3.use l (Nat.le_refl _)
        have h4 := r4.use l (Nat.le_refl _)
        simp only [List.map_nil] at h1
        obtain rfl : way = 8 := by omega
        rw [st]
        unfold Tb.f__law_test_of Tb.b__law_test_of
        simp [dp, h1, h2, h3, h4, ka]
    · obtain ⟨y, w1, r1, hy, s1⟩ := gives_pick [.tuple [.str "yes"], .tuple [.str "no"], .tuple [.str "same", .tuple [.str "null"], .tuple [.str "num", .int 1]]] (by simp) e w hw
      refine ⟨y, w1, Run.of T_testof rfl (by rw [hw.some]; rfl) fun Φ l => ?_, leafT.le ?_ _, s1⟩
      · have h1 := r1.use l (by omega)
        have n9 : ¬ way = 9 := by omega
        have x9 : ¬ 9 < way := by omega
        rw [st]
        unfold Tb.f__law_test_of Tb.b__law_test_of
        simp [x6, n6, c9, dp, n9, x9, h1]
      · simp only [List.mem_cons, List.not_mem_nil, or_false] at hy
        rcases hy with rfl | rfl | rfl
        · exact leaf_yes
        · exact leaf_no
        · exact leaf_same (tmL_tag "null" _ (by decide) (by decide) (by simp)) (tmL_tag "num" _ (by decide) (by decide) (by simp))
  · by_cases c : way = 9
    · obtain ⟨x, w1, r1, ⟨t, rfl, tok, tl, ty⟩, s1⟩ := hS k deep ko w hw
      refine ⟨_, w1, Run.of T_testof rfl (by rw [hw.some]; rfl) fun Φ l => ?_, ⟨.not t, rfl, tok, by simp [Ts.lv]; omega, by simp [Ts.toD, ty, lay_l (s := "not") (by decide)]⟩, s1⟩
      have h1 := r1.use l (Nat.le_refl _)
      rw [st]
      unfold Tb.f__law_test_of Tb.b__law_test_of
      subst c
      simp [h1, Ts.toD]
    · obtain ⟨y, w1, r1, hy, s1⟩ := gives_pick [.str "and", .str "or"] (by simp) e w hw
      obtain ⟨x, w2, r2, ⟨t, rfl, tok, tl, ty⟩, s2⟩ := hS k deep ko w1 s1
      obtain ⟨x', w3, r3, ⟨t', rfl, tok', tl', ty'⟩, s3⟩ := hS k 0 ko w2 s2
      refine ⟨.tuple [y, t.toD, t'.toD], w3, Run.of T_testof rfl (by rw [hw.some]; rfl) fun Φ l => ?_, ?_, s3⟩
      · have h1 := r1.use l (by omega)
        have h2 := r2.use l (Nat.le_refl _)
        have h3 := r3.use l (Nat.le_refl _)
        have x9 : 9 < way := by omega
        rw [st]
        unfold Tb.f__law_test_of Tb.b__law_test_of
        simp [x6, n6, c9, c, x9, h1, h2, h3]
      · simp only [List.mem_cons, List.not_mem_nil, or_false] at hy
        rcases hy with rfl | rfl
        · exact ⟨.and t t', by rw [Ts.toD], ⟨tok, tok'⟩, by simp [Ts.lv]; omega, by simp [ty, ty', lay_l (s := "and") (by decide)]⟩
        · exact ⟨.or t t', by rw [Ts.toD], ⟨tok, tok'⟩, by simp [Ts.lv]; omega, by simp [ty, ty', lay_l (s := "or") (by decide)]⟩
end Pure

set_option Elab.async false
set_option linter.all false
set_option maxRecDepth 100000
set_option maxHeartbeats 4000000
set_option autoImplicit false
set_option exponentiation.threshold 20000
/-! K18: terms and tests: the knot. -/
namespace Pure
open PySem PL
theorem KnOk.up {e : Nat} {k : Kn} (h : KnOk e k) : KnOk (e + 1) k := ⟨h.lay, by have := h.len; omega⟩
theorem term_leaf {e : Nat} (h : 6 ≤ e) : TermC 5 e := fun k kind deep hk hd =>
  gives_term (N := 4) (by omega) fun way w0 w1 => by
    rw [if_neg (by omega)] at w1
    exact gives_termof (N := 3) (Nat.le_refl _) hk.lay hd w0 (by omega) (fun c => by omega) (fun c => by omega) (fun c => by omega)
theorem test_leaf {N e : Nat} (hN : 3 ≤ N) (h : 4 ≤ e) (hT : TermC N (e + 1)) : TestC (N + 2) e := fun k deep hk =>
  (gives_test (N := N + 1) (by omega) fun way w0 w1 => by
    rw [if_neg (by omega)] at w1
    exact gives_testof_lo hN hk.up w0 w1 hT).imp fun x hx => leafT.le hx _
theorem term_step {N e : Nat} (hN : 5 ≤ N) (hT : TermC N (e + 1)) (hS : TestC N (e + 1)) : TermC (N + 2) e := by
  by_cases c : 6 ≤ e
  · exact fun k kind deep hk hd => (term_leaf c k kind deep hk hd).mono (by omega)
  · exact fun k kind deep hk hd => gives_term (N := N + 1) (by omega) fun way w0 w1 => by
      rw [if_pos (by omega)] at w1
      exact gives_termof (by omega) hk.lay hd w0 w1 (fun _ => by have := hk.len; omega) (fun _ => hT) (fun _ => hS)
theorem test_step {N e : Nat} (hN : 5 ≤ N) (hT : TermC N (e + 1)) (hS : TestC N (e + 1)) : TestC (N + 2) e := by
  by_cases c : 4 ≤ e
  · exact test_leaf (by omega) c hT
  · refine fun k deep hk => gives_test (N := N + 1) (by omega) fun way w0 w1 => ?_
    rw [if_pos (by omega)] at w1
    by_cases c7 : way < 7
    · exact (gives_testof_lo (by omega) hk.up w0 c7 hT).imp fun x hx => leafT.le hx _
    · have hS' : TestV N (e + 1) (4 - (e + 1)) := hS
      have := gives_testof_hi (N := N) (e := e + 1) (v := 4 - (e + 1)) (deep := deep) (by omega) hk.lay (by have := hk.len; omega) (by omega) w1 hT hS'
      have e1 : 4 - (e + 1) + 1 = 4 - e := by omega
      rw [e1] at this
      exact this
theorem knot : ∀ (n e : Nat), 8 ≤ e + n → TermC (7 + 2 * n) e ∧ TestC (7 + 2 * n) e
  | 0, e, h => ⟨fun k kind deep hk hd => (term_leaf (by omega) k kind deep hk hd).mono (by omega), test_leaf (N := 5) (by omega) (by omega) (term_leaf (by omega))⟩
  | n + 1, e, h => by
    obtain ⟨a, b⟩ := knot n (e + 1) (by omega)
    exact ⟨term_step (N := 7 + 2 * n) (by omega) a b, test_step (N := 7 + 2 * n) (by omega) a b⟩
theorem term0 : TermC 23 0 := (knot 8 0 (by omega)).1
theorem test0 : TestC 23 0 := (knot 8 0 (by omega)).2
end Pure

set_option Elab.async false
set_option linter.all false
set_option maxRecDepth 100000
set_option maxHeartbeats 4000000
set_option autoImplicit false
set_option exponentiation.threshold 20000
/-! K19: _law_made, _law_alike. -/
namespace Pure
open PySem PL
theorem T_made : Tb.T "_law_made" = some Tb.f__law_made := by kernel_rfl
theorem T_alike : Tb.T "_law_alike" = some Tb.f__law_alike := by kernel_rfl
def madeK : Kn := [("m", "num"), ("n", "text")]
theorem gives_made (q : Qn) (k : Kn) (hk : KnOk 0 k) : Gives 24 "_law_made" [q.toD, knD k] 0 (fun x => ∃ a b, x = .tuple [(Qn.make [("m", a), ("n", b)] q).toD, knD madeK]) := by
  intro w hw
  obtain ⟨a, w1, r1, pa, s1⟩ := term0 k "num" 0 hk (.inl rfl) w hw
  obtain ⟨b, w2, r2, pb, s2⟩ := term0 k "text" 0 hk (.inr rfl) w1 s1
  refine ⟨_, w2, Run.of T_made rfl (by rw [hw.some]; rfl) fun Φ l => ?_, ⟨a, b, rfl⟩, s2⟩
  have st : Tb.f__law_made.start [q.toD, knD k] = [.st, .fz q.toD, .fz (knD k), .no] := rfl
  have h1 := r1.use l (Nat.le_refl _)
  have h2 := r2.use l (Nat.le_refl _)
  rw [st]
  unfold Tb.f__law_made Tb.b__law_made
  have km : knD madeK = .list [.tuple [.str "m", .str "num"], .tuple [.str "n", .str "text"]] := rfl
  simp [h1, h2, Qn.toD, row2, km]
/-- pairs of one kind -/
def alk1 (r : Str × Str) (o : Kn) : Kn := (o.filter fun x => decide (r.2 = x.2)).map fun x => (r.1, x.1)
def alk (k o : Kn) : Kn := k.flatMap fun r => alk1 r o
theorem alk1_len (r : Str × Str) (o : Kn) : (alk1 r o).length ≤ o.length := by
  unfold alk1
  rw [List.length_map]
  exact List.length_filter_le _ _
theorem eq_nilK {ks : Kn} (h : ∀ r ∈ ks, PyData.canLay0 (.str r.1) = true ∧ PyData.canLay0 (.str r.2) = true) : cmpD .eq (knD ks) (.list []) = some (decide (ks = [])) := by
  have lay : PyData.canLayAll0 (ks.map kcD) = true := by
    induction ks with
    | nil => rfl
    | cons k ks ih =>
      simp only [List.map_cons, lay_c, Bool.and_eq_true]
      have := h k List.mem_cons_self
      exact ⟨by simp [kcD, this], ih fun x hx => h x (List.mem_cons_of_mem _ hx)⟩
  have e : PyData.eqv (knD ks) (.list []) = decide (ks = []) := by
    cases ks <;> simp [knD, PyData.eqv, PyData.eqvAll]
  have e2 : min (PyData.depth (knD ks)) (PyData.depth (.list [])) ≤ 64 := by
    have : PyData.depth (.list []) = 1 := rfl
    omega
  unfold cmpD eqOk
  have l1 : PyData.canLay0 (knD ks) = true := by simp only [knD, PyData.canLay0, lay]
  have l2 : PyData.canLay0 (.list []) = true := rfl
  simp only [l1, l2, e, e2, Bool.and_self, decide_true, Bool.or_true, if_true]
theorem run_alike {k o : Kn} (hk : ∀ r ∈ k, PyData.canLay0 (.str r.1) = true) (ho : ∀ r ∈ o, PyData.canLay0 (.str r.1) = true) (lk : k.length ≤ 60) (lo : o.length ≤ 60) (s : W) : ∃ x, R 1 "_law_alike" [knD k, knD o] s (x, s) ∧ leafT x := by
  have st : Tb.f__law_alike.start [knD k, knD o] = [.fz (knD k), .fz (knD o), .no, .no, .no, .no, .no] := rfl
  have loop : ∀ (Φ : Fn) (b : RSs), b = (.cons (.asg (.nm 2) (.bin .add (.v 2) (.lc [5, 6] (.tup (.cons (.v 3) (.cons (.v 5) .nil))) (.tup [5, 6]) (.seq (.v 1)) (.yes (.cmp .eq (.v 4) (.v 6)))))) .nil) → ∀ (ks : Kn) (acc : Kn) (c3 c4 : Cell), acc.length + 60 * ks.length ≤ 4000 → ∃ d3 d4, forLoop (forT Φ Tb.G gf (.tup [3, 4]) b) (ks.map kcD) [.fz (knD k), .fz (knD o), .fz (knD acc), c3, c4, .no, .no] s = some (.nx [.fz (knD k), .fz (knD o), .fz (knD (acc ++ alk ks o)), d3, d4, .no, .no], s) := by
    intro Φ b hb ks
    induction ks with
    | nil => intro acc c3 c4 _; exact ⟨c3, c4, by simp [forLoop, alk]⟩
    | cons r ks ih =>
      intro acc c3 c4 hl
      rw [List.length_cons] at hl
      have l1 := alk1_len r o
      obtain ⟨d3, d4, e⟩ := ih (acc ++ alk1 r o) (.fz (.str r.1)) (.fz (.str r.2)) (by rw [List.length_append]; omega)
      refine ⟨d3, d4, ?_⟩
      have hlc : lcLoop (lcT Φ Tb.G [.fz (knD k), .fz (knD o), .fz (knD acc), .fz (.str r.1), .fz (.str r.2), .no, .no] [5, 6] (.tup (.cons (.v 3) (.cons (.v 5) .nil))) (.tup [5, 6]) (.yes (.cmp .eq (.v 4) (.v 6)))) (o.map kcD) s = some ((alk1 r o).map kcD, s) := by
        rw [lc_filtM (f := kcD) (h := fun x => kcD (r.1, x.1)) (b := fun x => decide (r.2 = x.2))]
        · simp [alk1, Function.comp_def]
        · intro x _
          by_cases hm : r.2 = x.2 <;> simp [lcT, wipeE, kcD, hm]
      have ka : binD .add (knD acc) (.list ((alk1 r o).map kcD)) = some (knD (acc ++ alk1 r o)) := knD_add (by omega)
      have one : forT Φ Tb.G gf (.tup [3, 4]) b (kcD r) [.fz (knD k), .fz (knD o), .fz (knD acc), c3, c4, .no, .no] s = some (.nx [.fz (knD k), .fz (knD o), .fz (knD (acc ++ alk1 r o)), .fz (.str r.1), .fz (.str r.2), .no, .no], s) := by
        subst hb
        have sq : seqOf (knD o) = some (o.map kcD) := rfl
        have kr : kcD r = .tuple [.str r.1, .str r.2] := rfl
        simp [forT, kr, sq, hlc, ka, -binD_addL]
      rw [List.map_cons, forLoop, one]
      simp only
      rw [e]
      simp [alk]
  have hlay : ∀ r ∈ alk k o, PyData.canLay0 (.str r.1) = true ∧ PyData.canLay0 (.str r.2) = true := by
    intro r hr
    obtain ⟨p, hp, hr⟩ := List.mem_flatMap.mp hr
    obtain ⟨x, hx, rfl⟩ := List.mem_map.mp hr
    exact ⟨hk p hp, ho x (List.mem_filter.mp hx).1⟩
  have hne : cmpD .ne (knD (alk k o)) (.list []) = some (!decide (alk k o = [])) := by rw [cmp_ne, eq_nilK hlay]; rfl
  have sk : seqOf (knD k) = some (k.map kcD) := rfl
  have k0 : knD [] = .list [] := rfl
  cases ha : alk k o with
  | nil =>
    refine ⟨_, Run.of T_alike rfl rfl fun Φ l => ?_, leaf_yes⟩
    obtain ⟨d3, d4, e⟩ := loop Φ _ rfl k [] .no .no (by simp; omega)
    rw [List.nil_append] at e
    rw [ha] at hne e
    rw [k0] at e hne
    rw [st]
    unfold Tb.f__law_alike Tb.b__law_alike
    simp [sk, e]
    simp at hne
    simp [hne]
  | cons r rs =>
    have hr := hlay r (by rw [ha]; exact List.mem_cons_self)
    refine ⟨_, Run.of T_alike rfl rfl fun Φ l => ?_, leaf_same (tmL_col hr.1) (tmL_col hr.2)⟩
    obtain ⟨d3, d4, e⟩ := loop Φ _ rfl k [] .no .no (by simp; omega)
    rw [List.nil_append] at e
    rw [ha] at hne e
    rw [k0] at e
    rw [st]
    unfold Tb.f__law_alike Tb.b__law_alike
    have ix : L2.atI ((r :: rs).map kcD) 0 = some (.tuple [.str r.1, .str r.2]) := at0 _ _
    have ix' : ixD (knD (r :: rs)) (.int 0) = some (.tuple [.str r.1, .str r.2]) := ix
    simp at hne
    simp [sk, e, hne, ix']
end Pure

set_option Elab.async false
set_option linter.all false
set_option maxRecDepth 100000
set_option maxHeartbeats 4000000
set_option autoImplicit false
set_option exponentiation.threshold 20000
/-! K20: aliases in use; names of columns. -/
namespace Pure
open PySem PL
def used (tk : List Str) : Nat := (als.filter fun a => decide (a ∈ tk)).length
theorem filt_or {α : Type} (p q : α → Bool) : ∀ l : List α, (l.filter fun a => p a || q a).length ≤ (l.filter p).length + (l.filter q).length
  | [] => Nat.le_refl _
  | a :: l => by
    have := filt_or p q l
    cases hp : p a <;> cases hq : q a <;> simp [hp, hq] <;> omega
theorem als_one (x : Str) : (als.filter fun a => decide (a = x)).length ≤ 1 := by
  have h : ∀ y ∈ als, (als.filter fun a => decide (a = y)).length ≤ 1 := by decide +kernel
  by_cases hx : x ∈ als
  · exact h x hx
  · have : (als.filter fun a => decide (a = x)) = [] := List.filter_eq_nil_iff.mpr fun a ha => by
      intro c
      have : a = x := by simpa using c
      exact hx (this ▸ ha)
    rw [this]; exact Nat.zero_le _
theorem used_le : ∀ A : List Str, used A ≤ A.length
  | [] => by simp [used]
  | x :: A => by
    have h1 := used_le A
    have h2 := filt_or (fun a => decide (a = x)) (fun a => decide (a ∈ A)) als
    have e : (fun a => decide (a ∈ x :: A)) = fun a => decide (a = x) || decide (a ∈ A) := by
      funext a; simp
    have h3 := als_one x
    unfold used at h1 ⊢
    rw [e, List.length_cons]
    omega
theorem used_app {tk more A : List Str} (h : ∀ x ∈ more, x ∈ A) : used (tk ++ more) ≤ used tk + A.length := by
  have h2 := filt_or (fun a => decide (a ∈ tk)) (fun a => decide (a ∈ A)) als
  have h3 := used_le A
  have h4 : used (tk ++ more) ≤ (als.filter fun a => decide (a ∈ tk) || decide (a ∈ A)).length := by
    unfold used
    have : ∀ l : List Str, (l.filter fun a => decide (a ∈ tk ++ more)).length ≤ (l.filter fun a => decide (a ∈ tk) || decide (a ∈ A)).length := by
      intro l
      induction l with
      | nil => exact Nat.le_refl _
      | cons a l ih =>
        by_cases c : a ∈ tk ++ more
        · have c2 : (decide (a ∈ tk) || decide (a ∈ A)) = true := by
            rcases List.mem_append.mp c with c | c
            · simp [c]
            · simp [h a c]
          rw [List.filter_cons, List.filter_cons, if_pos (by simpa using c), if_pos c2, List.length_cons, List.length_cons]
          omega
        · rw [List.filter_cons, if_neg (by simpa using c), List.filter_cons]
          split
          · rw [List.length_cons]; omega
          · exact ih
    exact this als
  unfold used at h3 h4 ⊢
  omega
theorem free_ne {tk : List Str} (h : used tk + 1 ≤ 10) : free tk ≠ [] := by
  intro c
  have c1 : ∀ a ∈ als, a ∈ tk := by
    intro a ha
    have := (List.filter_eq_nil_iff.mp c) a ha
    simpa using this
  have : als.filter (fun a => decide (a ∈ tk)) = als := List.filter_eq_self.mpr fun a ha => by simpa using c1 a ha
  unfold used at h
  rw [this] at h
  have l : als.length = 10 := by decide
  omega
/-! ### names -/
def plains : List Str := ["m", "n", "g", "h", "c", "d"]
def Nm (A : List Str) (n : Str) : Prop := (∃ a ∈ A, ∃ b, ∃ c ∈ colsOf b, n = a ++ Str.ofString "." ++ c) ∨ n ∈ plains
def hdn (n : Str) : Str := ((Txt.split n (Str.ofString "."))[0]?).getD ""
def dots (n : Str) : Bool := inD (.str (Str.ofString ".")) (.str n) == some true
theorem dot_al : ∀ al ∈ als, ∀ b : Bool, ∀ k ∈ colsOf b, inD (.str (Str.ofString ".")) (.str (al ++ Str.ofString "." ++ k)) = some true := by decide +kernel
theorem dot_pl : ∀ n ∈ plains, inD (.str (Str.ofString ".")) (.str n) = some false := by decide +kernel
theorem pl_lay : ∀ n ∈ plains, PyData.canLay0 (.str n) = true := by decide +kernel
theorem nm_lay {A : List Str} {n : Str} (hA : ∀ a ∈ A, a ∈ als) (h : Nm A n) : PyData.canLay0 (.str n) = true := by
  rcases h with ⟨a, ha, b, c, hc, rfl⟩ | h
  · exact lay_al a (hA a ha) b c hc
  · exact pl_lay n h
def heads (k : Kn) : List Str := (k.filter fun r => dots r.1).map fun r => hdn r.1
theorem heads_mem {A : List Str} {k : Kn} (hA : ∀ a ∈ A, a ∈ als) (h : ∀ r ∈ k, Nm A r.1) : ∀ x ∈ heads k, x ∈ A := by
  intro x hx
  obtain ⟨r, hr, rfl⟩ := List.mem_map.mp hx
  obtain ⟨hr, hd⟩ := List.mem_filter.mp hr
  rcases h r hr with ⟨a, ha, b, c, hc, e⟩ | hp
  · have : hdn r.1 = a := by rw [e, hdn, split_al a (hA a ha) b c hc]; rfl
    rw [this]; exact ha
  · simp only [dots] at hd
    rw [dot_pl _ hp] at hd
    exact absurd hd (by decide)
theorem heads_len (k : Kn) : (heads k).length ≤ k.length := by
  unfold heads
  rw [List.length_map]
  exact List.length_filter_le _ _
/-- the comprehension over names with a dot -/
theorem run_heads {A : List Str} {k : Kn} (hA : ∀ a ∈ A, a ∈ als) (h : ∀ r ∈ k, Nm A r.1) {Φ : Fn} {x0 x1 x2 x3 x4 x5 x6 x7 x8 x9 x10 x11 : Cell} {s : W} :
    lcLoop (lcT Φ Tb.G [x0, x1, x2, x3, x4, x5, x6, x7, x8, x9, x10, x11] [10, 11] (.ix (.split (.v 10) (.str ".")) (.int 0)) (.tup [10, 11]) (.yes (.cmp .isin (.str ".") (.v 10)))) (k.map kcD) s = some ((heads k).map .str, s) := by
  rw [lc_filtM (f := kcD) (h := fun r => .str (hdn r.1)) (b := fun r => dots r.1)]
  · simp [heads, Function.comp_def]
  · intro r hr
    rcases h r hr with ⟨a, ha, b, c, hc, e⟩ | hp
    · have h1 := dot_al a (hA a ha) b c hc
      have h2 := split_al a (hA a ha) b c hc
      have h3 := len_al a (hA a ha) b c hc
      rw [← e] at h1 h2 h3
      have l1 : lineOk (r.1.length + 2) = true := line_of (by omega)
      have d : dots r.1 = true := by rw [dots, h1]; rfl
      have hd : hdn r.1 = a := by rw [hdn, h2]; rfl
      have sl : ((Str.ofString ".").length == 0) = false := by decide +kernel
      rw [d, hd]
      simp [lcT, wipeE, kcD, h1, h2, l1, dot_len]
    · have h1 := dot_pl _ hp
      have d : dots r.1 = false := by rw [dots, h1]; rfl
      rw [d]
      simp [lcT, wipeE, kcD, h1]
end Pure

set_option Elab.async false
set_option linter.all false
set_option maxRecDepth 100000
set_option maxHeartbeats 4000000
set_option autoImplicit false
set_option exponentiation.threshold 20000
/-! K21: _law_sides. -/
namespace Pure
open PySem PL
theorem T_sides : Tb.T "_law_sides" = some Tb.f__law_sides := by kernel_rfl
theorem T_ask : Tb.T "_law_ask" = some Tb.f__law_ask := by kernel_rfl
structure AskW (d : Nat) (q : Qn) (k : Kn) (A : List Str) : Prop where
  ok : q.Ok
  slim : Slim q
  dd : dd q ≤ d
  dep : q.dep ≤ 2 * d
  cols : q.cols = k.map (·.1)
  nm : ∀ r ∈ k, Nm A r.1
  als : ∀ a ∈ A, a ∈ als
  len : A.length ≤ 2 ^ d
  kl : k.length ≤ 4 * 2 ^ d
def AskP (d : Nat) (x : D) : Prop := ∃ q k A, x = .tuple [q.toD, knD k] ∧ AskW d q k A
def AskC (d : Nat) : Prop := ∀ tk : List Str, used tk + 2 ^ d ≤ 10 → tk.length + 8 * 2 ^ d ≤ 200 → Gives (26 + 2 * d) "_law_ask" [.int d, .list (tk.map .str)] 0 (AskP d)
theorem AskW.lay {d : Nat} {q : Qn} {k : Kn} {A : List Str} (h : AskW d q k A) : ∀ r ∈ k, PyData.canLay0 (.str r.1) = true := fun r hr => nm_lay h.als (h.nm r hr)
theorem AskW.up {d : Nat} {q : Qn} {k : Kn} {A : List Str} (h : AskW d q k A) : AskW (d + 1) q k A := by
  have e : 2 ^ (d + 1) = 2 * 2 ^ d := by rw [Nat.pow_succ]; omega
  exact ⟨h.ok, h.slim, by have := h.dd; omega, by have := h.dep; omega, h.cols, h.nm, h.als, by have := h.len; omega, by have := h.kl; omega⟩
theorem nm_mono {A B : List Str} {n : Str} (h : ∀ a ∈ A, a ∈ B) (x : Nm A n) : Nm B n := by
  rcases x with ⟨a, ha, b, c, hc, e⟩ | hp
  · exact .inl ⟨a, h a ha, b, c, hc, e⟩
  · exact .inr hp
def waysJ : List D := [.str "in", .str "in", .str "left", .str "semi", .str "anti"]
theorem run_names {k : Kn} {Φ : Fn} {x0 x1 x2 x3 x4 x5 x6 x7 x8 x9 x10 x11 : Cell} {s : W} :
    lcLoop (lcT Φ Tb.G [x0, x1, x2, x3, x4, x5, x6, x7, x8, x9, x10, x11] [10, 11] (.v 10) (.tup [10, 11]) .no) (k.map kcD) s = some ((k.map (·.1)).map .str, s) := by
  rw [lc_eachM (f := kcD) (h := fun r => .str r.1)]
  · simp [Function.comp_def]
  · intro r _
    simp [lcT, wipeE, kcD]
def clash (k o : Kn) : List Str := (o.filter fun r => decide (r.1 ∈ k.map (·.1))).map (·.1)
theorem run_clash {k o : Kn} {Φ : Fn} {x0 x1 x2 x4 x5 x6 x7 x8 x9 x10 x11 : Cell} {s : W} :
    lcLoop (lcT Φ Tb.G [x0, x1, x2, .fz (.list ((k.map (·.1)).map .str)), x4, x5, x6, x7, x8, x9, x10, x11] [10, 11] (.v 10) (.tup [10, 11]) (.yes (.cmp .isin (.v 10) (.v 3)))) (o.map kcD) s = some ((clash k o).map .str, s) := by
  rw [lc_filtM (f := kcD) (h := fun r => .str r.1) (b := fun r => decide (r.1 ∈ k.map (·.1)))]
  · simp [clash, Function.comp_def]
  · intro r _
    have := in_strsL r.1 (k.map (·.1))
    by_cases hm : r.1 ∈ k.map (·.1) <;> simp [lcT, wipeE, kcD, this, hm, -List.mem_map, -List.map_map]
theorem gives_sides {d : Nat} (hd : d ≤ 2) (hA : AskC d) (tk : List Str) (ht : used tk + 2 ^ (d + 1) ≤ 10) (hl : tk.length + 8 * 2 ^ (d + 1) ≤ 200) : Gives (27 + 2 * d) "_law_sides" [.int ((d : Int) + 1), .list (tk.map .str)] 0 (AskP (d + 1)) := by
  intro w hw
  have eN : 27 + 2 * d = (26 + 2 * d) + 1 := by omega
  rw [eN]
  have e2 : 2 ^ (d + 1) = 2 * 2 ^ d := by rw [Nat.pow_succ]; omega
  have p2 : 2 ^ d ≤ 4 := by
    have : 2 ^ d ≤ 2 ^ 2 := Nat.pow_le_pow_right (by decide) hd
    omega
  obtain ⟨x1, w1, r1, ⟨p, k, A, rfl, hp⟩, s1⟩ := hA tk (by omega) (by omega) w hw
  have hu : used (tk ++ heads k) + 2 ^ d ≤ 10 := by
    have := used_app (tk := tk) (heads_mem hp.als hp.nm)
    have := hp.len
    omega
  have hk := hp.kl
  have hhl := heads_len k
  obtain ⟨x2, w2, r2, ⟨q, o, B, rfl, hq⟩, s2⟩ := hA (tk ++ heads k) hu (by rw [List.length_append]; omega) w1 s1
  have ho := hq.kl
  have st : Tb.f__law_sides.start [.int ((d : Int) + 1), .list (tk.map .str)] = [.st, .fz (.int ((d : Int) + 1)), .fz (.list (tk.map .str)), .no, .no, .no, .no, .no, .no, .no, .no, .no] := rfl
  have sk : seqOf (knD k) = some (k.map kcD) := rfl
  have so : seqOf (knD o) = some (o.map kcD) := rfl
  have hh : binD .add (.list (tk.map .str)) (.list ((heads k).map .str)) = some (.list ((tk ++ heads k).map .str)) := by
    rw [binD_addL, if_pos (line_of (by simp; omega)), List.map_append]
  have d1 : (d : Int) + 1 - 1 = d := by omega
  have cl : ∀ c ∈ clash k o, NmOk c := by
    intro c hc
    obtain ⟨r, hr, rfl⟩ := List.mem_map.mp hc
    exact hq.lay r (List.mem_filter.mp hr).1
  have hne : cmpD .ne (.list ((clash k o).map .str)) (.list []) = some (!isE (clash k o)) := by rw [cmp_ne, eq_nilE (lay_names cl)]; rfl
  by_cases hc : clash k o = []
  · have hc' : isE (clash k o) = true := by simpa [isE] using hc
    have ko : KnOk 0 (k ++ o) := ⟨fun r hr => by
      rcases List.mem_append.mp hr with h | h
      · exact hp.lay r h
      · exact hq.lay r h, by rw [List.length_append]; omega⟩
    obtain ⟨wy, w3, r3, hwy, s3⟩ := gives_pick waysJ (by simp [waysJ]) 0 w2 s2
    obtain ⟨wy, rfl, hwo⟩ : ∃ v : Str, wy = .str v ∧ (v = Str.ofString "in" ∨ v = Str.ofString "left" ∨ v = Str.ofString "semi" ∨ v = Str.ofString "anti") := by
      simp only [waysJ, List.mem_cons, List.not_mem_nil, or_false] at hwy
      rcases hwy with rfl | rfl | rfl | rfl | rfl
      · exact ⟨_, rfl, .inl rfl⟩
      · exact ⟨_, rfl, .inl rfl⟩
      · exact ⟨_, rfl, .inr (.inl rfl)⟩
      · exact ⟨_, rfl, .inr (.inr (.inl rfl))⟩
      · exact ⟨_, rfl, .inr (.inr (.inr rfl))⟩
    obtain ⟨t1, w4, r4, ht1, s4⟩ := test0 (k ++ o) 0 ko w3 s3
    obtain ⟨t2, w5, r5, ht2, s5⟩ := test0 (k ++ o) 1 ko w4 s4
    obtain ⟨t3, r6, ht3⟩ := run_alike hp.lay hq.lay (by omega) (by omega) w5
    obtain ⟨t, w6, r7, ht, s6⟩ := gives_pick [t1, t2, t3] (by simp) 0 w5 s5
    obtain ⟨tt, rfl, tok, tlv, tly⟩ : TestL 4 t := by
      simp only [List.mem_cons, List.not_mem_nil, or_false] at ht
      rcases ht with rfl | rfl | rfl
      · exact ht1
      · exact ht2
      · exact ht3.le 4
    refine ⟨.tuple [(Qn.join wy tt p q).toD, knD (if both wy then k ++ o else k)], w6, Run.of T_sides rfl (by rw [hw.some]; rfl) fun Φ l => ?_, ⟨.join wy tt p q, _, if both wy then A ++ B else A, rfl, ?_⟩, s6⟩
    · have h1 := r1.use l (by omega)
      have h2 := r2.use l (by omega)
      have h3 := r3.use l (by omega)
      have h4 := r4.use l (by omega)
      have h5 := r5.use l (by omega)
      have h6 := r6.use l (by omega)
      have h7 := r7.use l (by omega)
      have ka : binD .add (knD k) (knD o) = some (knD (k ++ o)) := knD_add (by omega)
      rw [st]
      unfold Tb.f__law_sides Tb.b__law_sides
      unfold waysJ at h3
      simp [d1, h1, sk, run_heads hp.als hp.nm, hh, h2, run_names, so, run_clash, hne, hc', h3, ka, h4, h5, h6, h7, -binD_addL, -List.map_map, -List.map_append]
      rcases hwo with rfl | rfl | rfl | rfl <;> simp [both, ka, Qn.toD, -binD_addL, -List.map_append]
    · have hlen : (if both wy then k ++ o else k).length ≤ 4 * 2 ^ (d + 1) := by
        split
        · rw [List.length_append]; omega
        · omega
      refine ⟨⟨hwo, tok, hp.ok, hq.ok, ?_⟩, ⟨tlv, hp.slim, hq.slim⟩, ?_, ?_, ?_, ?_, ?_, ?_, hlen⟩
      · rw [hp.cols, hq.cols, List.length_map, List.length_map]; omega
      · have := hp.dd
        have := hq.dd
        show max (dd p) (dd q) + 1 ≤ d + 1
        omega
      · have := hp.dep
        have := hq.dep
        show max p.dep q.dep + 1 ≤ 2 * (d + 1)
        omega
      · show (if both wy then p.cols ++ q.cols else p.cols) = _
        rw [hp.cols, hq.cols]
        split <;> simp
      · intro r hr
        split at hr
        · rename_i hb
          rw [if_pos hb]
          rcases List.mem_append.mp hr with h | h
          · exact nm_mono (fun a ha => List.mem_append_left _ ha) (hp.nm r h)
          · exact nm_mono (fun a ha => List.mem_append_right _ ha) (hq.nm r h)
        · rename_i hb
          rw [if_neg hb]
          exact hp.nm r hr
      · intro a ha
        split at ha
        · rcases List.mem_append.mp ha with h | h
          · exact hp.als a h
          · exact hq.als a h
        · exact hp.als a ha
      · have := hp.len
        have := hq.len
        split
        · rw [List.length_append]; omega
        · omega
  · have hc' : isE (clash k o) = false := by simpa [isE] using hc
    refine ⟨.tuple [p.toD, knD k], w2, Run.of T_sides rfl (by rw [hw.some]; rfl) fun Φ l => ?_, ⟨p, k, A, rfl, hp.up⟩, s2⟩
    have h1 := r1.use l (by omega)
    have h2 := r2.use l (by omega)
    rw [st]
    unfold Tb.f__law_sides Tb.b__law_sides
    simp [d1, h1, sk, run_heads hp.als hp.nm, hh, h2, run_names, so, run_clash, hne, hc', -binD_addL, -List.map_map, -List.map_append]
end Pure

set_option Elab.async false
set_option linter.all false
set_option maxRecDepth 100000
set_option maxHeartbeats 4000000
set_option autoImplicit false
set_option exponentiation.threshold 20000
/-! K22: _law_ask. -/
namespace Pure
open PySem PL
theorem two_pos (d : Nat) : 1 ≤ 2 ^ d := Nat.one_le_two_pow
theorem askw_take (d : Nat) {al : Str} (b : Bool) (h : al ∈ als) : AskW d (.take b al) (takeK b al) [al] := by
  have p := two_pos d
  refine ⟨h, trivial, Nat.zero_le _, Nat.zero_le _, (takeK_cols b al).symm, ?_, by simpa using h, p, by have := takeK_len b al; omega⟩
  intro r hr
  obtain ⟨c, hc, rfl⟩ := List.mem_map.mp hr
  have : (colsK b).map (·.1) = colsOf b := by cases b <;> rfl
  exact .inl ⟨al, List.mem_singleton.mpr rfl, b, c.1, by rw [← this]; exact List.mem_map_of_mem hc, rfl⟩
section
variable {d : Nat} {q : Qn} {k : Kn} {A : List Str}
theorem AskW.wher (h : AskW d q k A) {t : Ts} (ok : t.Ok) (lv : t.lv ≤ 4) : AskW (d + 1) (.wher t q) k A := by
  have u := h.up
  exact ⟨⟨ok, h.ok⟩, ⟨lv, h.slim⟩, Nat.succ_le_succ h.dd, by have := h.dep; show q.dep + 1 ≤ _; omega, h.cols, h.nm, h.als, u.len, u.kl⟩
theorem AskW.once (h : AskW d q k A) : AskW (d + 1) (.once q) k A := by
  have u := h.up
  exact ⟨h.ok, h.slim, u.dd, by have := h.dep; show q.dep + 1 ≤ _; omega, h.cols, h.nm, h.als, u.len, u.kl⟩
theorem AskW.tops (h : AskW d q k A) {n : Int} (n0 : 0 ≤ n) (n3 : n ≤ 3) (o : D) : AskW (d + 1) (.tops n o q) k A := by
  have u := h.up
  exact ⟨⟨n0, n3, h.ok⟩, ⟨⟨n0, n3⟩, h.slim⟩, u.dd, by have := h.dep; show q.dep + 1 ≤ _; omega, h.cols, h.nm, h.als, u.len, u.kl⟩
theorem nm_pl (A : List Str) (s : String) (h : plains.contains (Str.ofString s) = true) : Nm A (Str.ofString s) := .inr (by simpa using h)
theorem AskW.made (h : AskW d q k A) (a b : D) : AskW (d + 1) (.make [("m", a), ("n", b)] q) madeK A := by
  have u := h.up
  have p := two_pos (d + 1)
  refine ⟨⟨?_, h.ok⟩, h.slim, u.dd, by have := h.dep; show q.dep + 1 ≤ _; omega, rfl, ?_, h.als, u.len, by show 2 ≤ _; omega⟩
  · intro r hr
    simp only [List.mem_cons, List.not_mem_nil, or_false] at hr
    rcases hr with rfl | rfl
    · exact lay_l (s := "m") (by decide)
    · exact lay_l (s := "n") (by decide)
  · intro r hr
    simp only [madeK, List.mem_cons, List.not_mem_nil, or_false] at hr
    rcases hr with rfl | rfl
    · exact nm_pl A "m" (by decide)
    · exact nm_pl A "n" (by decide)
theorem AskW.two (h : AskW d q k A) {q' : Qn} {k' : Kn} {A' : List Str} (h' : AskW d q' k' A') (a b a' b' : D) {tag : Str} (ht : tag = Str.ofString "both" ∨ tag = Str.ofString "less" ∨ tag = Str.ofString "common") :
    AskW (d + 1) (.two tag (.make [("m", a), ("n", b)] q) (.make [("m", a'), ("n", b')] q')) madeK A := by
  have m := h.made a b
  have m' := h'.made a' b'
  refine ⟨⟨ht, m.ok, m'.ok⟩, ⟨m.slim, m'.slim⟩, ?_, ?_, rfl, m.nm, h.als, m.len, m.kl⟩
  · have := h.dd
    have := h'.dd
    show max (Pure.dd q) (Pure.dd q') + 1 ≤ d + 1
    omega
  · have := h.dep
    have := h'.dep
    show max (q.dep + 1) (q'.dep + 1) + 1 ≤ _
    omega
def grpK (keys : List (Str × D)) : Kn := keys.map (fun r => (r.1, Str.ofString "num")) ++ ([("c", "num"), ("d", "num")] : Kn)
theorem AskW.group (h : AskW d q k A) {keys : List (Str × D)} (hk : ∀ r ∈ keys, TmL r.2 ∧ r.1 ∈ plains) (hl : keys.length ≤ 2) (f t : D) :
    AskW (d + 1) (.group keys [("c", [.str "all", .tuple [.str "null"]]), ("d", [f, t])] q) (grpK keys) A := by
  have u := h.up
  have p := two_pos (d + 1)
  refine ⟨⟨fun r hr => ⟨(hk r hr).1.1, (hk r hr).1.2, pl_lay _ (hk r hr).2⟩, by show keys.length + 2 ≤ 1000; omega, ?_, h.ok⟩, ⟨hl, h.slim⟩, Nat.succ_le_succ h.dd, by have := h.dep; show q.dep + 1 ≤ _; omega, ?_, ?_, h.als, u.len, ?_⟩
  · intro r hr
    simp only [List.mem_cons, List.not_mem_nil, or_false] at hr
    rcases hr with rfl | rfl
    · exact lay_l (s := "c") (by decide)
    · exact lay_l (s := "d") (by decide)
  · simp [Qn.cols, grpK, Function.comp_def]
  · intro r hr
    rcases List.mem_append.mp hr with h1 | h1
    · obtain ⟨r', hr', rfl⟩ := List.mem_map.mp h1
      exact .inr (hk r' hr').2
    · simp only [List.mem_cons, List.not_mem_nil, or_false] at h1
      rcases h1 with rfl | rfl
      · exact nm_pl A "c" (by decide)
      · exact nm_pl A "d" (by decide)
  · show (grpK keys).length ≤ _
    simp [grpK]
    omega
end
theorem lc_gives {N e : Nat} {turn : Fn → D → W → Option (Option D × W)} : ∀ {xs : List D}, (∀ x ∈ xs, ∀ w, St e w → ∃ y w', (∀ Φ, L N Φ → turn Φ x w = some (some y, w')) ∧ St e w') →
    ∀ w, St e w → ∃ ys w', (∀ Φ, L N Φ → lcLoop (turn Φ) xs w = some (ys, w')) ∧ St e w'
  | [], _, w, hw => ⟨[], w, fun _ _ => rfl, hw⟩
  | x :: xs, h, w, hw => by
    obtain ⟨y, w1, h1, s1⟩ := h x List.mem_cons_self w hw
    obtain ⟨ys, w2, h2, s2⟩ := lc_gives (xs := xs) (fun z hz => h z (List.mem_cons_of_mem _ hz)) w1 s1
    refine ⟨y :: ys, w2, fun Φ l => ?_, s2⟩
    unfold lcLoop
    rw [h1 Φ l]
    simp only
    rw [h2 Φ l]
theorem ask_zero : AskC 0 := by
  intro tk ht hl w hw
  obtain ⟨x, w1, r1, ⟨b, al, hal, rfl⟩, s1⟩ := gives_take tk (free_ne (by simpa using ht)) 0 w hw
  refine ⟨_, w1, Run.of T_ask rfl (by rw [hw.some]; rfl) fun Φ l => ?_, ⟨_, _, _, rfl, askw_take 0 b (free_als hal)⟩, s1⟩
  have h1 := r1.use l (by omega)
  have st : Tb.f__law_ask.start [.int ((0 : Nat) : Int), .list (tk.map .str)] = [.st, .fz (.int 0), .fz (.list (tk.map .str)), .no, .no, .no, .no, .no, .no, .no, .no, .no, .no, .no, .no, .no] := rfl
  rw [st]
  unfold Tb.f__law_ask Tb.b__law_ask
  simp [h1]
theorem ask_step {d : Nat} (hd : d ≤ 2) (hA : AskC d) (m : Int) (hm : (if (2 : Int) < (d : Int) + 1 then 2 else (d : Int) + 1) = m)
    (hS : ∀ tk : List Str, used tk + 2 ^ (d + 1) ≤ 10 → tk.length + 8 * 2 ^ (d + 1) ≤ 200 → Gives (27 + 2 * d) "_law_sides" [.int m, .list (tk.map .str)] 0 (AskP (d + 1))) : AskC (d + 1) := by
  intro tk ht hl w hw
  have e2 : 2 ^ (d + 1) = 2 * 2 ^ d := by rw [Nat.pow_succ]; omega
  have p2 : 2 ^ d ≤ 4 := by
    have : 2 ^ d ≤ 2 ^ 2 := Nat.pow_le_pow_right (by decide) hd
    omega
  have p1 := two_pos d
  obtain ⟨_, w0, rn, ⟨way, rfl, y0, y1⟩, s0⟩ := gives_next 11 (by decide) 0 w hw
  have st : Tb.f__law_ask.start [.int (((d + 1 : Nat)) : Int), .list (tk.map .str)] = [.st, .fz (.int (((d + 1 : Nat)) : Int)), .fz (.list (tk.map .str)), .no, .no, .no, .no, .no, .no, .no, .no, .no, .no, .no, .no, .no] := rfl
  have c1 : (((d + 1 : Nat)) : Int) = (d : Int) + 1 := by push_cast; rfl
  rw [c1] at st ⊢
  have d0 : (0 : Int) < (d : Int) + 1 := by omega
  have d1 : (d : Int) + 1 - 1 = d := by omega
  have hmin : bltD .min2 [.int ((d : Int) + 1), .int 2] = some (.int m) := by rw [← hm]; rfl
  have eN : 26 + 2 * (d + 1) = (27 + 2 * d) + 1 := by omega
  rw [eN]
  by_cases c0 : way = 0
  · subst c0
    obtain ⟨x, w1, r1, ⟨b, al, hal, rfl⟩, s1⟩ := gives_take tk (free_ne (by omega)) 0 w0 s0
    refine ⟨_, w1, Run.of T_ask rfl (by rw [hw.some]; rfl) fun Φ l => ?_, ⟨_, _, _, rfl, askw_take _ b (free_als hal)⟩, s1⟩
    have h0 := rn.use l (by omega)
    have h1 := r1.use l (by omega)
    rw [st]
    unfold Tb.f__law_ask Tb.b__law_ask
    simp [d0, h0, h1]
  by_cases c23 : way = 2 ∨ way = 3
  · obtain ⟨x, w1, r1, px, s1⟩ := hS tk ht hl w0 s0
    refine ⟨_, w1, Run.of T_ask rfl (by rw [hw.some]; rfl) fun Φ l => ?_, px, s1⟩
    have h0 := rn.use l (by omega)
    have h1 := r1.use l (by omega)
    rw [st]
    unfold Tb.f__law_ask Tb.b__law_ask
    rcases c23 with rfl | rfl <;> simp [d0, h0, h1, hmin]
  have nx : ¬ (way < 4 ∧ 1 < way) := by omega
  obtain ⟨x1, w1, r1, ⟨q, k, A, rfl, hq⟩, s1⟩ := hA tk (by omega) (by omega) w0 s0
  have hkl := hq.kl
  have ko : KnOk 0 k := ⟨hq.lay, by omega⟩
  by_cases c19 : way = 1 ∨ way = 9
  · obtain ⟨t, w2, r2, ⟨tt, rfl, tok, tlv, tly⟩, s2⟩ := test0 k 1 ko w1 s1
    refine ⟨.tuple [(Qn.wher tt q).toD, knD k], w2, Run.of T_ask rfl (by rw [hw.some]; rfl) fun Φ l => ?_, ⟨_, _, _, rfl, hq.wher tok tlv⟩, s2⟩
    have h0 := rn.use l (by omega)
    have h1 := r1.use l (by omega)
    have h2 := r2.use l (by omega)
    rw [st]
    unfold Tb.f__law_ask Tb.b__law_ask
    rcases c19 with rfl | rfl <;> simp [d0, d1, h0, h1, h2, Qn.toD]
  by_cases c4 : way = 4
  · subst c4
    obtain ⟨x, w2, r2, ⟨a, b, rfl⟩, s2⟩ := gives_made q k ko w1 s1
    refine ⟨_, w2, Run.of T_ask rfl (by rw [hw.some]; rfl) fun Φ l => ?_, ⟨_, _, _, rfl, hq.made a b⟩, s2⟩
    have h0 := rn.use l (by omega)
    have h1 := r1.use l (by omega)
    have h2 := r2.use l (by omega)
    rw [st]
    unfold Tb.f__law_ask Tb.b__law_ask
    simp [d0, d1, h0, h1, h2]
  by_cases c5 : way = 5
  · subst c5
    obtain ⟨x2, w2, r2, ⟨q', k', A', rfl, hq'⟩, s2⟩ := hA tk (by omega) (by omega) w1 s1
    have ko' : KnOk 0 k' := ⟨hq'.lay, by have := hq'.kl; omega⟩
    obtain ⟨x3, w3, r3, ⟨a, b, rfl⟩, s3⟩ := gives_made q k ko w2 s2
    obtain ⟨tg, w4, r4, htg, s4⟩ := gives_pick [.str "both", .str "less", .str "common"] (by simp) 0 w3 s3
    obtain ⟨tg, rfl, hto⟩ : ∃ v : Str, tg = .str v ∧ (v = Str.ofString "both" ∨ v = Str.ofString "less" ∨ v = Str.ofString "common") := by
      simp only [List.mem_cons, List.not_mem_nil, or_false] at htg
      rcases htg with rfl | rfl | rfl
      · exact ⟨_, rfl, .inl rfl⟩
      · exact ⟨_, rfl, .inr (.inl rfl)⟩
      · exact ⟨_, rfl, .inr (.inr rfl)⟩
    obtain ⟨x5, w5, r5, ⟨a', b', rfl⟩, s5⟩ := gives_made q' k' ko' w4 s4
    refine ⟨.tuple [(Qn.two tg (.make [("m", a), ("n", b)] q) (.make [("m", a'), ("n", b')] q')).toD, knD madeK], w5, Run.of T_ask rfl (by rw [hw.some]; rfl) fun Φ l => ?_, ⟨_, _, _, rfl, hq.two hq' a b a' b' hto⟩, s5⟩
    have h0 := rn.use l (by omega)
    have h1 := r1.use l (by omega)
    have h2 := r2.use l (by omega)
    have h3 := r3.use l (by omega)
    have h4 := r4.use l (by omega)
    have h5 := r5.use l (by omega)
    rw [st]
    unfold Tb.f__law_ask Tb.b__law_ask
    simp [d0, d1, h0, h1, h2, h3, h4, h5]
    simp [Qn.toD]
  by_cases c6 : way = 6
  · subst c6
    refine ⟨.tuple [(Qn.once q).toD, knD k], w1, Run.of T_ask rfl (by rw [hw.some]; rfl) fun Φ l => ?_, ⟨_, _, _, rfl, hq.once⟩, s1⟩
    have h0 := rn.use l (by omega)
    have h1 := r1.use l (by omega)
    rw [st]
    unfold Tb.f__law_ask Tb.b__law_ask
    simp [d0, d1, h0, h1, Qn.toD]
  by_cases c7 : way = 7
  · subst c7
    obtain ⟨_, w2, r2, ⟨n, rfl, n0, n3⟩, s2⟩ := gives_next 3 (by decide) 0 w1 s1
    have tail : ∀ (keys : List (Str × D)) (w3 : W), St 0 w3 → (∀ r ∈ keys, TmL r.2 ∧ r.1 ∈ plains) → keys.length ≤ 2 →
        (∀ Φ, L (27 + 2 * d) Φ → ∀ (v4 v5 : Cell), ev Φ Tb.G [.st, .fz (.int ((d : Int) + 1)), .fz (.list (tk.map .str)), .fz (.int 7), .fz q.toD, .fz (knD k), .no, .no, .no, .no, .no, .no, .no, .no, .no, .no] (.lc [13] (.tup (.cons (.v 13) (.cons (.wcall "_law_term" 0 (.cons (.v 5) (.cons (.str "num") (.cons (.int 0) .nil)))) .nil))) (.nm 13) (.seq (.sl (.lst (.cons (.str "g") (.cons (.str "h") .nil))) .no (.yes (.wcall "_law_next" 0 (.cons (.int 3) .nil))))) .no) w1 = some (.list (keys.map row2), w3)) →
        ∃ x w', R (27 + 2 * d + 1) "_law_ask" [.int ((d : Int) + 1), .list (tk.map .str)] w (x, w') ∧ AskP (d + 1) x ∧ St 0 w' := by
      intro keys w3 s3 hk hkl2 hev
      obtain ⟨f, w4, r4, hf, s4⟩ := gives_pick [.str "count", .str "sum", .str "least", .str "most"] (by simp) 0 w3 s3
      obtain ⟨t, w5, r5, pt, s5⟩ := term0 k "num" 0 ko (.inl rfl) w4 s4
      refine ⟨.tuple [(Qn.group keys [("c", [.str "all", .tuple [.str "null"]]), ("d", [f, t])] q).toD, knD (grpK keys)], w5, Run.of T_ask rfl (by rw [hw.some]; rfl) fun Φ l => ?_, ⟨_, _, _, rfl, hq.group hk hkl2 f t⟩, s5⟩
      have h0 := rn.use l (by omega)
      have h1 := r1.use l (by omega)
      have h4 := r4.use l (by omega)
      have h5 := r5.use l (by omega)
      have hl2 : ∀ {x0 x1 x2 x3 x4 x5 x6 x7 x8 x9 x10 x11 x12 x13 x14 x15 : Cell} {s : W}, lcLoop (lcT Φ Tb.G [x0, x1, x2, x3, x4, x5, x6, x7, x8, x9, x10, x11, x12, x13, x14, x15] [13, 15] (.tup (.cons (.v 13) (.cons (.str "num") .nil))) (.tup [13, 15]) .no) (keys.map row2) s = some (keys.map (fun r => kcD (r.1, Str.ofString "num")), s) := by
        intros
        refine lc_eachM fun r _ => ?_
        simp [lcT, wipeE, row2, kcD]
      have hg : PyData.list (keys.map (fun r => kcD (r.1, Str.ofString "num")) ++ [.tuple [.str "c", .str "num"], .tuple [.str "d", .str "num"]]) = knD (grpK keys) := by
        simp [knD, grpK, Function.comp_def]
        simp [kcD]
      have ln : lineOk (keys.length + 1 + 1) = true := line_of (by omega)
      have hev' := hev Φ l .no .no
      rw [st]
      unfold Tb.f__law_ask Tb.b__law_ask
      simp [d0, d1, h0, h1, -ev_lc, hev', bltD]
      simp [h4, h5, seqOf, hl2, hg, ln]
      simp [Qn.toD, row2, rowF]
    obtain ⟨t1, w3, r3, p3, s3⟩ := term0 k "num" 0 ko (.inl rfl) w2 s2
    obtain ⟨t2, w4, r4, p4, s4⟩ := term0 k "num" 0 ko (.inl rfl) w3 s3
    have g1 : (Str.ofString "g") ∈ plains := by decide
    have g2 : (Str.ofString "h") ∈ plains := by decide
    obtain rfl | rfl | rfl : n = 0 ∨ n = 1 ∨ n = 2 := by omega
    · refine tail [] w2 s2 (by simp) (by simp) fun Φ l _ _ => ?_
      have h2 := r2.use l (by omega)
      have hs : slD (.list [.str "g", .str "h"]) none (some 0) = some (.list []) := rfl
      simp [h2, hs, seqOf, lcLoop]
    · refine tail [("g", t1)] w3 s3 (by simp [p3, g1]) (by simp) fun Φ l _ _ => ?_
      have h2 := r2.use l (by omega)
      have h3 := r3.use l (by omega)
      have hs : slD (.list [.str "g", .str "h"]) none (some 1) = some (.list [.str "g"]) := rfl
      simp [h2, hs, seqOf, lcLoop, lcT, wipeE, h3, row2]
    · refine tail [("g", t1), ("h", t2)] w4 s4 (by simp [p3, g1, p4, g2]) (by simp) fun Φ l _ _ => ?_
      have h2 := r2.use l (by omega)
      have h3 := r3.use l (by omega)
      have h4 := r4.use l (by omega)
      have hs : slD (.list [.str "g", .str "h"]) none (some 2) = some (.list [.str "g", .str "h"]) := rfl
      simp [h2, hs, seqOf, lcLoop, lcT, wipeE, h3, h4, row2]
  by_cases c8 : way = 8
  · subst c8
    obtain ⟨_, w2, r2, ⟨n, rfl, n0, n3⟩, s2⟩ := gives_next 3 (by decide) 0 w1 s1
    obtain ⟨os, w3, h3, s3⟩ := lc_gives (N := 27 + 2 * d) (e := 0) (turn := fun Φ => lcT Φ Tb.G [.st, .fz (.int ((d : Int) + 1)), .fz (.list (tk.map .str)), .fz (.int 8), .fz q.toD, .fz (knD k), .no, .no, .no, .no, .no, .no, .no, .no, .no, .no] [14] (.tup (.cons (.wcall "_law_term" 0 (.cons (.v 5) (.cons (.wcall "_law_pick" 0 (.cons (.lst (.cons (.str "num") (.cons (.str "text") .nil))) .nil)) (.cons (.int 0) .nil)))) (.cons (.cmp .eq (.wcall "_law_next" 0 (.cons (.int 2) .nil)) (.int 0)) .nil))) (.nm 14) .no) (xs := rngD 0 n.toNat)
      (by
        intro x _ w hw
        obtain ⟨kd, w1, r1, hkd, s1⟩ := gives_pick [.str "num", .str "text"] (by simp) 0 w hw
        obtain ⟨kind, hk, rfl⟩ := kd_pick2 hkd
        obtain ⟨t, w2, r2, pt, s2⟩ := term0 k kind 0 ko hk w1 s1
        obtain ⟨_, w3, r3, ⟨b, rfl, b0, b1⟩, s3⟩ := gives_next 2 (by decide) 0 w2 s2
        refine ⟨.tuple [t, .bool (decide (b = 0))], w3, fun Φ l => ?_, s3⟩
        have h1 := r1.use l (by omega)
        have h2 := r2.use l (by omega)
        have h3 := r3.use l (by omega)
        simp [lcT, wipeE, h1, h2, h3]) w2 s2
    obtain ⟨_, w4, r4, ⟨m4, rfl, m0, m3⟩, s4⟩ := gives_next 4 (by decide) 0 w3 s3
    refine ⟨.tuple [(Qn.tops m4 (.tuple os) q).toD, knD k], w4, Run.of T_ask rfl (by rw [hw.some]; rfl) fun Φ l => ?_, ⟨_, _, _, rfl, hq.tops m0 (by omega) _⟩, s4⟩
    have h0 := rn.use l (by omega)
    have h1 := r1.use l (by omega)
    have h2 := r2.use l (by omega)
    have h3' := h3 Φ l
    have h4 := r4.use l (by omega)
    have z1 : n ≤ 16777216 := by omega
    have z2 : -16777216 ≤ n := by omega
    rw [st]
    unfold Tb.f__law_ask Tb.b__law_ask
    simp [d0, d1, h0, h1, h2, z1, z2, h3', h4, bltD]
    simp [Qn.toD]
  · obtain rfl : way = 10 := by omega
    refine ⟨.tuple [q.toD, knD k], w1, Run.of T_ask rfl (by rw [hw.some]; rfl) fun Φ l => ?_, ⟨_, _, _, rfl, hq.up⟩, s1⟩
    have h0 := rn.use l (by omega)
    have h1 := r1.use l (by omega)
    rw [st]
    unfold Tb.f__law_ask Tb.b__law_ask
    simp [d0, d1, h0, h1]
theorem AskP.up {d : Nat} {x : D} (h : AskP d x) : AskP (d + 1) x := by
  obtain ⟨q, k, A, e, h⟩ := h
  exact ⟨q, k, A, e, h.up⟩
theorem ask1 : AskC 1 := ask_step (d := 0) (by decide) ask_zero 1 (by decide) fun tk h1 h2 => gives_sides (d := 0) (by decide) ask_zero tk h1 h2
theorem ask2 : AskC 2 := ask_step (d := 1) (by decide) ask1 2 (by decide) fun tk h1 h2 => gives_sides (d := 1) (by decide) ask1 tk h1 h2
theorem ask3 : AskC 3 := ask_step (d := 2) (by decide) ask2 2 (by decide) fun tk h1 h2 => ((gives_sides (d := 1) (by decide) ask1 tk (by omega) (by omega)).mono (by omega)).imp fun x hx => hx.up
end Pure

set_option Elab.async false
set_option linter.all false
set_option maxRecDepth 100000
set_option maxHeartbeats 4000000
set_option autoImplicit false
set_option exponentiation.threshold 20000
/-! K23: runs told at one level; loops with a word; _law_draws. -/
namespace Pure
open PySem PL
theorem Gives.of {N : Nat} {f : Str} {fd : FD} {xs : List D} {e : Nat} {P : D → Prop} (hT : Tb.T f = some fd) (hl : xs.length = fd.np)
    (h : ∀ Φ : Fn, L N Φ → ∀ w, St e w → ∃ x w', evSs Φ Tb.G gf fd.body (fd.start xs) w = some (.rt x, w') ∧ P x ∧ St e w') : Gives (N + 1) f xs e P := by
  intro w hw
  exact Run.ex (P := fun x w' => P x ∧ St e w') hT hl (by rw [hw.some]; simp) fun Φ l => h Φ l w hw
theorem for_inv {turn : D → PL.Env → W → Option (Fl × W)} (I : Nat → PL.Env → W → Prop) : ∀ (xs : List D) (k : Nat), (∀ i x ρ s, xs[i]? = some x → I (k + i) ρ s → ∃ ρ' s', turn x ρ s = some (.nx ρ', s') ∧ I (k + i + 1) ρ' s') →
    ∀ ρ s, I k ρ s → ∃ ρ' s', forLoop turn xs ρ s = some (.nx ρ', s') ∧ I (k + xs.length) ρ' s'
  | [], k, _, ρ, s, h => ⟨ρ, s, rfl, h⟩
  | x :: xs, k, h, ρ, s, hi => by
    obtain ⟨ρ1, s1, e1, i1⟩ := h 0 x ρ s rfl hi
    obtain ⟨ρ2, s2, e2, i2⟩ := for_inv I xs (k + 1) (fun i y ρ s hy hI => by
      have e : k + 1 + i = k + (i + 1) := by omega
      rw [e] at hI ⊢
      exact h (i + 1) y ρ s hy hI) ρ1 s1 i1
    refine ⟨ρ2, s2, ?_, by rw [List.length_cons]; have e : k + (xs.length + 1) = k + 1 + xs.length := by omega
                           rw [e]; exact i2⟩
    unfold forLoop
    rw [e1]
    exact e2
theorem rngD_eq : ∀ (lo : Int) (n : Nat), rngD lo n = (List.range n).map fun i => .int (lo + (i : Nat))
  | lo, 0 => rfl
  | lo, n + 1 => by
    rw [rngD, rngD_eq, List.range_succ_eq_map, List.map_cons, List.map_map]
    simp only [Function.comp_def]
    congr 1
    · simp
    · apply List.map_congr_left
      intro i _
      push_cast
      congr 1
      omega
theorem rngD_len (lo : Int) (n : Nat) : (rngD lo n).length = n := by rw [rngD_eq]; simp
theorem rngD_at {lo : Int} {n i : Nat} {x : D} (h : (rngD lo n)[i]? = some x) : i < n ∧ x = .int (lo + (i : Nat)) := by
  rw [rngD_eq] at h
  simp only [List.getElem?_map] at h
  by_cases c : i < n
  · rw [List.getElem?_range c] at h
    exact ⟨c, by simpa using h.symm⟩
  · rw [List.getElem?_eq_none (by simpa using c)] at h
    simp at h
theorem line_big {n : Nat} (h : n ≤ 100000) : lineOk n = true := by
  unfold lineOk
  rw [sizeLine_eq]
  exact decide_eq_true (by omega)
theorem T_draws : Tb.T "_law_draws" = some Tb.f__law_draws := by kernel_rfl
theorem pow18 : binD .pow (.int 10) (.int 18) = some (.int 1000000000000000000) := by
  have : (decide ((0 : Int) ≤ 18) && decide ((18 : Int) ≤ 1000) && decide ((10 : Int).natAbs < 1000)) = true := by decide
  simp [binD]
theorem big17 {m : Int} (h0 : 0 ≤ m) (h : m < 131072) : bigOk m = true := big_of (k := 17) (by omega) (by decide) (by decide)
def drE (ns dr : List Int) (m : Int) (c4 c5 c6 c7 : Cell) : PL.Env := [.fz (.list (ns.map .int)), .fz (.int 900), .own (.list (dr.map .int)), .fz (.int m), c4, c5, c6, c7]
theorem run_draws (ns : List Int) (hn : ns.length ≤ 63) (s : W) : ∃ dr : List Int, R 1 "_law_draws" [.list (ns.map .int), .int 900] s (.list (dr.map .int), s) := by
  have := Run.ex (T := Tb.T) (G := Tb.G) (g := gf) (N := 0) (f := "_law_draws") (fd := Tb.f__law_draws) (xs := [.list (ns.map .int), .int 900]) (s := s) (P := fun x s' => s' = s ∧ ∃ dr : List Int, x = .list (dr.map .int)) T_draws rfl rfl ?_
  · obtain ⟨x, s', h, rfl, dr, rfl⟩ := this
    exact ⟨dr, h⟩
  · intro Φ l
    have st : Tb.f__law_draws.start [.list (ns.map .int), .int 900] = [.fz (.list (ns.map .int)), .fz (.int 900), .no, .no, .no, .no, .no, .no] := rfl
    have app : ∀ (dr : List Int) (i : Int), (dr.map PyData.int) ++ [.int i] = (dr ++ [i]).map .int := fun dr i => by simp
    have hlen : bltD .len [.list (ns.map .int)] = some (.int (ns.length : Int)) := by simp [bltD]
    rw [st]
    unfold Tb.f__law_draws Tb.b__law_draws
    have z1 : ((ns.length : Int) ≤ 16777216) := by omega
    have z2 : (-16777216 ≤ (ns.length : Int)) := by omega
    have in2 : ∀ (i : Nat) (dr : List Int) (m r : Int) (c4 c5 c7 : Cell), dr.length ≤ 62 * i + 2 → i ≤ 62 → ∃ (dr' : List Int) (c6 c7' : Cell), dr'.length ≤ 62 * (i + 1) ∧
      forLoop (forT Φ Tb.G gf (.nm 7) (.cons (.ite (.cmp .gt (.v 6) (.int 0)) (.cons (.app 2 (.bin .mod (.blt .int (.cons (.v 6) .nil)) (.int 997))) (.cons (.asg (.nm 6) (.bin .fdiv (.v 6) (.int 997))) .nil)) .nil) .nil)) (rngD 0 60) (drE ns dr m c4 c5 (.fz (.int r)) c7) s = some (.nx (drE ns dr' m c4 c5 c6 c7'), s) := by
      intro i dr m r c4 c5 c7 hd hi
      obtain ⟨ρ', s', e, dr', r', c7', rfl, rfl, hl⟩ := for_inv (turn := forT Φ Tb.G gf (.nm 7) (.cons (.ite (.cmp .gt (.v 6) (.int 0)) (.cons (.app 2 (.bin .mod (.blt .int (.cons (.v 6) .nil)) (.int 997))) (.cons (.asg (.nm 6) (.bin .fdiv (.v 6) (.int 997))) .nil)) .nil) .nil))
        (fun j ρ s' => ∃ (dr' : List Int) (r' : Int) (c7' : Cell), s' = s ∧ ρ = drE ns dr' m c4 c5 (.fz (.int r')) c7' ∧ dr'.length ≤ 62 * i + 2 + j) (rngD 0 60) 0 (by
          rintro j x ρ s' hx ⟨dr', r', c7', rfl, rfl, hl⟩
          obtain ⟨hj, rfl⟩ := rngD_at hx
          by_cases c : 0 < r'
          · refine ⟨drE ns (dr' ++ [r' % 997]) m c4 c5 (.fz (.int (r' / 997))) (.fz (.int (0 + (j : Nat)))), s', ?_, _, _, _, rfl, rfl, by simp; omega⟩
            have ln : lineOk (dr'.length + 1) = true := line_big (by omega)
            have lg : (997 : Nat).log2 < 9000 := by decide
            simp [forT, drE, c, bltD, ln, lg]
          · refine ⟨drE ns dr' m c4 c5 (.fz (.int r')) (.fz (.int (0 + (j : Nat)))), s', ?_, _, _, _, rfl, rfl, by omega⟩
            simp [forT, drE, c]) _ s ⟨dr, r, c7, rfl, rfl, by omega⟩
      refine ⟨dr', _, _, ?_, e⟩
      rw [rngD_len] at hl
      omega
    obtain ⟨ρ1, s1, e1, dr1, m1, c4, c5, c6, c7, rfl, rfl, hl1, m10, m11⟩ := for_inv (turn := forT Φ Tb.G gf (.nm 4) (.cons (.asg (.nm 5) (.blt .abs (.cons (.blt .int (.cons (.ix (.v 0) (.v 4)) .nil)) .nil)))
      (.cons (.asg (.nm 3) (.bin .mod (.blt .int (.cons (.bin .add (.bin .add (.bin .mul (.v 3) (.int 48271)) (.bin .mod (.v 5) (.int 1000003))) (.v 4)) .nil)) (.int 65537)))
      (.cons (.asg (.nm 6) (.int 0))
      (.cons (.ite (.cmp .ge (.v 5) (.bin .pow (.int 10) (.int 18))) (.cons (.asg (.nm 6) (.v 5))
      .nil) (.cons (.app 2 (.bin .mod (.blt .int (.cons (.v 5) .nil)) (.int 997)))
      (.cons (.app 2 (.bin .mod (.bin .mod (.blt .int (.cons (.bin .add (.bin .mul (.v 3) (.int 69621)) (.int 5)) .nil)) (.int 65521)) (.int 997)))
      .nil)))
      (.cons (.for_ (.nm 7) (.rng1 (.int 60)) (.cons (.ite (.cmp .gt (.v 6) (.int 0)) (.cons (.app 2 (.bin .mod (.blt .int (.cons (.v 6) .nil)) (.int 997)))
      (.cons (.asg (.nm 6) (.bin .fdiv (.v 6) (.int 997)))
      .nil)) .nil)
      .nil))
      .nil))))))
      (fun j ρ s' => ∃ (dr' : List Int) (m' : Int) (c4 c5 c6 c7 : Cell), s' = s ∧ ρ = drE ns dr' m' c4 c5 c6 c7 ∧ dr'.length ≤ 62 * j ∧ 0 ≤ m' ∧ m' < 65537) (rngD 0 ns.length) 0 (by
        rintro j x ρ s' hx ⟨dr', m', c4, c5, c6, c7, rfl, rfl, hl, h0, h1⟩
        obtain ⟨hj, rfl⟩ := rngD_at hx
        rw [Nat.zero_add] at hl ⊢
        have hix : L2.atI (ns.map PyData.int) (j : Int) = some (.int ns[j]) := by
          rw [atI_nat]; simp [hj]
        obtain ⟨cl, hcl⟩ : ∃ cl : Int, cl = if ns[j] < 0 then -ns[j] else ns[j] := ⟨_, rfl⟩
        have habs : bltD .abs [.int ns[j]] = some (.int cl) := by rw [hcl]; rfl
        obtain ⟨m2, hm2⟩ : ∃ m2 : Int, m2 = (m' * 48271 + cl % 1000003 + (j : Int)) % 65537 := ⟨_, rfl⟩
        have q0 : 0 ≤ m2 := by rw [hm2]; exact Int.emod_nonneg _ (by decide)
        have q1 : m2 < 65537 := by rw [hm2]; exact Int.emod_lt_of_pos _ (by decide)
        have b1 : bigOk m' = true := big17 h0 (by omega)
        have b2 : bigOk m2 = true := big17 q0 (by omega)
        have b3 : bigOk 48271 = true := big17 (by decide) (by decide)
        have b4 : bigOk 69621 = true := big17 (by decide) (by decide)
        have i0 : ∀ i : Int, bltD .int [.int i] = some (.int i) := fun i => rfl
        by_cases c : 1000000000000000000 ≤ cl
        · obtain ⟨dr2, c6', c7', hl2, e2⟩ := in2 j dr' m2 cl (.fz (.int (0 + (j : Nat)))) (.fz (.int cl)) c7 (by omega) (by omega)
          refine ⟨drE ns dr2 m2 (.fz (.int (0 + (j : Nat)))) (.fz (.int cl)) c6' c7', s', ?_, dr2, m2, _, _, _, _, rfl, rfl, hl2, q0, q1⟩
          unfold drE at e2 ⊢
          simp only [Int.zero_add] at e2 ⊢
          simp [forT, hix, i0, habs, b1, b3, pow18, c, ← hm2, e2]
        · have ln : lineOk (dr'.length + 1) = true := line_big (by omega)
          have ln2 : lineOk (dr'.length + 1 + 1) = true := line_big (by omega)
          obtain ⟨dr2, c6', c7', hl2, e2⟩ := in2 j (dr' ++ [cl % 997, (m2 * 69621 + 5) % 65521 % 997]) m2 0 (.fz (.int (0 + (j : Nat)))) (.fz (.int cl)) c7 (by simp; omega) (by omega)
          refine ⟨drE ns dr2 m2 (.fz (.int (0 + (j : Nat)))) (.fz (.int cl)) c6' c7', s', ?_, dr2, m2, _, _, _, _, rfl, rfl, hl2, q0, q1⟩
          unfold drE at e2 ⊢
          simp only [Int.zero_add, List.map_append, List.map_cons, List.map_nil] at e2 ⊢
          simp [forT, hix, i0, habs, b1, b2, b3, b4, pow18, c, ← hm2, ln, ln2, e2]) (drE ns [] 7 .no .no .no .no) s ⟨[], 7, .no, .no, .no, .no, rfl, rfl, by simp, by decide, by decide⟩
    rw [rngD_len] at hl1
    obtain ⟨ρ2, s2, e2, dr2, m2, c4', rfl, rfl, hl2, m20, m21⟩ := for_inv (turn := forT Φ Tb.G gf (.nm 4) (.cons (.asg (.nm 3) (.bin .mod (.blt .int (.cons (.bin .add (.bin .add (.bin .mul (.v 3) (.int 16807)) (.v 4)) (.int 1)) .nil)) (.int 65537)))
      (.cons (.app 2 (.bin .mod (.blt .int (.cons (.v 3) .nil)) (.int 997)))
      .nil)))
      (fun j ρ s' => ∃ (dr' : List Int) (m' : Int) (c4 : Cell), s' = s1 ∧ ρ = drE ns dr' m' c4 c5 c6 c7 ∧ dr'.length ≤ 62 * ns.length + j ∧ 0 ≤ m' ∧ m' < 65537) (rngD 0 900) 0 (by
        rintro j x ρ s' hx ⟨dr', m', c4, rfl, rfl, hl, h0, h1⟩
        obtain ⟨hj, rfl⟩ := rngD_at hx
        rw [Nat.zero_add] at hl ⊢
        obtain ⟨m2, hm2⟩ : ∃ m2 : Int, m2 = (m' * 16807 + (j : Int) + 1) % 65537 := ⟨_, rfl⟩
        have q0 : 0 ≤ m2 := by rw [hm2]; exact Int.emod_nonneg _ (by decide)
        have q1 : m2 < 65537 := by rw [hm2]; exact Int.emod_lt_of_pos _ (by decide)
        have b1 : bigOk m' = true := big17 h0 (by omega)
        have b3 : bigOk 16807 = true := big17 (by decide) (by decide)
        have i0 : ∀ i : Int, bltD .int [.int i] = some (.int i) := fun i => rfl
        have ln : lineOk (dr'.length + 1) = true := line_big (by omega)
        refine ⟨drE ns (dr' ++ [m2 % 997]) m2 (.fz (.int (0 + (j : Nat)))) c5 c6 c7, s', ?_, _, _, _, rfl, rfl, by simp; omega, q0, q1⟩
        unfold drE
        simp [forT, i0, b1, b3, ← hm2, ln]) _ s1 ⟨dr1, m1, c4, rfl, rfl, by omega, m10, m11⟩
    unfold drE at e1 e2
    refine ⟨.list ((cut (dr2.map .int) none (some 900))), s2, ?_, rfl, ?_⟩
    · have r900 : (rngD 0 900) = rngD 0 (900 : Int).toNat := rfl
      have rl : (rngD 0 ns.length) = rngD 0 ((ns.length : Int)).toNat := by simp
      rw [r900] at e2
      rw [rl] at e1
      simp [hlen, z1, z2]
      simp at e1 e2
      simp [e1, e2, slD]
    · unfold cut
      exact ⟨_, by rw [← List.map_drop, ← List.map_take]⟩
end Pure

set_option Elab.async false
set_option linter.all false
set_option maxRecDepth 100000
set_option maxHeartbeats 4000000
set_option autoImplicit false
set_option exponentiation.threshold 20000
/-! K24: _law_place, _law_bag, _law_tables. -/
namespace Pure
open PySem PL
theorem T_place : Tb.T "_law_place" = some Tb.f__law_place := by kernel_rfl
theorem T_bag : Tb.T "_law_bag" = some Tb.f__law_bag := by kernel_rfl
theorem T_tables : Tb.T "_law_tables" = some Tb.f__law_tables := by kernel_rfl
def Vl (v : D) : Prop := v = .none ∨ (∃ i, v = .int i) ∨ ∃ s, v = .str s
def place : D → D
  | .int i => .tuple [.int 1, .int i, .str ""]
  | .str s => .tuple [.int 2, .int 0, .str s]
  | _ => .tuple [.int 0, .int 0, .str ""]
theorem run_place {v : D} (h : Vl v) (s : W) : R 1 "_law_place" [v] s (place v, s) := by
  refine Run.of T_place rfl rfl fun Φ l => ?_
  have st : Tb.f__law_place.start [v] = [.fz v] := rfl
  rw [st]
  unfold Tb.f__law_place Tb.b__law_place
  rcases h with rfl | ⟨i, rfl⟩ | ⟨x, rfl⟩ <;> simp [isNon, bltD, isiD, place]
def RowOk (n : Nat) (r : D) : Prop := ∃ vs, r = .tuple vs ∧ vs.length = n ∧ ∀ v ∈ vs, Vl v
def pls' : D → List D
  | .tuple vs => vs.map place
  | _ => []
def told1 (rows : List D) (k : Nat) : D := .tuple [.list (pls' ((rows[k]?).getD .none)), .int k]
def told (rows : List D) : List D := (List.range rows.length).map (told1 rows)
theorem place_alike {v u : D} (h : Vl v) (g : Vl u) : PySem.W.alike (place v) (place u) = true := by
  rcases h with rfl | ⟨i, rfl⟩ | ⟨x, rfl⟩ <;> rcases g with rfl | ⟨j, rfl⟩ | ⟨y, rfl⟩ <;> simp [place, PySem.W.alike, PySem.W.alikeAll]
theorem places_alike : ∀ {vs us : List D}, (∀ v ∈ vs, Vl v) → (∀ v ∈ us, Vl v) → PySem.W.alikeAll (vs.map place) (us.map place) = true
  | [], us, _, _ => by simp [PySem.W.alikeAll]
  | _ :: _, [], _, _ => by simp [PySem.W.alikeAll]
  | v :: vs, u :: us, h, g => by
    simp only [List.map_cons, PySem.W.alikeAll, Bool.and_eq_true]
    exact ⟨place_alike (h v List.mem_cons_self) (g u List.mem_cons_self), places_alike (fun x hx => h x (List.mem_cons_of_mem _ hx)) (fun x hx => g x (List.mem_cons_of_mem _ hx))⟩
theorem place_nd {v : D} (h : Vl v) : nd (place v) = true := by
  rcases h with rfl | ⟨i, rfl⟩ | ⟨x, rfl⟩ <;> simp [place, nd, ndA]
theorem places_nd : ∀ {vs : List D}, (∀ v ∈ vs, Vl v) → ndA (vs.map place) = true
  | [], _ => rfl
  | v :: vs, h => by
    simp only [List.map_cons, ndA, Bool.and_eq_true]
    exact ⟨place_nd (h v List.mem_cons_self), places_nd fun x hx => h x (List.mem_cons_of_mem _ hx)⟩
theorem place_dp {v : D} (h : Vl v) : PyData.depth (place v) ≤ 1 := by
  rcases h with rfl | ⟨i, rfl⟩ | ⟨x, rfl⟩ <;> simp [place, PyData.depth, PyData.depthAll]
theorem places_dp : ∀ {vs : List D}, (∀ v ∈ vs, Vl v) → PyData.depthAll (vs.map place) ≤ 1
  | [], _ => by simp [PyData.depthAll]
  | v :: vs, h => by
    have h1 := place_dp (h v List.mem_cons_self)
    have h2 := places_dp (vs := vs) fun x hx => h x (List.mem_cons_of_mem _ hx)
    simp only [List.map_cons, PyData.depthAll]
    omega
section
variable {rows : List D} {n : Nat} (h : ∀ r ∈ rows, RowOk n r)
include h
theorem told1_is {k : Nat} (hk : k < rows.length) : ∃ vs, rows[k] = .tuple vs ∧ (∀ v ∈ vs, Vl v) ∧ told1 rows k = .tuple [.list (vs.map place), .int k] := by
  obtain ⟨vs, e, _, hv⟩ := h rows[k] (List.getElem_mem hk)
  refine ⟨vs, e, hv, ?_⟩
  unfold told1
  rw [List.getElem?_eq_getElem hk]
  simp only [Option.getD_some]
  rw [e]
  rfl
theorem told_mem {x : D} (hx : x ∈ told rows) : ∃ k vs, ∃ hk : k < rows.length, rows[k] = .tuple vs ∧ (∀ v ∈ vs, Vl v) ∧ x = .tuple [.list (vs.map place), .int k] := by
  obtain ⟨k, hk, rfl⟩ := List.mem_map.mp hx
  have hk' := List.mem_range.mp hk
  obtain ⟨vs, e, hv, e2⟩ := told1_is h hk'
  exact ⟨k, vs, hk', e, hv, e2⟩
theorem told_ok : sortOk (told rows) = true := by
  unfold sortOk
  simp only [Bool.and_eq_true, Bool.or_eq_true, List.all_eq_true]
  refine ⟨⟨fun x hx y hy => ?_, .inl fun x hx => ?_⟩, fun x hx => ?_⟩
  · obtain ⟨k, vs, hk, _, hv, rfl⟩ := told_mem h hx
    obtain ⟨j, us, hj, _, hu, rfl⟩ := told_mem h hy
    simp [PySem.W.alike, PySem.W.alikeAll, places_alike hv hu]
  · obtain ⟨k, vs, hk, _, hv, rfl⟩ := told_mem h hx
    rfl
  · obtain ⟨k, vs, hk, _, hv, rfl⟩ := told_mem h hx
    have := places_dp hv
    simp [PyData.depth, PyData.depthAll, nd, ndA, places_nd hv]
    omega
end
def back (rows : List D) : D → D
  | .tuple [_, .int k] => (rows[k.toNat]?).getD .none
  | _ => .none
theorem told_back (rows : List D) : (told rows).map (back rows) = rows := by
  apply List.ext_getElem
  · simp [told]
  · intro i h1 h2
    simp [told, told1, back, List.getElem?_eq_getElem h2]
theorem run_bag {rows : List D} {n : Nat} (h : ∀ r ∈ rows, RowOk n r) (hl : rows.length ≤ 1000) (s : W) : ∃ rows', R 2 "_law_bag" [.list rows] s (.tuple rows', s) ∧ rows'.Perm rows := by
  refine ⟨(sortD (told rows)).map (back rows), Run.of T_bag rfl rfl fun Φ l => ?_, ?_⟩
  · have st : Tb.f__law_bag.start [.list rows] = [.fz (.list rows), .no, .no, .no, .no] := rfl
    have z1 : ((rows.length : Int) ≤ 16777216) := by omega
    have z2 : (-16777216 ≤ (rows.length : Int)) := by omega
    have l1 : lcLoop (lcT Φ Tb.G [.fz (.list rows), .no, .no, .no, .no] [2] (.tup (.cons (.lc [3] (.call "_law_place" (.cons (.v 3) .nil)) (.nm 3) (.seq (.ix (.v 0) (.v 2))) .no) (.cons (.v 2) .nil))) (.nm 2) .no) (rngD 0 rows.length) s = some (told rows, s) := by
      rw [rngD_eq]
      refine lc_eachM fun k hk => ?_
      have hk' := List.mem_range.mp hk
      obtain ⟨vs, e, hv, e2⟩ := told1_is h hk'
      have hix : L2.atI rows (k : Int) = some (.tuple vs) := by rw [atI_nat, List.getElem?_eq_getElem hk', e]
      have l2 : ∀ {x0 x1 x2 x3 x4 : Cell}, lcLoop (lcT Φ Tb.G [x0, x1, x2, x3, x4] [3] (.call "_law_place" (.cons (.v 3) .nil)) (.nm 3) .no) vs s = some (vs.map place, s) := by
        intro x0 x1 x2 x3 x4
        refine lc_each fun v hvm => ?_
        have hp := (run_place (hv v hvm) s).use l (Nat.le_refl _)
        simp [lcT, wipeE, hp]
      rw [e2]
      simp [lcT, wipeE, hix, seqOf, l2]
    have hs : bltD .sorted [.list (told rows)] = some (.list (sortD (told rows))) := by
      simp [bltD, sortedB, told_ok h]
    have l3 : ∀ {x0 x1 x2 x3 x4 : Cell}, x0 = .fz (.list rows) → lcLoop (lcT Φ Tb.G [x0, x1, x2, x3, x4] [4, 2] (.ix (.v 0) (.v 2)) (.tup [4, 2]) .no) (sortD (told rows)) s = some ((sortD (told rows)).map (back rows), s) := by
      rintro x0 x1 x2 x3 x4 rfl
      refine lc_each fun x hx => ?_
      obtain ⟨k, vs, hk, e, hv, rfl⟩ := told_mem h ((List.mergeSort_perm _ _).mem_iff.mp hx)
      have hix : L2.atI rows (k : Int) = some rows[k] := by rw [atI_nat, List.getElem?_eq_getElem hk]
      simp [lcT, wipeE, hix, back, List.getElem?_eq_getElem hk]
    have hl : bltD .list [.list rows] = some (.list rows) := rfl
    have hln : bltD .len [.list rows] = some (.int (rows.length : Int)) := rfl
    have ht : bltD .tuple [.list ((sortD (told rows)).map (back rows))] = some (.tuple ((sortD (told rows)).map (back rows))) := rfl
    rw [st]
    unfold Tb.f__law_bag Tb.b__law_bag
    simp [hl, hln, z1, z2, l1]
    simp [hs, seqOf, l3, ht]
  · have := (List.mergeSort_perm (told rows) (PySem.W.dataLe false id)).map (back rows)
    rw [told_back] at this
    exact this
def TblOk (rows : Bool → List D) : Prop := ∀ b, (rows b).length ≤ 4 ∧ ∀ r ∈ rows b, RowOk (colsOf b).length r
@[simp] theorem sl4f2 (x y a b : D) : slD (.tuple [x, y, a, b]) (some 2) none = some (.tuple [a, b]) := rfl
theorem srt_tu : sortD [.str "t", .str "u"] = [.str "t", .str "u"] := by
  refine List.mergeSort_of_pairwise ?_
  simp only [List.pairwise_cons, List.mem_cons, List.not_mem_nil, or_false, forall_eq, List.Pairwise.nil, and_true, false_implies, implies_true]
  decide +kernel
theorem vl_num {v : D} (h : v ∈ [PyData.none, .int 0, .int 1, .int 2, .int 5]) : Vl v := by
  simp only [List.mem_cons, List.not_mem_nil, or_false] at h
  rcases h with rfl | rfl | rfl | rfl | rfl
  · exact .inl rfl
  all_goals exact .inr (.inl ⟨_, rfl⟩)
theorem vl_text {v : D} (h : v ∈ [PyData.none, .str "a", .str "b", .str "ab"]) : Vl v := by
  simp only [List.mem_cons, List.not_mem_nil, or_false] at h
  rcases h with rfl | rfl | rfl | rfl
  · exact .inl rfl
  all_goals exact .inr (.inr ⟨_, rfl⟩)
def rowB : RSs := (.cons (.asg (.nm 6) (.ite (.cmp .eq (.v 1) (.str "u")) (.tup (.cons (.v 5) (.cons (.wcall "_law_next" 0 (.cons (.int 3) .nil)) .nil))) (.tup (.cons (.v 5) .nil))))
  (.cons (.for_ (.tup [7, 8]) (.seq (.sl (.ix (.v 3) (.v 1)) (.yes (.blt .len (.cons (.v 6) .nil))) .no)) (.cons (.asg (.nm 6) (.bin .add (.v 6) (.tup (.cons (.wcall "_law_pick" 0 (.cons (.ite (.cmp .eq (.v 8) (.str "num")) (.lst (.cons .non (.cons (.int 0) (.cons (.int 1) (.cons (.int 2) (.cons (.int 5) .nil)))))) (.lst (.cons .non (.cons (.str "a") (.cons (.str "b") (.cons (.str "ab") .nil)))))) .nil)) .nil))))
  .nil))
  (.cons (.app 4 (.v 6))
  .nil)))
theorem rows_loop {Φ : Fn} (l : L 3 Φ) (e : Nat) (b : Bool) (ds : KV) (n : Nat) (hn : n ≤ 4) (c5 c6 c7 c8 : Cell) (w : W) (hw : St e w) :
    ∃ rws d5 d6 d7 d8 w', forLoop (forT Φ Tb.G gf (.nm 5) rowB) (rngD 0 n) [.st, .fz (.str (tn b)), .own (.dict ds), .fz schemasD, .own (.list []), c5, c6, c7, c8] w = some (.nx [.st, .fz (.str (tn b)), .own (.dict ds), .fz schemasD, .own (.list rws), d5, d6, d7, d8], w') ∧
      rws.length ≤ 4 ∧ (∀ r ∈ rws, RowOk (colsOf b).length r) ∧ St e w' := by
  obtain ⟨ρ', w', e1, rws, d5, d6, d7, d8, rfl, hl, ok, s⟩ := for_inv (turn := forT Φ Tb.G gf (.nm 5) rowB) (fun j ρ w' => ∃ rws d5 d6 d7 d8, ρ = [.st, .fz (.str (tn b)), .own (.dict ds), .fz schemasD, .own (.list rws), d5, d6, d7, d8] ∧ rws.length = j ∧ (∀ r ∈ rws, RowOk (colsOf b).length r) ∧ St e w')
    (rngD 0 n) 0 (by
      rintro j x ρ w hx ⟨rws, d5, d6, d7, d8, rfl, hl, ok, hw⟩
      obtain ⟨hj, rfl⟩ := rngD_at hx
      rw [Nat.zero_add] at hl ⊢
      have ln : lineOk (j + 1) = true := line_big (by omega)
      have l2 : lineOk (1 + 1) = true := line_big (by omega)
      have l3 : lineOk (1 + 1 + 1) = true := line_big (by omega)
      have l4 : lineOk (1 + 1 + 1 + 1) = true := line_big (by omega)
      cases b with
      | true =>
        obtain ⟨v1, w1, h1, p1, s1⟩ := (gives_pick [.none, .int 0, .int 1, .int 2, .int 5] (by simp) e).use l (by decide) hw
        obtain ⟨v2, w2, h2, p2, s2⟩ := (gives_pick [.none, .str "a", .str "b", .str "ab"] (by simp) e).use l (by decide) s1
        refine ⟨[.st, .fz (.str (tn true)), .own (.dict ds), .fz schemasD, .own (.list (rws ++ [.tuple [.int j, v1, v2]])), .fz (.int j), .fz (.tuple [.int j, v1, v2]), .fz (.str "s"), .fz (.str "text")], w2, ?_, _, _, _, _, _, rfl, by simp [hl], ?_, s2⟩
        · simp [forT, rowB, tn, schemasD, bltD, seqOf, forLoop, h1, h2, hl, ln, l2, l3]
        · intro r hr
          rcases List.mem_append.mp hr with h | h
          · exact ok r h
          · rw [List.mem_singleton.mp h]
            refine ⟨_, rfl, rfl, fun v hv => ?_⟩
            simp only [List.mem_cons, List.not_mem_nil, or_false] at hv
            rcases hv with rfl | rfl | rfl
            · exact .inr (.inl ⟨_, rfl⟩)
            · exact vl_num p1
            · exact vl_text p2
      | false =>
        obtain ⟨_, w0, h0, ⟨i, rfl, _, _⟩, s0⟩ := (gives_next 3 (by decide) e).use l (by decide) hw
        obtain ⟨v1, w1, h1, p1, s1⟩ := (gives_pick [.none, .int 0, .int 1, .int 2, .int 5] (by simp) e).use l (by decide) s0
        obtain ⟨v2, w2, h2, p2, s2⟩ := (gives_pick [.none, .str "a", .str "b", .str "ab"] (by simp) e).use l (by decide) s1
        refine ⟨[.st, .fz (.str (tn false)), .own (.dict ds), .fz schemasD, .own (.list (rws ++ [.tuple [.int j, .int i, v1, v2]])), .fz (.int j), .fz (.tuple [.int j, .int i, v1, v2]), .fz (.str "z"), .fz (.str "text")], w2, ?_, _, _, _, _, _, rfl, by simp [hl], ?_, s2⟩
        · simp [forT, rowB, tn, schemasD, bltD, seqOf, forLoop, h0, h1, h2, hl, ln, l2, l3, l4]
        · intro r hr
          rcases List.mem_append.mp hr with h | h
          · exact ok r h
          · rw [List.mem_singleton.mp h]
            refine ⟨_, rfl, rfl, fun v hv => ?_⟩
            simp only [List.mem_cons, List.not_mem_nil, or_false] at hv
            rcases hv with rfl | rfl | rfl | rfl
            · exact .inr (.inl ⟨_, rfl⟩)
            · exact .inr (.inl ⟨_, rfl⟩)
            · exact vl_num p1
            · exact vl_text p2) _ w ⟨[], c5, c6, c7, c8, rfl, rfl, by simp, hw⟩
  rw [rngD_len] at hl
  exact ⟨rws, d5, d6, d7, d8, w', e1, by omega, ok, s⟩
def tabB : RSs := (.cons (.newl 4)
  (.cons (.for_ (.nm 5) (.rng1 (.wcall "_law_next" 0 (.cons (.int 5) .nil))) rowB)
  (.cons (.frz 4)
  (.cons (.put 2 (.v 1) (.tup (.cons (.blt .tuple (.cons (.lc [7, 8] (.v 7) (.tup [7, 8]) (.seq (.ix (.v 3) (.v 1))) .no) .nil)) (.cons (.call "_law_bag" (.cons (.v 4) .nil)) .nil))))
  .nil))))
theorem sch_t : ixD schemasD (.str (Str.ofString "t")) = some (.tuple [.tuple [.str "k", .str "num"], .tuple [.str "x", .str "num"], .tuple [.str "s", .str "text"]]) := by simp [schemasD]
theorem sch_u : ixD schemasD (.str (Str.ofString "u")) = some (.tuple [.tuple [.str "k", .str "num"], .tuple [.str "t", .str "num"], .tuple [.str "y", .str "num"], .tuple [.str "z", .str "text"]]) := by simp [schemasD]
theorem tab_turn {Φ : Fn} (l : L 3 Φ) (e : Nat) (b : Bool) (ds : KV) (hd : ds.length ≤ 4) (c1 c4 c5 c6 c7 c8 : Cell) (w : W) (hw : St e w) :
    ∃ rws d4 d5 d6 d7 d8 w', forT Φ Tb.G gf (.nm 1) tabB (.str (tn b)) [.st, c1, .own (.dict ds), .fz schemasD, c4, c5, c6, c7, c8] w = some (.nx [.st, .fz (.str (tn b)), .own (.dict (dPut ds (.inr (tn b)) (.tuple [.tuple ((colsOf b).map .str), .tuple rws]))), .fz schemasD, d4, d5, d6, d7, d8], w') ∧
      rws.length ≤ 4 ∧ (∀ r ∈ rws, RowOk (colsOf b).length r) ∧ St e w' := by
  obtain ⟨_, w0, h0, ⟨n, rfl, n0, n1⟩, s0⟩ := (gives_next 5 (by decide) e).use l (by decide) hw
  obtain ⟨k, rfl⟩ : ∃ k : Nat, n = k := ⟨n.toNat, by omega⟩
  obtain ⟨rws, d5, d6, d7, d8, w1, h1, hl, ok, s1⟩ := rows_loop l e b ds k (by omega) c5 c6 c7 c8 w0 s0
  obtain ⟨rws', hb, hp⟩ := run_bag ok (by omega) w1
  have hb' := hb.use l (by decide)
  refine ⟨rws', .fz (.list rws), d5, d6, d7, d8, w1, ?_, by rw [hp.length_eq]; exact hl, fun r hr => ok r (hp.mem_iff.mp hr), s1⟩
  · have z1 : ((k : Int) ≤ 16777216) := by omega
    have z2 : (-16777216 ≤ (k : Int)) := by omega
    have ln : lineOk (ds.length + 1) = true := line_big (by omega)
    cases b <;> (
      simp [tn] at h1
      simp [forT, tabB, tn, h0, z1, z2, h1, sch_t, sch_u]
      simp [frz, sch_t, sch_u, seqOf, lcLoop, lcT, wipeE, bltD, hb', kOf, ln, colsOf])
theorem gives_tables (e : Nat) : Gives 4 "_law_tables" [] e (fun x => ∃ rows, x = tablesD rows ∧ TblOk rows) := by
  refine Gives.of (N := 3) T_tables rfl fun Φ l w hw => ?_
  obtain ⟨r1, a4, a5, a6, a7, a8, w1, h1, l1, o1, s1⟩ := tab_turn l e true [] (by simp) .no .no .no .no .no .no w hw
  obtain ⟨r2, b4, b5, b6, b7, b8, w2, h2, l2, o2, s2⟩ := tab_turn l e false (dPut [] (.inr (tn true)) (.tuple [.tuple ((colsOf true).map .str), .tuple r1])) (by simp [dPut]) (.fz (.str (tn true))) a4 a5 a6 a7 a8 w1 s1
  refine ⟨tablesD fun b => if b then r1 else r2, w2, ?_, ⟨_, rfl, fun b => by cases b <;> exact ⟨by assumption, by assumption⟩⟩, s2⟩
  have st : Tb.f__law_tables.start [] = [.st, .no, .no, .no, .no, .no, .no, .no, .no] := rfl
  have hs := (run_lsch w).use l (by decide)
  have hso : bltD .sorted [schemasD] = some (.list [.str "t", .str "u"]) := by
    simp [bltD, sortedB, schemasD, strsOf, srt_tu]
  rw [st]
  unfold Tb.f__law_tables Tb.b__law_tables
  simp only [tn, if_true, if_false, Bool.false_eq_true] at h1 h2
  have sh : ∀ x ρ s, forT Φ Tb.G gf (.nm 1) tabB x ρ s = forT Φ Tb.G gf (.nm 1) tabB x ρ s := fun _ _ _ => rfl
  unfold tabB rowB at h1 h2
  simp [hs, hso, setCs, seqOf, forLoop, h1, h2, frz]
  simp [tablesD, tableD, dPut, isK, kOf, kD, tn]
end Pure

set_option Elab.async false
set_option linter.all false
set_option maxRecDepth 100000
set_option maxHeartbeats 4000000
set_option autoImplicit false
set_option exponentiation.threshold 20000
/-! K25: _law_same, counts. -/
namespace Pure
open PySem PL
theorem T_same : Tb.T "_law_same" = some Tb.f__law_same := by kernel_rfl
theorem T_samed : Tb.T "_law_same_dict" = some Tb.f__law_same_dict := by kernel_rfl
theorem T_isc : Tb.T "_law_is_counts" = some Tb.f__law_is_counts := by kernel_rfl
theorem T_cof : Tb.T "counts_of" = some Tb.f_counts_of := by kernel_rfl
theorem run_same_i (i : Int) (s : W) : R 1 "_law_same" [.int i, .int i] s (.bool true, s) := by
  refine Run.of T_same rfl rfl fun Φ l => ?_
  have st : Tb.f__law_same.start [.int i, .int i] = [.fz (.int i), .fz (.int i), .no] := rfl
  rw [st]
  unfold Tb.f__law_same Tb.b__law_same
  simp [bltD, isiD, isNon]
theorem run_same_p (x : Int × Int) (s : W) : R 2 "_law_same" [pr x, pr x] s (.bool true, s) := by
  refine Run.of T_same rfl rfl fun Φ l => ?_
  have h1 := (run_same_i x.1 s).use l (Nat.le_refl _)
  have h2 := (run_same_i x.2 s).use l (Nat.le_refl _)
  have st : Tb.f__law_same.start [pr x, pr x] = [.fz (pr x), .fz (pr x), .no] := rfl
  have r2 : rngD 0 2 = [.int 0, .int 1] := rfl
  have e0 : cmpD .eq (.list []) (.list []) = some true := by simp [cmpD, eqOk, PyData.eqv, PyData.eqvAll, PyData.canLay0, PyData.canLayAll0, PyData.depth, PyData.depthAll]
  rw [st]
  unfold Tb.f__law_same Tb.b__law_same pr
  simp [bltD, isiD, isNon, r2, lcLoop, lcT, wipeE, h1, h2, e0]
def okv : D → Option L2.Key
  | .int i => some (.inl i)
  | .str s => some (.inr s)
  | _ => none
theorem okeys_eq : ∀ {xs : List D}, (∀ v ∈ xs, Vl v) → okeys xs = some (xs.map okv)
  | [], _ => rfl
  | v :: xs, h => by
    have h1 := okeys_eq (xs := xs) fun x hx => h x (List.mem_cons_of_mem _ hx)
    rcases h v List.mem_cons_self with rfl | ⟨i, rfl⟩ | ⟨x, rfl⟩ <;> simp [okeys, h1, okOf, okv]
theorem dedup_len (ks : List (Option L2.Key)) : (dedupK ks).length ≤ ks.length := by
  have : ∀ (ks a : List (Option L2.Key)), (ks.foldl PL.stepK a).length ≤ a.length + ks.length := by
    intro ks
    induction ks with
    | nil => intro a; simp
    | cons k ks ih =>
      intro a
      rw [List.foldl_cons, List.length_cons]
      have h1 := ih (PL.stepK a k)
      have h2 : (PL.stepK a k).length ≤ a.length + 1 := by
        unfold PL.stepK
        split
        · omega
        · simp
      omega
  have := this ks []
  unfold dedupK
  simpa using this
def cl (k : Nat) : D → D
  | .tuple vs => (vs[k]?).getD .none
  | _ => .none
def dcnt (rows : List D) (k : Nat) : Nat := (dedupK ((rows.map (cl k)).map okv)).length
theorem dcnt_le (rows : List D) (k : Nat) : dcnt rows k ≤ rows.length := by
  have := dedup_len ((rows.map (cl k)).map okv)
  simpa [dcnt] using this
def tcn (rows : Bool → List D) : Cn := ⟨fun b => (rows b).length, fun b s => dcnt (rows b) ((colsOf b).idxOf s)⟩
theorem tcn_ok {rows : Bool → List D} (h : TblOk rows) : CnOk (tcn rows) := by
  constructor
  · intro b
    have := (h b).1
    show 0 ≤ ((rows b).length : Int) ∧ ((rows b).length : Int) < 64
    omega
  · intro b k
    have := (h b).1
    have h2 := dcnt_le (rows b) ((colsOf b).idxOf k)
    show ((dcnt (rows b) _ : Nat) : Int) < 64
    omega
/-- a column's values -/
theorem col_lc {rows : List D} {n k : Nat} (h : ∀ r ∈ rows, RowOk n r) (hk : k < n) {Φ : Fn} {ρ : PL.Env} {i j : Nat} (h1 : ∀ x : D, ((wipeE ρ [i]).set i (.fz x))[i]? = some (.fz x)) (h2 : ∀ x : D, ((wipeE ρ [i]).set i (.fz x))[j]? = some (.fz (.int k))) (s : W) :
    lcLoop (lcT Φ Tb.G ρ [i] (.ix (.v i) (.v j)) (.nm i) .no) rows s = some (rows.map (cl k), s) := by
  refine lc_each fun r hr => ?_
  obtain ⟨vs, rfl, hl, _⟩ := h r hr
  have hix : L2.atI vs (k : Int) = some (cl k (.tuple vs)) := by
    rw [atI_nat]
    simp [cl, hl, hk]
  simp only [lcT, bindT_nm, evCq_0, evq_17, evq_4, rdE_v, h1, h2, rdC_fz, fzC_fz, ixD_tup, hix]
theorem cl_vl {rows : List D} {n k : Nat} (h : ∀ r ∈ rows, RowOk n r) (hk : k < n) : ∀ v ∈ rows.map (cl k), Vl v := by
  intro v hv
  obtain ⟨r, hr, rfl⟩ := List.mem_map.mp hv
  obtain ⟨vs, rfl, hl, ok⟩ := h r hr
  have : cl k (.tuple vs) = vs[k] := by simp [cl, hl, hk]
  rw [this]
  exact ok _ (List.getElem_mem _)
theorem lenset_cl {rows : List D} {n k : Nat} (h : ∀ r ∈ rows, RowOk n r) (hk : k < n) (hl : rows.length ≤ 4) : bltD .lenset [.list (rows.map (cl k))] = some (.int (dcnt rows k)) := by
  simp only [bltD, lensetB]
  rw [okeys_eq (cl_vl h hk)]
  have : (rows.map (cl k)).length ≤ 4000 := by rw [List.length_map]; omega
  simp [dcnt]
  omega
theorem colsOf_t : colsOf true = [Str.ofString "k", Str.ofString "x", Str.ofString "s"] := rfl
theorem colsOf_u : colsOf false = [Str.ofString "k", Str.ofString "t", Str.ofString "y", Str.ofString "z"] := rfl
def tcnD (rows : List D) (cs : List Str) : D := .dict ((List.range cs.length).map fun k => (.str (cs.getD k ""), .int (dcnt rows k)))
theorem cntD_eq (rows : Bool → List D) (b : Bool) : cntD (tcn rows) b = .tuple [.int ((rows b).length : Int), .dict ((colsOf b).map fun c => (.str c, .int (dcnt (rows b) ((colsOf b).idxOf c))))] := rfl
theorem idx_t : (colsOf true).map (fun c => (colsOf true).idxOf c) = [0, 1, 2] := by decide +kernel
theorem idx_u : (colsOf false).map (fun c => (colsOf false).idxOf c) = [0, 1, 2, 3] := by decide +kernel
theorem cntD_t (rows : Bool → List D) : cntD (tcn rows) true = .tuple [.int ((rows true).length : Int), .dict [(.str "k", .int (dcnt (rows true) 0)), (.str "x", .int (dcnt (rows true) 1)), (.str "s", .int (dcnt (rows true) 2))]] := by
  rw [cntD_eq]
  have := idx_t
  simp only [colsOf_t, List.map_cons, List.map_nil, List.cons.injEq, and_true] at this ⊢
  rw [this.1, this.2.1, this.2.2]
theorem cntD_u (rows : Bool → List D) : cntD (tcn rows) false = .tuple [.int ((rows false).length : Int), .dict [(.str "k", .int (dcnt (rows false) 0)), (.str "t", .int (dcnt (rows false) 1)), (.str "y", .int (dcnt (rows false) 2)), (.str "z", .int (dcnt (rows false) 3))]] := by
  rw [cntD_eq]
  have := idx_u
  simp only [colsOf_u, List.map_cons, List.map_nil, List.cons.injEq, and_true] at this ⊢
  rw [this.1, this.2.1, this.2.2.1, this.2.2.2]
theorem run_cof {rows : Bool → List D} (h : TblOk rows) (s : W) : R 1 "counts_of" [tablesD rows] s (countsD (tcn rows), s) := by
  refine Run.of T_cof rfl rfl fun Φ l => ?_
  have st : Tb.f_counts_of.start [tablesD rows] = [.fz (tablesD rows), .no, .no, .no, .no, .no, .no, .no, .no] := rfl
  have hso : bltD .sorted [tablesD rows] = some (.list [.str "t", .str "u"]) := by
    simp [bltD, sortedB, tablesD, strsOf, srt_tu]
  have ht : ixD (tablesD rows) (.str (Str.ofString "t")) = some (tableD rows true) := by simp [tablesD]
  have hu : ixD (tablesD rows) (.str (Str.ofString "u")) = some (tableD rows false) := by simp [tablesD]
  have lt := (h true).1
  have lu := (h false).1
  have ot := (h true).2
  have ou := (h false).2
  have c0 : ∀ {x0 x1 x2 x3 x4 x5 x7 x8 : Cell} (b : Bool) (k : Nat) (hk : k < (colsOf b).length), lcLoop (lcT Φ Tb.G [x0, x1, x2, x3, x4, x5, .fz (.int k), x7, x8] [8] (.ix (.v 8) (.v 6)) (.nm 8) .no) (rows b) s = some ((rows b).map (cl k), s) := fun b k hk => col_lc (h b).2 hk (fun _ => rfl) (fun _ => rfl) s
  have e3 : enmD 0 [.str (Str.ofString "k"), .str (Str.ofString "x"), .str (Str.ofString "s")] = [.tuple [.int 0, .str "k"], .tuple [.int 1, .str "x"], .tuple [.int 2, .str "s"]] := rfl
  have e4 : enmD 0 [.str (Str.ofString "k"), .str (Str.ofString "t"), .str (Str.ofString "y"), .str (Str.ofString "z")] = [.tuple [.int 0, .str "k"], .tuple [.int 1, .str "t"], .tuple [.int 2, .str "y"], .tuple [.int 3, .str "z"]] := rfl
  have n0 : ∀ b k, k < (colsOf b).length → bltD .lenset [.list ((rows b).map (cl k))] = some (.int (dcnt (rows b) k)) := fun b k hk => lenset_cl (h b).2 hk (h b).1
  have ln1 : lineOk (0 + 1) = true := line_big (by omega)
  have ln2 : lineOk (1 + 1) = true := line_big (by omega)
  have hlen : ∀ xs : List D, bltD .len [.tuple xs] = some (.int (xs.length : Int)) := fun _ => rfl
  have hdic : ∀ xs : List D, bltD .dict [.list xs] = (pairs xs).map fun ps => .dict (dMerge [] ps) := fun _ => rfl
  rw [st]
  unfold Tb.f_counts_of Tb.b_counts_of
  rw [countsD, cntD_t, cntD_u]
  have c3 : (colsOf true).length = 3 := rfl
  have c4 : (colsOf false).length = 4 := rfl
  have ct0 : ∀ {x0 x1 x2 x3 x4 x5 x7 x8 : Cell}, lcLoop (lcT Φ Tb.G [x0, x1, x2, x3, x4, x5, .fz (.int 0), x7, x8] [8] (.ix (.v 8) (.v 6)) (.nm 8) .no) (rows true) s = some ((rows true).map (cl 0), s) := c0 true 0 (by decide)
  have ct1 : ∀ {x0 x1 x2 x3 x4 x5 x7 x8 : Cell}, lcLoop (lcT Φ Tb.G [x0, x1, x2, x3, x4, x5, .fz (.int 1), x7, x8] [8] (.ix (.v 8) (.v 6)) (.nm 8) .no) (rows true) s = some ((rows true).map (cl 1), s) := c0 true 1 (by decide)
  have ct2 : ∀ {x0 x1 x2 x3 x4 x5 x7 x8 : Cell}, lcLoop (lcT Φ Tb.G [x0, x1, x2, x3, x4, x5, .fz (.int 2), x7, x8] [8] (.ix (.v 8) (.v 6)) (.nm 8) .no) (rows true) s = some ((rows true).map (cl 2), s) := c0 true 2 (by decide)
  have cu0 : ∀ {x0 x1 x2 x3 x4 x5 x7 x8 : Cell}, lcLoop (lcT Φ Tb.G [x0, x1, x2, x3, x4, x5, .fz (.int 0), x7, x8] [8] (.ix (.v 8) (.v 6)) (.nm 8) .no) (rows false) s = some ((rows false).map (cl 0), s) := c0 false 0 (by decide)
  have cu1 : ∀ {x0 x1 x2 x3 x4 x5 x7 x8 : Cell}, lcLoop (lcT Φ Tb.G [x0, x1, x2, x3, x4, x5, .fz (.int 1), x7, x8] [8] (.ix (.v 8) (.v 6)) (.nm 8) .no) (rows false) s = some ((rows false).map (cl 1), s) := c0 false 1 (by decide)
  have cu2 : ∀ {x0 x1 x2 x3 x4 x5 x7 x8 : Cell}, lcLoop (lcT Φ Tb.G [x0, x1, x2, x3, x4, x5, .fz (.int 2), x7, x8] [8] (.ix (.v 8) (.v 6)) (.nm 8) .no) (rows false) s = some ((rows false).map (cl 2), s) := c0 false 2 (by decide)
  have cu3 : ∀ {x0 x1 x2 x3 x4 x5 x7 x8 : Cell}, lcLoop (lcT Φ Tb.G [x0, x1, x2, x3, x4, x5, .fz (.int 3), x7, x8] [8] (.ix (.v 8) (.v 6)) (.nm 8) .no) (rows false) s = some ((rows false).map (cl 3), s) := c0 false 3 (by decide)
  have nt0 := n0 true 0 (by decide)
  have nt1 := n0 true 1 (by decide)
  have nt2 := n0 true 2 (by decide)
  have nu0 := n0 false 0 (by decide)
  have nu1 := n0 false 1 (by decide)
  have nu2 := n0 false 2 (by decide)
  have nu3 := n0 false 3 (by decide)
  simp [hso, seqOf, forLoop, forT, ht, hu, tableD, colsOf_t, colsOf_u, e3, e4]
  simp [lcLoop, lcT, wipeE, ct0, ct1, ct2, cu0, cu1, cu2, cu3, nt0, nt1, nt2, nu0, nu1, nu2, nu3, seqOf]
  simp [hlen, hdic, pairs, kOf, dMerge, dPut, isK, kD, ln1, ln2]
  simp [hu, tableD, colsOf_u, seqOf, e4]
  simp [lcLoop, lcT, wipeE, ct0, ct1, ct2, cu0, cu1, cu2, cu3, nt0, nt1, nt2, nu0, nu1, nu2, nu3, seqOf]
  simp [hlen, hdic, pairs, kOf, dMerge, dPut, isK, kD, ln1, ln2, frz]
end Pure

set_option Elab.async false
set_option linter.all false
set_option maxRecDepth 100000
set_option maxHeartbeats 4000000
set_option autoImplicit false
set_option exponentiation.threshold 20000
/-! K26: _law_is_counts; the counts that are drawn. -/
namespace Pure
open PySem PL
theorem eq_nn : cmpD .eq (.list []) (.list []) = some true := by simp [cmpD, eqOk, PyData.eqv, PyData.eqvAll, PyData.canLay0, PyData.canLayAll0, PyData.depth, PyData.depthAll]
theorem ne_nn : cmpD .ne (.list []) (.list []) = some false := by rw [cmp_ne, eq_nn]; rfl
theorem run_samed (m : Cn) (b : Bool) (s : W) : R 2 "_law_same_dict" [.dict ((colsOf b).map fun c => (.str c, .int (m.c b c))), .dict ((colsOf b).map fun c => (.str c, .int (m.c b c)))] s (.bool true, s) := by
  refine Run.of T_samed rfl rfl fun Φ l => ?_
  have st : ∀ x y, Tb.f__law_same_dict.start [x, y] = [.fz x, .fz y, .no] := fun _ _ => rfl
  have h1 : ∀ c, Φ "_law_same" [.int (m.c b c), .int (m.c b c)] s = some (.bool true, s) := fun c => (run_same_i (m.c b c) s).use l (Nat.le_refl _)
  rw [st]
  unfold Tb.f__law_same_dict Tb.b__law_same_dict
  cases b <;> simp [colsOf_t, colsOf_u, bltD, isiD, lcLoop, lcT, wipeE, inD, kOf, h1, ne_nn, eq_nn]
theorem run_isc (m : Cn) (s : W) : R 3 "_law_is_counts" [countsD m, countsD m] s (.bool true, s) := by
  refine Run.of T_isc rfl rfl fun Φ l => ?_
  have st : ∀ x y, Tb.f__law_is_counts.start [x, y] = [.fz x, .fz y, .no] := fun _ _ => rfl
  have h1 : ∀ b, Φ "_law_same" [.int (m.n b), .int (m.n b)] s = some (.bool true, s) := fun b => (run_same_i (m.n b) s).use l (by decide)
  have h2 : ∀ b, Φ "_law_same_dict" [.dict ((colsOf b).map fun c => (.str c, .int (m.c b c))), .dict ((colsOf b).map fun c => (.str c, .int (m.c b c)))] s = some (.bool true, s) := fun b => (run_samed m b s).use l (by decide)
  have hso : bltD .sorted [countsD m] = some (.list [.str "t", .str "u"]) := by simp [bltD, sortedB, countsD, strsOf, srt_tu]
  have hne : cmpD .ne (.list [.str (Str.ofString "t"), .str (Str.ofString "u")]) (.list [.str (Str.ofString "t"), .str (Str.ofString "u")]) = some false := by
    have lt := lay_l (s := "t") (by decide)
    have lu := lay_l (s := "u") (by decide)
    simp [cmpD, eqOk, PyData.eqv, PyData.eqvAll, PyData.canLay0, PyData.canLayAll0, PyData.depth, PyData.depthAll, scalD]
    simp only [PyData.canLay0] at lt lu
    exact ⟨lt, lu⟩
  have ht : ixD (countsD m) (.str (Str.ofString "t")) = some (cntD m true) := by simp [countsD]
  have hu : ixD (countsD m) (.str (Str.ofString "u")) = some (cntD m false) := by simp [countsD]
  have hk : fzC (some (.fz (countsD m))) = some (.dict [(.str "t", cntD m true), (.str "u", cntD m false)]) := rfl
  have h1t := h1 true
  have h1u := h1 false
  have h2t := h2 true
  have h2u := h2 false
  have i1 : ∀ xs, bltD (.isi .tuple) [.tuple xs] = some (.bool true) := fun _ => rfl
  have i2 : bltD (.isi .dict) [countsD m] = some (.bool true) := rfl
  have i3 : ∀ a b : D, bltD .len [.tuple [a, b]] = some (.int 2) := fun _ _ => rfl
  rw [st]
  unfold Tb.f__law_is_counts Tb.b__law_is_counts
  simp [i2, hso, hne, -fzC_fz]
  simp [hk, forLoop, forT, -fzC_fz]
  simp [ht, hu, cntD, i1, i3, h1t, h1u, h2t, h2u, -List.map_cons]
/-- a drawn dict of columns -/
def dc3 (a1 a2 a3 : Int) : D := .dict [(.str "k", .int a1), (.str "x", .int a2), (.str "s", .int a3)]
def dc4 (a1 a2 a3 a4 : Int) : D := .dict [(.str "k", .int a1), (.str "t", .int a2), (.str "y", .int a3), (.str "z", .int a4)]
def drawnM (n1 n2 a1 a2 a3 b1 b2 b3 b4 : Int) : Cn := ⟨fun b => if b then n1 else n2, fun b s => if b then (if s = Str.ofString "k" then a1 else if s = Str.ofString "x" then a2 else a3) else (if s = Str.ofString "k" then b1 else if s = Str.ofString "t" then b2 else if s = Str.ofString "y" then b3 else b4)⟩
theorem drawn_eq (n1 n2 a1 a2 a3 b1 b2 b3 b4 : Int) : countsD (drawnM n1 n2 a1 a2 a3 b1 b2 b3 b4) = .dict [(.str "t", .tuple [.int n1, dc3 a1 a2 a3]), (.str "u", .tuple [.int n2, dc4 b1 b2 b3 b4])] := by
  simp [countsD, cntD, drawnM, colsOf_t, colsOf_u, dc3, dc4]
theorem drawn_ok {n1 n2 a1 a2 a3 b1 b2 b3 b4 : Int} (hn1 : 0 ≤ n1 ∧ n1 < 50) (hn2 : 0 ≤ n2 ∧ n2 < 50) (h1 : a1 < 9) (h2 : a2 < 9) (h3 : a3 < 9) (g1 : b1 < 9) (g2 : b2 < 9) (g3 : b3 < 9) (g4 : b4 < 9) : CnOk (drawnM n1 n2 a1 a2 a3 b1 b2 b3 b4) := by
  constructor
  · intro b
    show 0 ≤ (if b then n1 else n2) ∧ (if b then n1 else n2) < 64
    split <;> omega
  · intro b s
    show (if b then (if s = Str.ofString "k" then a1 else if s = Str.ofString "x" then a2 else a3) else (if s = Str.ofString "k" then b1 else if s = Str.ofString "t" then b2 else if s = Str.ofString "y" then b3 else b4)) < 64
    split
    · split
      · omega
      · split <;> omega
    · split
      · omega
      · split
        · omega
        · split <;> omega
end Pure

set_option Elab.async false
set_option linter.all false
set_option maxRecDepth 100000
set_option maxHeartbeats 4000000
set_option autoImplicit false
set_option exponentiation.threshold 20000
/-! K27: the pieces of the law's turn. -/
namespace Pure
open PySem PL
def trueB : RSs := (.cons (.asg (.tup [14, 15]) (.ix (.v 4) (.v 6)))
  (.cons (.put 5 (.v 6) (.tup (.cons (.blt .len (.cons (.v 15) .nil)) (.cons (.blt .dict (.cons (.lc [16] (.tup (.cons (.ix (.v 14) (.v 16)) (.cons (.blt .lenset (.cons (.lc [18] (.ix (.v 18) (.v 16)) (.nm 18) (.seq (.v 15)) .no) .nil)) .nil))) (.nm 16) (.rng1 (.blt .len (.cons (.v 14) .nil))) .no) .nil)) .nil))))
  .nil))
theorem true_loop {Φ : Fn} {rows : Bool → List D} (h : TblOk rows) {c0 c1 c2 c3 c6 c7 c8 c9 c10 c11 c12 c13 c14 c15 c16 c17 c18 : Cell} (s : W) :
    ∃ d6 d14 d15, forLoop (forT Φ Tb.G gf (.nm 6) trueB) [.str "t", .str "u"] [c0, c1, c2, c3, .fz (tablesD rows), .own (.dict []), c6, c7, c8, c9, c10, c11, c12, c13, c14, c15, c16, c17, c18] s =
      some (.nx [c0, c1, c2, c3, .fz (tablesD rows), .own (countsD (tcn rows)), d6, c7, c8, c9, c10, c11, c12, c13, d14, d15, c16, c17, c18], s) := by
  refine ⟨.fz (.str "u"), .fz (.tuple [.str "k", .str "t", .str "y", .str "z"]), .fz (.tuple (rows false)), ?_⟩
  have ht : ixD (tablesD rows) (.str (Str.ofString "t")) = some (tableD rows true) := by simp [tablesD]
  have hu : ixD (tablesD rows) (.str (Str.ofString "u")) = some (tableD rows false) := by simp [tablesD]
  have lt := (h true).1
  have lu := (h false).1
  have k0 : ∀ {x0 x1 x2 x3 x4 x5 x6 x7 x8 x9 x10 x11 x12 x13 x14 x15 x17 x18 : Cell} (b : Bool) (k : Nat) (hk : k < (colsOf b).length), lcLoop (lcT Φ Tb.G [x0, x1, x2, x3, x4, x5, x6, x7, x8, x9, x10, x11, x12, x13, x14, x15, .fz (.int k), x17, x18] [18] (.ix (.v 18) (.v 16)) (.nm 18) .no) (rows b) s = some ((rows b).map (cl k), s) := fun b k hk => col_lc (h b).2 hk (fun _ => rfl) (fun _ => rfl) s
  have n0 : ∀ b k, k < (colsOf b).length → bltD .lenset [.list ((rows b).map (cl k))] = some (.int (dcnt (rows b) k)) := fun b k hk => lenset_cl (h b).2 hk (h b).1
  have ln1 : lineOk (0 + 1) = true := line_big (by omega)
  have ln2 : lineOk (1 + 1) = true := line_big (by omega)
  have hlen : ∀ xs : List D, bltD .len [.tuple xs] = some (.int (xs.length : Int)) := fun _ => rfl
  have hdic : ∀ xs : List D, bltD .dict [.list xs] = (pairs xs).map fun ps => .dict (dMerge [] ps) := fun _ => rfl
  have ct0 : ∀ {x0 x1 x2 x3 x4 x5 x6 x7 x8 x9 x10 x11 x12 x13 x14 x15 x17 x18 : Cell}, lcLoop (lcT Φ Tb.G [x0, x1, x2, x3, x4, x5, x6, x7, x8, x9, x10, x11, x12, x13, x14, x15, .fz (.int 0), x17, x18] [18] (.ix (.v 18) (.v 16)) (.nm 18) .no) (rows true) s = some ((rows true).map (cl 0), s) := k0 true 0 (by decide)
  have ct1 : ∀ {x0 x1 x2 x3 x4 x5 x6 x7 x8 x9 x10 x11 x12 x13 x14 x15 x17 x18 : Cell}, lcLoop (lcT Φ Tb.G [x0, x1, x2, x3, x4, x5, x6, x7, x8, x9, x10, x11, x12, x13, x14, x15, .fz (.int 1), x17, x18] [18] (.ix (.v 18) (.v 16)) (.nm 18) .no) (rows true) s = some ((rows true).map (cl 1), s) := k0 true 1 (by decide)
  have ct2 : ∀ {x0 x1 x2 x3 x4 x5 x6 x7 x8 x9 x10 x11 x12 x13 x14 x15 x17 x18 : Cell}, lcLoop (lcT Φ Tb.G [x0, x1, x2, x3, x4, x5, x6, x7, x8, x9, x10, x11, x12, x13, x14, x15, .fz (.int 2), x17, x18] [18] (.ix (.v 18) (.v 16)) (.nm 18) .no) (rows true) s = some ((rows true).map (cl 2), s) := k0 true 2 (by decide)
  have cu0 : ∀ {x0 x1 x2 x3 x4 x5 x6 x7 x8 x9 x10 x11 x12 x13 x14 x15 x17 x18 : Cell}, lcLoop (lcT Φ Tb.G [x0, x1, x2, x3, x4, x5, x6, x7, x8, x9, x10, x11, x12, x13, x14, x15, .fz (.int 0), x17, x18] [18] (.ix (.v 18) (.v 16)) (.nm 18) .no) (rows false) s = some ((rows false).map (cl 0), s) := k0 false 0 (by decide)
  have cu1 : ∀ {x0 x1 x2 x3 x4 x5 x6 x7 x8 x9 x10 x11 x12 x13 x14 x15 x17 x18 : Cell}, lcLoop (lcT Φ Tb.G [x0, x1, x2, x3, x4, x5, x6, x7, x8, x9, x10, x11, x12, x13, x14, x15, .fz (.int 1), x17, x18] [18] (.ix (.v 18) (.v 16)) (.nm 18) .no) (rows false) s = some ((rows false).map (cl 1), s) := k0 false 1 (by decide)
  have cu2 : ∀ {x0 x1 x2 x3 x4 x5 x6 x7 x8 x9 x10 x11 x12 x13 x14 x15 x17 x18 : Cell}, lcLoop (lcT Φ Tb.G [x0, x1, x2, x3, x4, x5, x6, x7, x8, x9, x10, x11, x12, x13, x14, x15, .fz (.int 2), x17, x18] [18] (.ix (.v 18) (.v 16)) (.nm 18) .no) (rows false) s = some ((rows false).map (cl 2), s) := k0 false 2 (by decide)
  have cu3 : ∀ {x0 x1 x2 x3 x4 x5 x6 x7 x8 x9 x10 x11 x12 x13 x14 x15 x17 x18 : Cell}, lcLoop (lcT Φ Tb.G [x0, x1, x2, x3, x4, x5, x6, x7, x8, x9, x10, x11, x12, x13, x14, x15, .fz (.int 3), x17, x18] [18] (.ix (.v 18) (.v 16)) (.nm 18) .no) (rows false) s = some ((rows false).map (cl 3), s) := k0 false 3 (by decide)
  have nt0 := n0 true 0 (by decide)
  have nt1 := n0 true 1 (by decide)
  have nt2 := n0 true 2 (by decide)
  have nu0 := n0 false 0 (by decide)
  have nu1 := n0 false 1 (by decide)
  have nu2 := n0 false 2 (by decide)
  have nu3 := n0 false 3 (by decide)
  have r3 : rngD 0 3 = [.int 0, .int 1, .int 2] := rfl
  have r4 : rngD 0 4 = [.int 0, .int 1, .int 2, .int 3] := rfl
  rw [countsD, cntD_t, cntD_u]
  unfold trueB
  simp [seqOf, forLoop, forT, ht, tableD, colsOf_t, hlen, r3]
  simp [lcLoop, lcT, wipeE, ct0, ct1, ct2, nt0, nt1, nt2, seqOf]
  simp [hlen, hdic, pairs, kOf, dMerge, dPut, isK, kD, ln1, ln2]
  simp [seqOf, forLoop, forT, hu, tableD, colsOf_u, hlen, r4]
  simp [lcLoop, lcT, wipeE, cu0, cu1, cu2, cu3, nu0, nu1, nu2, nu3, seqOf]
  simp [hlen, hdic, pairs, kOf, dMerge, dPut, isK, kD, ln1, ln2]
end Pure

set_option Elab.async false
set_option linter.all false
set_option maxRecDepth 100000
set_option maxHeartbeats 4000000
set_option autoImplicit false
set_option exponentiation.threshold 20000
/-! K28: drawn counts; looks. -/
namespace Pure
open PySem PL
def drawnE : RE := (.blt .dict (.cons (.lc [6] (.tup (.cons (.v 6) (.cons (.tup (.cons (.wcall "_law_next" 1 (.cons (.int 50) .nil)) (.cons (.blt .dict (.cons (.lc [17] (.tup (.cons (.v 17) (.cons (.wcall "_law_next" 1 (.cons (.int 9) .nil)) .nil))) (.nm 17) (.seq (.ix (.ix (.v 4) (.v 6)) (.int 0))) .no) .nil)) .nil))) .nil))) (.nm 6) (.keys 4) .no) .nil))
theorem drawn_ev {Φ : Fn} (l : L 200 Φ) {rows : Bool → List D} {c0 c2 c3 c5 c6 c7 c8 c9 c10 c11 c12 c13 c14 c15 c16 c17 c18 : Cell} (w : W) (hw : St 0 w) :
    ∃ m w', ev Φ Tb.G [c0, .st, c2, c3, .fz (tablesD rows), c5, c6, c7, c8, c9, c10, c11, c12, c13, c14, c15, c16, c17, c18] drawnE w = some (countsD m, w') ∧ CnOk m ∧ St 0 w' := by
  have ht : ixD (tablesD rows) (.str (Str.ofString "t")) = some (tableD rows true) := by simp [tablesD]
  have hu : ixD (tablesD rows) (.str (Str.ofString "u")) = some (tableD rows false) := by simp [tablesD]
  have hk : fzC (some (.fz (tablesD rows))) = some (.dict [(.str "t", tableD rows true), (.str "u", tableD rows false)]) := rfl
  obtain ⟨_, w1, h1, ⟨n1, rfl, g1⟩, s1⟩ := (gives_next 50 (by decide) 0).use l (by decide) hw
  obtain ⟨_, w2, h2, ⟨a1, rfl, g2⟩, s2⟩ := (gives_next 9 (by decide) 0).use l (by decide) s1
  obtain ⟨_, w3, h3, ⟨a2, rfl, g3⟩, s3⟩ := (gives_next 9 (by decide) 0).use l (by decide) s2
  obtain ⟨_, w4, h4, ⟨a3, rfl, g4⟩, s4⟩ := (gives_next 9 (by decide) 0).use l (by decide) s3
  obtain ⟨_, w5, h5, ⟨n2, rfl, g5⟩, s5⟩ := (gives_next 50 (by decide) 0).use l (by decide) s4
  obtain ⟨_, w6, h6, ⟨b1, rfl, g6⟩, s6⟩ := (gives_next 9 (by decide) 0).use l (by decide) s5
  obtain ⟨_, w7, h7, ⟨b2, rfl, g7⟩, s7⟩ := (gives_next 9 (by decide) 0).use l (by decide) s6
  obtain ⟨_, w8, h8, ⟨b3, rfl, g8⟩, s8⟩ := (gives_next 9 (by decide) 0).use l (by decide) s7
  obtain ⟨_, w9, h9, ⟨b4, rfl, g9⟩, s9⟩ := (gives_next 9 (by decide) 0).use l (by decide) s8
  refine ⟨drawnM n1 n2 a1 a2 a3 b1 b2 b3 b4, w9, ?_, drawn_ok g1 g5 g2.2 g3.2 g4.2 g6.2 g7.2 g8.2 g9.2, s9⟩
  have hdic : ∀ xs : List D, bltD .dict [.list xs] = (pairs xs).map fun ps => .dict (dMerge [] ps) := fun _ => rfl
  rw [drawn_eq]
  unfold drawnE
  simp [hk, lcLoop, -fzC_fz]
  simp [lcT, wipeE, h1, ht, hu, tableD, colsOf_t, colsOf_u, seqOf, lcLoop, h2, h3, h4, h5, h6, h7, h8, h9, hdic, pairs, kOf, dMerge, dPut, isK, kD, dc3, dc4]
def colB : RSs := (.cons (.ite (.not (.call "_law_same" (.cons (.call "unlike_in" (.cons (.v 6) (.cons (.v 10) (.cons (.blt .dict (.cons (.v 2) .nil)) (.cons (.blt .dict (.cons (.v 8) .nil)) .nil))))) (.cons (.call "_law_unlike" (.cons (.v 6) (.cons (.v 10) (.cons (.v 4) (.cons (.v 8) .nil))))) .nil)))) (.cons (.ret (.bl false))
  .nil) .nil)
  .nil)
structure Good (m : Cn) (q : Qn) (k : Kn) : Prop where
  ok : q.Ok
  fit : Fit m q
  dep : q.dep ≤ 6
  cols : q.cols = k.map (·.1)
  lay : ∀ r ∈ k, PyData.canLay0 (.str r.1) = true
  len : k.length ≤ 32
section
variable {m : Cn} {q : Qn} {k : Kn} (g : Good m q k)
include g
theorem Good.guess (s : W) : R 80 "guess" [q.toD, schemasD, countsD m] s (pr (sem m q).1, s) := (run_guess m 6 q g.dep g.ok g.fit s).mono (by have := g.dep; omega)
theorem Good.lguess (rows : Bool → List D) (s : W) : R 80 "_law_guess" [q.toD, tablesD rows, countsD m] s (pr (sem m q).1, s) := ((run_lg 6 q g.dep g.ok g.fit).1 s).mono (by have := g.dep; omega)
theorem Good.lunl (rows : Bool → List D) {c : Str} (hc : c ∈ askC q) (s : W) : R 81 "_law_unlike" [.str c, q.toD, tablesD rows, countsD m] s (.int ((sem m q).2 c), s) := ((run_lg 6 q g.dep g.ok g.fit).2 c hc s).mono (by have := g.dep; omega)
theorem Good.unl {c : Str} (hc : c ∈ askC q) (s : W) : R 81 "unlike_in" [.str c, q.toD, schemasD, countsD m] s (.int ((sem m q).2 c), s) := by
  obtain ⟨ok', _, hd, _⟩ := src_ask c q g.ok hc
  have g' := run_guess m 6 (src c q) (Nat.le_trans hd g.dep) ok' (g.fit.src c)
  exact (unl_of (d := q.dep) g.ok g.fit hc hd (by omega) g' s).mono (by have := g.dep; omega)
theorem Good.share {t : Ts} (ok : t.Ok) (lv : t.lv ≤ 4) (s : W) : R 88 "share" [t.toD, q.toD, schemasD, countsD m] s (pr (sh (askC q) (sem m q).2 t), s) := by
  have d := g.dep
  exact (run_share (N := 81) (cs := askC q) (u := (sem m q).2) (qD := q.toD) (m := m) ⟨fun s => (run_asked q s g.ok).mono (by omega), fun c hc s => g.unl hc s⟩ (nm_ask g.ok) (by omega) g.fit.s.u t s ok lv).mono (by omega)
theorem Good.part (rows : Bool → List D) {t : Ts} (ok : t.Ok) (lv : t.lv ≤ 4) (s : W) : R 88 "_law_part" [t.toD, q.toD, tablesD rows, countsD m] s (pr (sh (askC q) (sem m q).2 t), s) := by
  have d := g.dep
  exact (run_part (N := 81) (q := q) (m := m) (rows := rows) (cs := askC q) (u := (sem m q).2) (fun c hc s => g.lunl rows hc s) (asked_law g.ok (by omega)) (nm_ask g.ok) (by omega) g.fit.s.u t s ok lv).mono (by omega)
theorem col_loop {Φ : Fn} (l : L 200 Φ) (rows : Bool → List D) {c0 c1 c3 c5 c7 c9 c11 c13 c14 c15 c16 c17 c18 : Cell} (s : W) : ∀ (ks : Kn) (c6 c12 : Cell), (∀ r ∈ ks, r ∈ k) →
    ∃ d6 d12, forLoop (forT Φ Tb.G gf (.tup [6, 12]) colB) (ks.map kcD) [c0, c1, .fz schemasD, c3, .fz (tablesD rows), c5, c6, c7, .fz (countsD m), c9, .fz q.toD, c11, c12, c13, c14, c15, c16, c17, c18] s =
      some (.nx [c0, c1, .fz schemasD, c3, .fz (tablesD rows), c5, d6, c7, .fz (countsD m), c9, .fz q.toD, c11, d12, c13, c14, c15, c16, c17, c18], s) := by
  intro ks
  induction ks with
  | nil => intro c6 c12 _; exact ⟨c6, c12, rfl⟩
  | cons r ks ih =>
    intro c6 c12 h
    obtain ⟨d6, d12, e⟩ := ih (.fz (.str r.1)) (.fz (.str r.2)) fun x hx => h x (List.mem_cons_of_mem _ hx)
    refine ⟨d6, d12, ?_⟩
    have hc : r.1 ∈ askC q := cols_ask (by rw [g.cols]; exact List.mem_map_of_mem (h r List.mem_cons_self))
    have h1 := (g.unl hc s).use l (by decide)
    have h2 := (g.lunl rows hc s).use l (by decide)
    have h3 := (run_same_i ((sem m q).2 r.1) s).use l (by decide)
    have sd : bltD .dict [schemasD] = some schemasD := rfl
    have cd : bltD .dict [countsD m] = some (countsD m) := rfl
    rw [List.map_cons]
    unfold forLoop
    have one : forT Φ Tb.G gf (.tup [6, 12]) colB (kcD r) [c0, c1, .fz schemasD, c3, .fz (tablesD rows), c5, c6, c7, .fz (countsD m), c9, .fz q.toD, c11, c12, c13, c14, c15, c16, c17, c18] s = some (.nx [c0, c1, .fz schemasD, c3, .fz (tablesD rows), c5, .fz (.str r.1), c7, .fz (countsD m), c9, .fz q.toD, c11, .fz (.str r.2), c13, c14, c15, c16, c17, c18], s) := by
      simp [forT, colB, kcD, sd, cd, h1, h2, h3]
    rw [one]
    exact e
end
def testB : RSs := (.cons (.asg (.nm 13) (.wcall "_law_test" 1 (.cons (.bin .add (.v 11) (.lst (.cons (.tup (.cons (.str "z.x") (.cons (.str "num") .nil))) .nil))) (.cons (.int 1) .nil))))
  (.cons (.ite (.and (.cmp .ne (.ix (.v 10) (.int 0)) (.str "join")) (.not (.call "_law_same" (.cons (.call "share" (.cons (.v 13) (.cons (.v 10) (.cons (.blt .dict (.cons (.v 2) .nil)) (.cons (.blt .dict (.cons (.v 8) .nil)) .nil))))) (.cons (.call "_law_part" (.cons (.v 13) (.cons (.v 10) (.cons (.v 4) (.cons (.v 8) .nil))))) .nil))))) (.cons (.ret (.bl false))
  .nil) .nil)
  .nil))
theorem tag_of (q : Qn) : ∃ (t : Str) (xs : List D), q.toD = .tuple (.str t :: xs) := by
  cases q <;> exact ⟨_, _, rfl⟩
theorem test_loop {m : Cn} {q : Qn} {k : Kn} (g : Good m q k) {Φ : Fn} (l : L 200 Φ) (rows : Bool → List D) {c0 c3 c5 c6 c7 c9 c12 c13 c14 c15 c16 c17 c18 : Cell} (w : W) (hw : St 0 w) :
    ∃ d9 d13 w', forLoop (forT Φ Tb.G gf (.nm 9) testB) (rngD 0 4) [c0, .st, .fz schemasD, c3, .fz (tablesD rows), c5, c6, c7, .fz (countsD m), c9, .fz q.toD, .fz (knD k), c12, c13, c14, c15, c16, c17, c18] w =
      some (.nx [c0, .st, .fz schemasD, c3, .fz (tablesD rows), c5, c6, c7, .fz (countsD m), d9, .fz q.toD, .fz (knD k), c12, d13, c14, c15, c16, c17, c18], w') ∧ St 0 w' := by
  obtain ⟨ρ', w', e, d9, d13, rfl, s⟩ := for_inv (turn := forT Φ Tb.G gf (.nm 9) testB) (fun _ ρ w' => ∃ d9 d13, ρ = [c0, .st, .fz schemasD, c3, .fz (tablesD rows), c5, c6, c7, .fz (countsD m), d9, .fz q.toD, .fz (knD k), c12, d13, c14, c15, c16, c17, c18] ∧ St 0 w') (rngD 0 4) 0 (by
    rintro i x ρ w hx ⟨d9, d13, rfl, hw⟩
    have zx : PyData.canLay0 (.str (Str.ofString "z.x")) = true := by decide +kernel
    have ko : KnOk 0 (k ++ [(Str.ofString "z.x", Str.ofString "num")]) := by
      constructor
      · intro r hr
        rcases List.mem_append.mp hr with h | h
        · exact g.lay r h
        · rw [List.mem_singleton.mp h]; exact zx
      · have := g.len
        simp; omega
    obtain ⟨_, w1, h1, ⟨t, rfl, tok, tlv, _⟩, s1⟩ := (test0 _ 1 ko).use l (by decide) hw
    refine ⟨[c0, .st, .fz schemasD, c3, .fz (tablesD rows), c5, c6, c7, .fz (countsD m), .fz x, .fz q.toD, .fz (knD k), c12, .fz t.toD, c14, c15, c16, c17, c18], w1, ?_, _, _, rfl, s1⟩
    have h2 := (g.share tok tlv w1).use l (by decide)
    have h3 := (g.part rows tok tlv w1).use l (by decide)
    have h4 := (run_same_p (sh (askC q) (sem m q).2 t) w1).use l (by decide)
    have sd : bltD .dict [schemasD] = some schemasD := rfl
    have cd : bltD .dict [countsD m] = some (countsD m) := rfl
    have ka : binD .add (knD k) (.list [.tuple [.str (Str.ofString "z.x"), .str (Str.ofString "num")]]) = some (knD (k ++ [(Str.ofString "z.x", Str.ofString "num")])) := by
      have := knD_add (x := k) (y := [(Str.ofString "z.x", Str.ofString "num")]) (by have := g.len; simp; omega)
      exact this
    obtain ⟨tg, xs, e⟩ := tag_of q
    have hq : ixD q.toD (.int 0) = some (.str tg) := by rw [e]; simp
    by_cases hj : tg = Str.ofString "join"
    · subst hj
      simp [forT, testB, ka, h1, hq, -binD_addL]
    · simp [forT, testB, ka, h1, hq, hj, sd, cd, h2, h3, h4, -binD_addL]) _ w ⟨c9, c13, rfl, hw⟩
  exact ⟨d9, d13, w', e, s⟩
end Pure

set_option Elab.async false
set_option linter.all false
set_option maxRecDepth 100000
set_option maxHeartbeats 4000000
set_option autoImplicit false
set_option exponentiation.threshold 20000
/-! K29: the law. -/
namespace Pure
open PySem PL
theorem T_law : Tb.T "law" = some Tb.f_law := by kernel_rfl
def turnB : RSs := (.cons (.asg (.nm 4) (.wcall "_law_tables" 1 .nil))
  (.cons (.newd 5)
  (.cons (.for_ (.nm 6) (.keys 4) trueB)
  (.cons (.asg (.nm 7) drawnE)
  (.cons (.frz 5)
  (.cons (.asg (.nm 8) (.wcall "_law_pick" 1 (.cons (.lst (.cons (.v 5) (.cons (.v 7) .nil))) .nil)))
  (.cons (.frz 5)
  (.cons (.ite (.not (.call "_law_is_counts" (.cons (.call "counts_of" (.cons (.blt .dict (.cons (.v 4) .nil)) .nil)) (.cons (.v 5) .nil)))) (.cons (.ret (.bl false))
  .nil) .nil)
  (.cons (.asg (.tup [10, 11]) (.wcall "_law_ask" 1 (.cons (.int 3) (.cons (.lst .nil) .nil))))
  (.cons (.ite (.not (.call "_law_same" (.cons (.call "guess" (.cons (.v 10) (.cons (.blt .dict (.cons (.v 2) .nil)) (.cons (.blt .dict (.cons (.v 8) .nil)) .nil)))) (.cons (.call "_law_guess" (.cons (.v 10) (.cons (.v 4) (.cons (.v 8) .nil)))) .nil)))) (.cons (.ret (.bl false))
  .nil) .nil)
  (.cons (.for_ (.tup [6, 12]) (.seq (.v 11)) colB)
  (.cons (.for_ (.nm 9) (.rng1 (.int 4)) testB)
  .nil))))))))))))
theorem turn_ok {Φ : Fn} (l : L 200 Φ) {x : D} {c0 c3 c4 c5 c6 c7 c8 c9 c10 c11 c12 c13 c14 c15 c16 c17 c18 : Cell} (w : W) (hw : St 0 w) :
    ∃ d3 d4 d5 d6 d7 d8 d9 d10 d11 d12 d13 d14 d15 d16 d17 d18 w', forT Φ Tb.G gf (.nm 3) turnB x [c0, .st, .fz schemasD, c3, c4, c5, c6, c7, c8, c9, c10, c11, c12, c13, c14, c15, c16, c17, c18] w =
      some (.nx [c0, .st, .fz schemasD, d3, d4, d5, d6, d7, d8, d9, d10, d11, d12, d13, d14, d15, d16, d17, d18], w') ∧ St 0 w' := by
  obtain ⟨_, w1, h1, ⟨rows, rfl, tok⟩, s1⟩ := (gives_tables 0).use l (by decide) hw
  obtain ⟨t6, t14, t15, ht⟩ := true_loop (Φ := Φ) tok (c0 := c0) (c1 := .st) (c2 := .fz schemasD) (c3 := .fz x) (c6 := c6) (c7 := c7) (c8 := c8) (c9 := c9) (c10 := c10) (c11 := c11) (c12 := c12) (c13 := c13) (c14 := c14) (c15 := c15) (c16 := c16) (c17 := c17) (c18 := c18) w1
  obtain ⟨md, w2, h2, mdok, s2⟩ := drawn_ev l (rows := rows) (c0 := c0) (c2 := .fz schemasD) (c3 := .fz x) (c5 := .own (countsD (tcn rows))) (c6 := t6) (c7 := c7) (c8 := c8) (c9 := c9) (c10 := c10) (c11 := c11) (c12 := c12) (c13 := c13) (c14 := t14) (c15 := t15) (c16 := c16) (c17 := c17) (c18 := c18) w1 s1
  obtain ⟨_, w3, h3, hm, s3⟩ := (gives_pick [countsD (tcn rows), countsD md] (by simp) 0).use l (by decide) s2
  obtain ⟨m, rfl, mok⟩ : ∃ m, ‹D› = countsD m ∧ CnOk m := by
    simp only [List.mem_cons, List.not_mem_nil, or_false] at hm
    rcases hm with rfl | rfl
    · exact ⟨_, rfl, tcn_ok tok⟩
    · exact ⟨_, rfl, mdok⟩
  have h4 := (run_cof tok w3).use l (by decide)
  have h5 := (run_isc (tcn rows) w3).use l (by decide)
  obtain ⟨_, w4, h6, ⟨q, k, A, rfl, hq⟩, s4⟩ := (ask3 [] (by decide) (by decide)).use l (by decide) s3
  have g : Good m q k := ⟨hq.ok, fit_of mok q hq.slim hq.dd, hq.dep, hq.cols, hq.lay, hq.kl⟩
  have h7 := (g.guess w4).use l (by decide)
  have h8 := (g.lguess rows w4).use l (by decide)
  have h9 := (run_same_p (sem m q).1 w4).use l (by decide)
  obtain ⟨e6, e12, hc⟩ := col_loop g l rows (c0 := c0) (c1 := .st) (c3 := .fz x) (c5 := .fz (countsD (tcn rows))) (c7 := .fz (countsD md)) (c9 := c9) (c11 := .fz (knD k)) (c13 := c13) (c14 := t14) (c15 := t15) (c16 := c16) (c17 := c17) (c18 := c18) w4 k t6 c12 (fun _ h => h)
  obtain ⟨e9, e13, w5, ht5, s5⟩ := test_loop g l rows (c0 := c0) (c3 := .fz x) (c5 := .fz (countsD (tcn rows))) (c6 := e6) (c7 := .fz (countsD md)) (c9 := c9) (c12 := e12) (c13 := c13) (c14 := t14) (c15 := t15) (c16 := c16) (c17 := c17) (c18 := c18) w4 s4
  have kt : fzC (some (.fz (tablesD rows))) = some (.dict [(.str "t", tableD rows true), (.str "u", tableD rows false)]) := rfl
  have sk : seqOf (knD k) = some (k.map kcD) := rfl
  have sd : bltD .dict [schemasD] = some schemasD := rfl
  have cd : bltD .dict [countsD m] = some (countsD m) := rfl
  have td : bltD .dict [tablesD rows] = some (tablesD rows) := rfl
  refine ⟨.fz x, .fz (tablesD rows), .fz (countsD (tcn rows)), e6, .fz (countsD md), .fz (countsD m), e9, .fz q.toD, .fz (knD k), e12, e13, t14, t15, c16, c17, c18, w5, ?_, s5⟩
  · unfold turnB
    have m3 : ((3 : Nat) : Int) = 3 := rfl
    rw [m3] at h6
    simp only [List.map_nil] at h6
    simp [forT, h1, kt, ht, h2, frz, h3, h4, h5, h6, h7, h8, h9, hc, ht5, sk, sd, cd, td, -fzC_fz]
    simp [h2, frz, h3, h4, h5, h6, h7, h8, h9, hc, ht5, sk, sd, cd, td]
theorem law_pure (ns : List Int) (h : ns.length ≤ 63) : ∃ s', interp Tb.T Tb.G 100000 201 "law" [PyData.list (ns.map PyData.int)] none = some (PyData.bool true, s') := by
  obtain ⟨dr, hd⟩ := run_draws ns h none
  have l : L 200 (interp Tb.T Tb.G gf 200) := ⟨200, Nat.le_refl _, rfl⟩
  obtain ⟨Φ, hΦ⟩ : ∃ Φ, Φ = interp Tb.T Tb.G gf 200 := ⟨_, rfl⟩
  rw [← hΦ] at l
  have h1 := hd.use l (by decide)
  have s0 : St 0 (wd dr 0 none) := ⟨dr, 0, none, rfl, rfl⟩
  have h2 := (run_lsch (wd dr 0 none)).use l (by decide)
  obtain ⟨ρ', w', e, ⟨d3, d4, d5, d6, d7, d8, d9, d10, d11, d12, d13, d14, d15, d16, d17, d18, rfl⟩, s⟩ := for_inv (turn := forT Φ Tb.G gf (.nm 3) turnB) (fun _ ρ w' => (∃ d3 d4 d5 d6 d7 d8 d9 d10 d11 d12 d13 d14 d15 d16 d17 d18, ρ = [.fz (PyData.list (ns.map PyData.int)), .st, .fz schemasD, d3, d4, d5, d6, d7, d8, d9, d10, d11, d12, d13, d14, d15, d16, d17, d18]) ∧ St 0 w') (rngD 0 8) 0 (by
    rintro i x ρ w hx ⟨⟨d3, d4, d5, d6, d7, d8, d9, d10, d11, d12, d13, d14, d15, d16, d17, d18, rfl⟩, hw⟩
    obtain ⟨d3, d4, d5, d6, d7, d8, d9, d10, d11, d12, d13, d14, d15, d16, d17, d18, w', e, s⟩ := turn_ok l (x := x) w hw
    exact ⟨_, w', e, ⟨_, _, _, _, _, _, _, _, _, _, _, _, _, _, _, _, rfl⟩, s⟩) [.fz (PyData.list (ns.map PyData.int)), .st, .fz schemasD, .no, .no, .no, .no, .no, .no, .no, .no, .no, .no, .no, .no, .no, .no, .no, .no] (wd dr 0 none) ⟨⟨_, _, _, _, _, _, _, _, _, _, _, _, _, _, _, _, rfl⟩, s0⟩
  refine ⟨w', ?_⟩
  have st : Tb.f_law.start [PyData.list (ns.map PyData.int)] = [.fz (PyData.list (ns.map PyData.int)), .no, .no, .no, .no, .no, .no, .no, .no, .no, .no, .no, .no, .no, .no, .no, .no, .no, .no] := rfl
  have mg : dMerge [] (([Str.ofString "draws", Str.ofString "at"].map Sum.inr).zip [PyData.list (dr.map .int), .int 0]) = [(.str "draws", PyData.list (dr.map .int)), (.str "at", .int 0)] := rfl
  have w0 : (some [(.str "draws", PyData.list (dr.map .int)), (.str "at", .int 0)] : W) = wd dr 0 none := rfl
  show interp Tb.T Tb.G gf (200 + 1) "law" [PyData.list (ns.map PyData.int)] none = _
  unfold interp
  rw [T_law]
  have np : ([PyData.list (ns.map PyData.int)] : List D).length = Tb.f_law.np := rfl
  simp only [np, decide_true, Bool.true_and]
  rw [← hΦ, st]
  have hb : Tb.f_law.body = (.cons (.wnew 1 ["draws", "at"] (.cons (.call "_law_draws" (.cons (.v 0) (.cons (.int 900) .nil))) (.cons (.int 0) .nil)))
    (.cons (.asg (.nm 2) (.call "_law_schemas" .nil)) (.cons (.for_ (.nm 3) (.rng1 (.int 8)) turnB) (.cons (.ret (.bl true)) .nil)))) := rfl
  have hw : (!Tb.f_law.usesW || (none : W).isSome) = true := rfl
  rw [hb, hw, if_pos rfl]
  simp only [evSs, evSq_7, evs, evq_18]
  simp [h1, dMerge, dPut, isK, kOf, kD, w0, h2, e]
end Pure

namespace Fc
open PySem PySem.Spec PyProof.Rows L2 PL
section
variable {K : PySem.W.Frag} {h : Heap} {mg : Str → Option Value}
theorem f_divisor (X : K.In h) (G : h.Ns mainGlobals mg) (c : He.SaysD Hd.fa Hd.fn K) : PL.Fact K mg Te.e_divisor := by
  obtain ⟨fd, F⟩ := c.def_ 0 (d := Hd.dd "divisor" 1) rfl
  exact ⟨_, fd, F, He.glo_ok X G (c.fact 0 (f := .glo "divisor") rfl), FunD.bindsN (ps := Te.e_divisor.ps) F fun _ _ _ _ _ _ us hl => match us, hl with | [_, _], _ => rfl⟩
theorem f_fraction (X : K.In h) (G : h.Ns mainGlobals mg) (c : He.SaysD Hd.fa Hd.fn K) : PL.Fact K mg Te.e_fraction := by
  obtain ⟨fd, F⟩ := c.def_ 1 (d := Hd.dd "fraction" 2) rfl
  exact ⟨_, fd, F, He.glo_ok X G (c.fact 1 (f := .glo "fraction") rfl), FunD.bindsN (ps := Te.e_fraction.ps) F fun _ _ _ _ _ _ us hl => match us, hl with | [_, _], _ => rfl⟩
theorem f_plus (X : K.In h) (G : h.Ns mainGlobals mg) (c : He.SaysD Hd.fa Hd.fn K) : PL.Fact K mg Te.e_plus := by
  obtain ⟨fd, F⟩ := c.def_ 2 (d := Hd.dd "plus" 3) rfl
  exact ⟨_, fd, F, He.glo_ok X G (c.fact 2 (f := .glo "plus") rfl), FunD.bindsN (ps := Te.e_plus.ps) F fun _ _ _ _ _ _ us hl => match us, hl with | [_, _], _ => rfl⟩
theorem f_times (X : K.In h) (G : h.Ns mainGlobals mg) (c : He.SaysD Hd.fa Hd.fn K) : PL.Fact K mg Te.e_times := by
  obtain ⟨fd, F⟩ := c.def_ 3 (d := Hd.dd "times" 4) rfl
  exact ⟨_, fd, F, He.glo_ok X G (c.fact 3 (f := .glo "times") rfl), FunD.bindsN (ps := Te.e_times.ps) F fun _ _ _ _ _ _ us hl => match us, hl with | [_, _], _ => rfl⟩
theorem f_minus (X : K.In h) (G : h.Ns mainGlobals mg) (c : He.SaysD Hd.fa Hd.fn K) : PL.Fact K mg Te.e_minus := by
  obtain ⟨fd, F⟩ := c.def_ 4 (d := Hd.dd "minus" 5) rfl
  exact ⟨_, fd, F, He.glo_ok X G (c.fact 4 (f := .glo "minus") rfl), FunD.bindsN (ps := Te.e_minus.ps) F fun _ _ _ _ _ _ us hl => match us, hl with | [_, _], _ => rfl⟩
theorem f_is_less (X : K.In h) (G : h.Ns mainGlobals mg) (c : He.SaysD Hd.fa Hd.fn K) : PL.Fact K mg Te.e_is_less := by
  obtain ⟨fd, F⟩ := c.def_ 5 (d := Hd.dd "is_less" 6) rfl
  exact ⟨_, fd, F, He.glo_ok X G (c.fact 5 (f := .glo "is_less") rfl), FunD.bindsN (ps := Te.e_is_less.ps) F fun _ _ _ _ _ _ us hl => match us, hl with | [_, _], _ => rfl⟩
theorem f_parts_of (X : K.In h) (G : h.Ns mainGlobals mg) (c : He.SaysD Hd.fa Hd.fn K) : PL.Fact K mg Te.e_parts_of := by
  obtain ⟨fd, F⟩ := c.def_ 6 (d := Hd.dd "parts_of" 8) rfl
  exact ⟨_, fd, F, He.glo_ok X G (c.fact 6 (f := .glo "parts_of") rfl), FunD.bindsN (ps := Te.e_parts_of.ps) F fun _ _ _ _ _ _ us hl => match us, hl with | [_], _ => rfl⟩
theorem f_columns_of (X : K.In h) (G : h.Ns mainGlobals mg) (c : He.SaysD Hd.fa Hd.fn K) : PL.Fact K mg Te.e_columns_of := by
  obtain ⟨fd, F⟩ := c.def_ 7 (d := Hd.dd "columns_of" 10) rfl
  exact ⟨_, fd, F, He.glo_ok X G (c.fact 7 (f := .glo "columns_of") rfl), FunD.bindsN (ps := Te.e_columns_of.ps) F fun _ _ _ _ _ _ us hl => match us, hl with | [_, _], _ => rfl⟩
theorem f_counts_of (X : K.In h) (G : h.Ns mainGlobals mg) (c : He.SaysD Hd.fa Hd.fn K) : PL.Fact K mg Te.e_counts_of := by
  obtain ⟨fd, F⟩ := c.def_ 8 (d := Hd.dd "counts_of" 13) rfl
  exact ⟨_, fd, F, He.glo_ok X G (c.fact 8 (f := .glo "counts_of") rfl), FunD.bindsN (ps := Te.e_counts_of.ps) F fun _ _ _ _ _ _ us hl => match us, hl with | [_], _ => rfl⟩
theorem f_lesser (X : K.In h) (G : h.Ns mainGlobals mg) (c : He.SaysD Hd.fa Hd.fn K) : PL.Fact K mg Te.e_lesser := by
  obtain ⟨fd, F⟩ := c.def_ 9 (d := Hd.dd "lesser" 14) rfl
  exact ⟨_, fd, F, He.glo_ok X G (c.fact 9 (f := .glo "lesser") rfl), FunD.bindsN (ps := Te.e_lesser.ps) F fun _ _ _ _ _ _ us hl => match us, hl with | [_, _], _ => rfl⟩
theorem f_upward (X : K.In h) (G : h.Ns mainGlobals mg) (c : He.SaysD Hd.fa Hd.fn K) : PL.Fact K mg Te.e_upward := by
  obtain ⟨fd, F⟩ := c.def_ 10 (d := Hd.dd "upward" 15) rfl
  exact ⟨_, fd, F, He.glo_ok X G (c.fact 10 (f := .glo "upward") rfl), FunD.bindsN (ps := Te.e_upward.ps) F fun _ _ _ _ _ _ us hl => match us, hl with | [_], _ => rfl⟩
theorem f_comes_from (X : K.In h) (G : h.Ns mainGlobals mg) (c : He.SaysD Hd.fa Hd.fn K) : PL.Fact K mg Te.e_comes_from := by
  obtain ⟨fd, F⟩ := c.def_ 11 (d := Hd.dd "comes_from" 16) rfl
  exact ⟨_, fd, F, He.glo_ok X G (c.fact 11 (f := .glo "comes_from") rfl), FunD.bindsN (ps := Te.e_comes_from.ps) F fun _ _ _ _ _ _ us hl => match us, hl with | [_, _, _], _ => rfl⟩
theorem f_unlike_in (X : K.In h) (G : h.Ns mainGlobals mg) (c : He.SaysD Hd.fa Hd.fn K) : PL.Fact K mg Te.e_unlike_in := by
  obtain ⟨fd, F⟩ := c.def_ 12 (d := Hd.dd "unlike_in" 17) rfl
  exact ⟨_, fd, F, He.glo_ok X G (c.fact 12 (f := .glo "unlike_in") rfl), FunD.bindsN (ps := Te.e_unlike_in.ps) F fun _ _ _ _ _ _ us hl => match us, hl with | [_, _, _, _], _ => rfl⟩
theorem f_share_of_same (X : K.In h) (G : h.Ns mainGlobals mg) (c : He.SaysD Hd.fa Hd.fn K) : PL.Fact K mg Te.e_share_of_same := by
  obtain ⟨fd, F⟩ := c.def_ 13 (d := Hd.dd "share_of_same" 18) rfl
  exact ⟨_, fd, F, He.glo_ok X G (c.fact 13 (f := .glo "share_of_same") rfl), FunD.bindsN (ps := Te.e_share_of_same.ps) F fun _ _ _ _ _ _ us hl => match us, hl with | [_, _, _, _], _ => rfl⟩
theorem f_asked_columns (X : K.In h) (G : h.Ns mainGlobals mg) (c : He.SaysD Hd.fa Hd.fn K) : PL.Fact K mg Te.e_asked_columns := by
  obtain ⟨fd, F⟩ := c.def_ 14 (d := Hd.dd "asked_columns" 19) rfl
  exact ⟨_, fd, F, He.glo_ok X G (c.fact 14 (f := .glo "asked_columns") rfl), FunD.bindsN (ps := Te.e_asked_columns.ps) F fun _ _ _ _ _ _ us hl => match us, hl with | [_, _], _ => rfl⟩
theorem f_share (X : K.In h) (G : h.Ns mainGlobals mg) (c : He.SaysD Hd.fa Hd.fn K) : PL.Fact K mg Te.e_share := by
  obtain ⟨fd, F⟩ := c.def_ 15 (d := Hd.dd "share" 20) rfl
  exact ⟨_, fd, F, He.glo_ok X G (c.fact 15 (f := .glo "share") rfl), FunD.bindsN (ps := Te.e_share.ps) F fun _ _ _ _ _ _ us hl => match us, hl with | [_, _, _, _], _ => rfl⟩
theorem f_guess_join (X : K.In h) (G : h.Ns mainGlobals mg) (c : He.SaysD Hd.fa Hd.fn K) : PL.Fact K mg Te.e_guess_join := by
  obtain ⟨fd, F⟩ := c.def_ 16 (d := Hd.dd "guess_join" 21) rfl
  exact ⟨_, fd, F, He.glo_ok X G (c.fact 16 (f := .glo "guess_join") rfl), FunD.bindsN (ps := Te.e_guess_join.ps) F fun _ _ _ _ _ _ us hl => match us, hl with | [_, _, _], _ => rfl⟩
theorem f_guess_group (X : K.In h) (G : h.Ns mainGlobals mg) (c : He.SaysD Hd.fa Hd.fn K) : PL.Fact K mg Te.e_guess_group := by
  obtain ⟨fd, F⟩ := c.def_ 17 (d := Hd.dd "guess_group" 22) rfl
  exact ⟨_, fd, F, He.glo_ok X G (c.fact 17 (f := .glo "guess_group") rfl), FunD.bindsN (ps := Te.e_guess_group.ps) F fun _ _ _ _ _ _ us hl => match us, hl with | [_, _, _], _ => rfl⟩
theorem f_guess (X : K.In h) (G : h.Ns mainGlobals mg) (c : He.SaysD Hd.fa Hd.fn K) : PL.Fact K mg Te.e_guess := by
  obtain ⟨fd, F⟩ := c.def_ 18 (d := Hd.dd "guess" 23) rfl
  exact ⟨_, fd, F, He.glo_ok X G (c.fact 18 (f := .glo "guess") rfl), FunD.bindsN (ps := Te.e_guess.ps) F fun _ _ _ _ _ _ us hl => match us, hl with | [_, _, _], _ => rfl⟩
theorem f__law_draws (X : K.In h) (G : h.Ns mainGlobals mg) (c : He.SaysD Hd.fa Hd.fn K) : PL.Fact K mg Te.e__law_draws := by
  obtain ⟨fd, F⟩ := c.def_ 19 (d := Hd.dd "_law_draws" 25) rfl
  exact ⟨_, fd, F, He.glo_ok X G (c.fact 19 (f := .glo "_law_draws") rfl), FunD.bindsN (ps := Te.e__law_draws.ps) F fun _ _ _ _ _ _ us hl => match us, hl with | [_, _], _ => rfl⟩
theorem f__law_next (X : K.In h) (G : h.Ns mainGlobals mg) (c : He.SaysD Hd.fa Hd.fn K) : PL.Fact K mg Te.e__law_next := by
  obtain ⟨fd, F⟩ := c.def_ 20 (d := Hd.dd "_law_next" 26) rfl
  exact ⟨_, fd, F, He.glo_ok X G (c.fact 20 (f := .glo "_law_next") rfl), FunD.bindsN (ps := Te.e__law_next.ps) F fun _ _ _ _ _ _ us hl => match us, hl with | [_, _], _ => rfl⟩
theorem f__law_pick (X : K.In h) (G : h.Ns mainGlobals mg) (c : He.SaysD Hd.fa Hd.fn K) : PL.Fact K mg Te.e__law_pick := by
  obtain ⟨fd, F⟩ := c.def_ 21 (d := Hd.dd "_law_pick" 27) rfl
  exact ⟨_, fd, F, He.glo_ok X G (c.fact 21 (f := .glo "_law_pick") rfl), FunD.bindsN (ps := Te.e__law_pick.ps) F fun _ _ _ _ _ _ us hl => match us, hl with | [_, _], _ => rfl⟩
theorem f__law_same (X : K.In h) (G : h.Ns mainGlobals mg) (c : He.SaysD Hd.fa Hd.fn K) : PL.Fact K mg Te.e__law_same := by
  obtain ⟨fd, F⟩ := c.def_ 23 (d := Hd.dd "_law_same" 29) rfl
  exact ⟨_, fd, F, He.glo_ok X G (c.fact 23 (f := .glo "_law_same") rfl), FunD.bindsN (ps := Te.e__law_same.ps) F fun _ _ _ _ _ _ us hl => match us, hl with | [_, _], _ => rfl⟩
theorem f__law_fraction (X : K.In h) (G : h.Ns mainGlobals mg) (c : He.SaysD Hd.fa Hd.fn K) : PL.Fact K mg Te.e__law_fraction := by
  obtain ⟨fd, F⟩ := c.def_ 24 (d := Hd.dd "_law_fraction" 30) rfl
  exact ⟨_, fd, F, He.glo_ok X G (c.fact 24 (f := .glo "_law_fraction") rfl), FunD.bindsN (ps := Te.e__law_fraction.ps) F fun _ _ _ _ _ _ us hl => match us, hl with | [_, _], _ => rfl⟩
theorem f__law_add (X : K.In h) (G : h.Ns mainGlobals mg) (c : He.SaysD Hd.fa Hd.fn K) : PL.Fact K mg Te.e__law_add := by
  obtain ⟨fd, F⟩ := c.def_ 25 (d := Hd.dd "_law_add" 31) rfl
  exact ⟨_, fd, F, He.glo_ok X G (c.fact 25 (f := .glo "_law_add") rfl), FunD.bindsN (ps := Te.e__law_add.ps) F fun _ _ _ _ _ _ us hl => match us, hl with | [_, _], _ => rfl⟩
theorem f__law_times (X : K.In h) (G : h.Ns mainGlobals mg) (c : He.SaysD Hd.fa Hd.fn K) : PL.Fact K mg Te.e__law_times := by
  obtain ⟨fd, F⟩ := c.def_ 26 (d := Hd.dd "_law_times" 32) rfl
  exact ⟨_, fd, F, He.glo_ok X G (c.fact 26 (f := .glo "_law_times") rfl), FunD.bindsN (ps := Te.e__law_times.ps) F fun _ _ _ _ _ _ us hl => match us, hl with | [_, _], _ => rfl⟩
theorem f__law_less (X : K.In h) (G : h.Ns mainGlobals mg) (c : He.SaysD Hd.fa Hd.fn K) : PL.Fact K mg Te.e__law_less := by
  obtain ⟨fd, F⟩ := c.def_ 28 (d := Hd.dd "_law_less" 34) rfl
  exact ⟨_, fd, F, He.glo_ok X G (c.fact 28 (f := .glo "_law_less") rfl), FunD.bindsN (ps := Te.e__law_less.ps) F fun _ _ _ _ _ _ us hl => match us, hl with | [_, _], _ => rfl⟩
theorem f__law_minus (X : K.In h) (G : h.Ns mainGlobals mg) (c : He.SaysD Hd.fa Hd.fn K) : PL.Fact K mg Te.e__law_minus := by
  obtain ⟨fd, F⟩ := c.def_ 31 (d := Hd.dd "_law_minus" 37) rfl
  exact ⟨_, fd, F, He.glo_ok X G (c.fact 31 (f := .glo "_law_minus") rfl), FunD.bindsN (ps := Te.e__law_minus.ps) F fun _ _ _ _ _ _ us hl => match us, hl with | [_, _], _ => rfl⟩
theorem f__law_place (X : K.In h) (G : h.Ns mainGlobals mg) (c : He.SaysD Hd.fa Hd.fn K) : PL.Fact K mg Te.e__law_place := by
  obtain ⟨fd, F⟩ := c.def_ 34 (d := Hd.dd "_law_place" 40) rfl
  exact ⟨_, fd, F, He.glo_ok X G (c.fact 34 (f := .glo "_law_place") rfl), FunD.bindsN (ps := Te.e__law_place.ps) F fun _ _ _ _ _ _ us hl => match us, hl with | [_], _ => rfl⟩
theorem f__law_bag (X : K.In h) (G : h.Ns mainGlobals mg) (c : He.SaysD Hd.fa Hd.fn K) : PL.Fact K mg Te.e__law_bag := by
  obtain ⟨fd, F⟩ := c.def_ 35 (d := Hd.dd "_law_bag" 41) rfl
  exact ⟨_, fd, F, He.glo_ok X G (c.fact 35 (f := .glo "_law_bag") rfl), FunD.bindsN (ps := Te.e__law_bag.ps) F fun _ _ _ _ _ _ us hl => match us, hl with | [_], _ => rfl⟩
theorem f__law_columns (X : K.In h) (G : h.Ns mainGlobals mg) (c : He.SaysD Hd.fa Hd.fn K) : PL.Fact K mg Te.e__law_columns := by
  obtain ⟨fd, F⟩ := c.def_ 37 (d := Hd.dd "_law_columns" 43) rfl
  exact ⟨_, fd, F, He.glo_ok X G (c.fact 37 (f := .glo "_law_columns") rfl), FunD.bindsN (ps := Te.e__law_columns.ps) F fun _ _ _ _ _ _ us hl => match us, hl with | [_, _], _ => rfl⟩
theorem f__law_schemas (X : K.In h) (G : h.Ns mainGlobals mg) (c : He.SaysD Hd.fa Hd.fn K) : PL.Fact K mg Te.e__law_schemas := by
  obtain ⟨fd, F⟩ := c.def_ 48 (d := Hd.dd "_law_schemas" 54) rfl
  exact ⟨_, fd, F, He.glo_ok X G (c.fact 48 (f := .glo "_law_schemas") rfl), FunD.bindsN (ps := Te.e__law_schemas.ps) F fun _ _ _ _ _ _ us hl => match us, hl with | [], _ => rfl⟩
theorem f__law_tables (X : K.In h) (G : h.Ns mainGlobals mg) (c : He.SaysD Hd.fa Hd.fn K) : PL.Fact K mg Te.e__law_tables := by
  obtain ⟨fd, F⟩ := c.def_ 50 (d := Hd.dd "_law_tables" 56) rfl
  exact ⟨_, fd, F, He.glo_ok X G (c.fact 50 (f := .glo "_law_tables") rfl), FunD.bindsN (ps := Te.e__law_tables.ps) F fun _ _ _ _ _ _ us hl => match us, hl with | [_], _ => rfl⟩
theorem f__law_take (X : K.In h) (G : h.Ns mainGlobals mg) (c : He.SaysD Hd.fa Hd.fn K) : PL.Fact K mg Te.e__law_take := by
  obtain ⟨fd, F⟩ := c.def_ 51 (d := Hd.dd "_law_take" 57) rfl
  exact ⟨_, fd, F, He.glo_ok X G (c.fact 51 (f := .glo "_law_take") rfl), FunD.bindsN (ps := Te.e__law_take.ps) F fun _ _ _ _ _ _ us hl => match us, hl with | [_, _], _ => rfl⟩
theorem f__law_term (X : K.In h) (G : h.Ns mainGlobals mg) (c : He.SaysD Hd.fa Hd.fn K) : PL.Fact K mg Te.e__law_term := by
  obtain ⟨fd, F⟩ := c.def_ 52 (d := Hd.dd "_law_term" 58) rfl
  exact ⟨_, fd, F, He.glo_ok X G (c.fact 52 (f := .glo "_law_term") rfl), FunD.bindsN (ps := Te.e__law_term.ps) F fun _ _ _ _ _ _ us hl => match us, hl with | [_, _, _, _], _ => rfl⟩
theorem f__law_term_of (X : K.In h) (G : h.Ns mainGlobals mg) (c : He.SaysD Hd.fa Hd.fn K) : PL.Fact K mg Te.e__law_term_of := by
  obtain ⟨fd, F⟩ := c.def_ 53 (d := Hd.dd "_law_term_of" 59) rfl
  exact ⟨_, fd, F, He.glo_ok X G (c.fact 53 (f := .glo "_law_term_of") rfl), FunD.bindsN (ps := Te.e__law_term_of.ps) F fun _ _ _ _ _ _ us hl => match us, hl with | [_, _, _, _, _], _ => rfl⟩
theorem f__law_test (X : K.In h) (G : h.Ns mainGlobals mg) (c : He.SaysD Hd.fa Hd.fn K) : PL.Fact K mg Te.e__law_test := by
  obtain ⟨fd, F⟩ := c.def_ 54 (d := Hd.dd "_law_test" 60) rfl
  exact ⟨_, fd, F, He.glo_ok X G (c.fact 54 (f := .glo "_law_test") rfl), FunD.bindsN (ps := Te.e__law_test.ps) F fun _ _ _ _ _ _ us hl => match us, hl with | [_, _, _], _ => rfl⟩
theorem f__law_test_of (X : K.In h) (G : h.Ns mainGlobals mg) (c : He.SaysD Hd.fa Hd.fn K) : PL.Fact K mg Te.e__law_test_of := by
  obtain ⟨fd, F⟩ := c.def_ 55 (d := Hd.dd "_law_test_of" 61) rfl
  exact ⟨_, fd, F, He.glo_ok X G (c.fact 55 (f := .glo "_law_test_of") rfl), FunD.bindsN (ps := Te.e__law_test_of.ps) F fun _ _ _ _ _ _ us hl => match us, hl with | [_, _, _, _], _ => rfl⟩
theorem f__law_made (X : K.In h) (G : h.Ns mainGlobals mg) (c : He.SaysD Hd.fa Hd.fn K) : PL.Fact K mg Te.e__law_made := by
  obtain ⟨fd, F⟩ := c.def_ 56 (d := Hd.dd "_law_made" 62) rfl
  exact ⟨_, fd, F, He.glo_ok X G (c.fact 56 (f := .glo "_law_made") rfl), FunD.bindsN (ps := Te.e__law_made.ps) F fun _ _ _ _ _ _ us hl => match us, hl with | [_, _, _], _ => rfl⟩
theorem f__law_sides (X : K.In h) (G : h.Ns mainGlobals mg) (c : He.SaysD Hd.fa Hd.fn K) : PL.Fact K mg Te.e__law_sides := by
  obtain ⟨fd, F⟩ := c.def_ 57 (d := Hd.dd "_law_sides" 63) rfl
  exact ⟨_, fd, F, He.glo_ok X G (c.fact 57 (f := .glo "_law_sides") rfl), FunD.bindsN (ps := Te.e__law_sides.ps) F fun _ _ _ _ _ _ us hl => match us, hl with | [_, _, _], _ => rfl⟩
theorem f__law_alike (X : K.In h) (G : h.Ns mainGlobals mg) (c : He.SaysD Hd.fa Hd.fn K) : PL.Fact K mg Te.e__law_alike := by
  obtain ⟨fd, F⟩ := c.def_ 58 (d := Hd.dd "_law_alike" 64) rfl
  exact ⟨_, fd, F, He.glo_ok X G (c.fact 58 (f := .glo "_law_alike") rfl), FunD.bindsN (ps := Te.e__law_alike.ps) F fun _ _ _ _ _ _ us hl => match us, hl with | [_, _], _ => rfl⟩
theorem f__law_ask (X : K.In h) (G : h.Ns mainGlobals mg) (c : He.SaysD Hd.fa Hd.fn K) : PL.Fact K mg Te.e__law_ask := by
  obtain ⟨fd, F⟩ := c.def_ 59 (d := Hd.dd "_law_ask" 65) rfl
  exact ⟨_, fd, F, He.glo_ok X G (c.fact 59 (f := .glo "_law_ask") rfl), FunD.bindsN (ps := Te.e__law_ask.ps) F fun _ _ _ _ _ _ us hl => match us, hl with | [_, _, _], _ => rfl⟩
theorem f__law_same_dict (X : K.In h) (G : h.Ns mainGlobals mg) (c : He.SaysD Hd.fa Hd.fn K) : PL.Fact K mg Te.e__law_same_dict := by
  obtain ⟨fd, F⟩ := c.def_ 60 (d := Hd.dd "_law_same_dict" 66) rfl
  exact ⟨_, fd, F, He.glo_ok X G (c.fact 60 (f := .glo "_law_same_dict") rfl), FunD.bindsN (ps := Te.e__law_same_dict.ps) F fun _ _ _ _ _ _ us hl => match us, hl with | [_, _], _ => rfl⟩
theorem f__law_is_counts (X : K.In h) (G : h.Ns mainGlobals mg) (c : He.SaysD Hd.fa Hd.fn K) : PL.Fact K mg Te.e__law_is_counts := by
  obtain ⟨fd, F⟩ := c.def_ 61 (d := Hd.dd "_law_is_counts" 67) rfl
  exact ⟨_, fd, F, He.glo_ok X G (c.fact 61 (f := .glo "_law_is_counts") rfl), FunD.bindsN (ps := Te.e__law_is_counts.ps) F fun _ _ _ _ _ _ us hl => match us, hl with | [_, _], _ => rfl⟩
theorem f__law_up (X : K.In h) (G : h.Ns mainGlobals mg) (c : He.SaysD Hd.fa Hd.fn K) : PL.Fact K mg Te.e__law_up := by
  obtain ⟨fd, F⟩ := c.def_ 62 (d := Hd.dd "_law_up" 68) rfl
  exact ⟨_, fd, F, He.glo_ok X G (c.fact 62 (f := .glo "_law_up") rfl), FunD.bindsN (ps := Te.e__law_up.ps) F fun _ _ _ _ _ _ us hl => match us, hl with | [_], _ => rfl⟩
theorem f__law_unlike (X : K.In h) (G : h.Ns mainGlobals mg) (c : He.SaysD Hd.fa Hd.fn K) : PL.Fact K mg Te.e__law_unlike := by
  obtain ⟨fd, F⟩ := c.def_ 63 (d := Hd.dd "_law_unlike" 69) rfl
  exact ⟨_, fd, F, He.glo_ok X G (c.fact 63 (f := .glo "_law_unlike") rfl), FunD.bindsN (ps := Te.e__law_unlike.ps) F fun _ _ _ _ _ _ us hl => match us, hl with | [_, _, _, _], _ => rfl⟩
theorem f__law_part (X : K.In h) (G : h.Ns mainGlobals mg) (c : He.SaysD Hd.fa Hd.fn K) : PL.Fact K mg Te.e__law_part := by
  obtain ⟨fd, F⟩ := c.def_ 64 (d := Hd.dd "_law_part" 70) rfl
  exact ⟨_, fd, F, He.glo_ok X G (c.fact 64 (f := .glo "_law_part") rfl), FunD.bindsN (ps := Te.e__law_part.ps) F fun _ _ _ _ _ _ us hl => match us, hl with | [_, _, _, _], _ => rfl⟩
theorem f__law_guess (X : K.In h) (G : h.Ns mainGlobals mg) (c : He.SaysD Hd.fa Hd.fn K) : PL.Fact K mg Te.e__law_guess := by
  obtain ⟨fd, F⟩ := c.def_ 65 (d := Hd.dd "_law_guess" 71) rfl
  exact ⟨_, fd, F, He.glo_ok X G (c.fact 65 (f := .glo "_law_guess") rfl), FunD.bindsN (ps := Te.e__law_guess.ps) F fun _ _ _ _ _ _ us hl => match us, hl with | [_, _, _], _ => rfl⟩
theorem facts (X : K.In h) (G : h.Ns mainGlobals mg) (c : He.SaysD Hd.fa Hd.fn K) : ∀ e ∈ Te.es, PL.Fact K mg e := all_cons (f_divisor X G c) (all_cons (f_fraction X G c) (all_cons (f_plus X G c) (all_cons (f_times X G c) (all_cons (f_minus X G c) (all_cons (f_is_less X G c) (all_cons (f_parts_of X G c) (all_cons (f_columns_of X G c) (all_cons (f_counts_of X G c) (all_cons (f_lesser X G c) (all_cons (f_upward X G c) (all_cons (f_comes_from X G c) (all_cons (f_unlike_in X G c) (all_cons (f_share_of_same X G c) (all_cons (f_asked_columns X G c) (all_cons (f_share X G c) (all_cons (f_guess_join X G c) (all_cons (f_guess_group X G c) (all_cons (f_guess X G c) (all_cons (f__law_draws X G c) (all_cons (f__law_next X G c) (all_cons (f__law_pick X G c) (all_cons (f__law_same X G c) (all_cons (f__law_fraction X G c) (all_cons (f__law_add X G c) (all_cons (f__law_times X G c) (all_cons (f__law_less X G c) (all_cons (f__law_minus X G c) (all_cons (f__law_place X G c) (all_cons (f__law_bag X G c) (all_cons (f__law_columns X G c) (all_cons (f__law_schemas X G c) (all_cons (f__law_tables X G c) (all_cons (f__law_take X G c) (all_cons (f__law_term X G c) (all_cons (f__law_term_of X G c) (all_cons (f__law_test X G c) (all_cons (f__law_test_of X G c) (all_cons (f__law_made X G c) (all_cons (f__law_sides X G c) (all_cons (f__law_alike X G c) (all_cons (f__law_ask X G c) (all_cons (f__law_same_dict X G c) (all_cons (f__law_is_counts X G c) (all_cons (f__law_up X G c) (all_cons (f__law_unlike X G c) (all_cons (f__law_part X G c) (all_cons (f__law_guess X G c) (all_nil))))))))))))))))))))))))))))))))))))))))))))))))
theorem blts (X : K.In h) (G : h.Ns mainGlobals mg) (c : He.SaysD Hd.fa Hd.fn K) : ∀ x ∈ PL.bnames, mg x = none := all_cons (He.free_ok X G (c.fact 74 (f := .free "isinstance") rfl)) (all_cons (He.free_ok X G (c.fact 75 (f := .free "len") rfl)) (all_cons (He.free_ok X G (c.fact 67 (f := .free "abs") rfl)) (all_cons (He.free_ok X G (c.fact 73 (f := .free "int") rfl)) (all_cons (He.free_ok X G (c.fact 77 (f := .free "max") rfl)) (all_cons (He.free_ok X G (c.fact 78 (f := .free "min") rfl)) (all_cons (He.free_ok X G (c.fact 82 (f := .free "sorted") rfl)) (all_cons (He.free_ok X G (c.fact 85 (f := .free "tuple") rfl)) (all_cons (He.free_ok X G (c.fact 76 (f := .free "list") rfl)) (all_cons (He.free_ok X G (c.fact 71 (f := .free "dict") rfl)) (all_cons (He.free_ok X G (c.fact 84 (f := .free "sum") rfl)) (all_cons (He.free_ok X G (c.fact 68 (f := .free "all") rfl)) (all_cons (He.free_ok X G (c.fact 69 (f := .free "any") rfl)) (all_cons (He.free_ok X G (c.fact 81 (f := .free "set") rfl)) (all_cons (He.free_ok X G (c.fact 80 (f := .free "range") rfl)) (all_cons (He.free_ok X G (c.fact 72 (f := .free "enumerate") rfl)) (all_cons (He.free_ok X G (c.fact 83 (f := .free "str") rfl)) (all_cons (He.free_ok X G (c.fact 70 (f := .free "bool") rfl)) (all_nil))))))))))))))))))
end
end Fc
open PySem PySem.W PySem.Calls PyProof.Rows
theorem PySem.Challenge.cw_storewrought_k09_how_many_rows_holds : PySem.Challenge.rw_storewrought_k09_how_many_rows.Holds := by
  w_on; o_law
  refine HandSHeadRun.head_any (r := OpenLaw.row PySem.Challenge.rw_storewrought_k09_how_many_rows) (q := view (OpenLaw.row PySem.Challenge.rw_storewrought_k09_how_many_rows).prog [72]) (H := Hd.hk) (ob := Hd.ob) (M := 4000) (loose := Hd.nms) (d := HandSHeadRun.topDef (OpenLaw.row PySem.Challenge.rw_storewrought_k09_how_many_rows).prog 72) (kwd := []) Hd.ob_eq
    (by kernel_rfl) (fun s => by kernel_rfl) Hd.run (by kernel_rfl) (by kernel_rfl) (by kernel_rfl) (by rfl) (by first | assumption | decide +kernel) (by decide +kernel) ⟨rfl, rfl, rfl, rfl, rfl, by decide +kernel⟩ ?hw ?hc
  case hw => w_witness2
  case hc =>
    refine L2.walk_ofE (l := PySem.Challenge.rw_storewrought_k09_how_many_rows) (n := 63) (k := 201) (x := "script") (CX := L2.CX0) rfl (by decide) (by kernel_rfl) ⟨rfl, by decide, by decide⟩ ?F (fun _ _ _ _ z => z)
    intro w mg fa h Y G hmg0
    obtain ⟨K, KX, c, hcs⟩ := Y
    have hmg : mg ("law" : PySem.Str) = some (.ref fa) := by
      have e : (HandSHeadRun.topDef (OpenLaw.row PySem.Challenge.rw_storewrought_k09_how_many_rows).prog 72).name = ("law" : PySem.Str) := by kernel_rfl
      rw [← e]
      exact hmg0
    obtain ⟨fd, F⟩ := c.def_ 66 (d := Hd.dd "law" 72) rfl
    have e := hmg.symm.trans (He.glo_ok KX G (c.fact 66 (f := .glo "law") rfl))
    cases e
    have bA := L2.FunD.bindsA (ps := ["script"]) F fun _ _ _ _ _ _ us hl => match us, hl with | [_], _ => rfl
    refine ⟨K, fd, PL.spL 201 Tb.T Tb.G 100000 K, KX, fun s v => bA s [v] rfl, fun H a ns hl _ hS => ?_, fun base kb gb => ?_⟩
    · obtain ⟨s', hp⟩ := Pure.law_pure ns hl
      exact ⟨a, ns, s', rfl, hS, hp, fun _ => rfl⟩
    · exact PL.law_ok (eL := Te.e_law) (n := 200) (PL.world_of (PL.consB_ok hcs KX G) (Fc.blts KX G c) Te.sg_es Te.chks (Fc.facts KX G c)) Te.c_law rfl (by kernel_rfl) rfl rfl F

