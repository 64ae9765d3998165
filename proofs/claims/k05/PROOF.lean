import PyProof.Rows.All
import Wide.All
import OpenK.AllK
import Wide.FinOn
import HandS.ForMost
import HandS.ForExc
import PyProof.Rows.SortShellAny
import HandS.Set
import HandS.SetFor
import HandS.Strs
import HandS.TupAny
import HandS.Flow
import HandS.Deep
import HandS.Style
import HandS.SetKeys
import HandS.More
import HandS.HeadHook1
import HandS.Conv
import HandS.WordsDict
import PyProof.ReprRoads
import HandS.SortOrd
import HandS.SortRule
import HandS.IsInst
import KE.KDictPairs
import HandS.Star
import HandS.Iter
import HandS.CallRecv
import HandS.HeadWalk
import HandS.Zip
import HandS.DictComp
import KE.GoesEnum
import HandS.FStr
import HandS.Ends
import HandS.Head0
import HandS.Head1
import HandS.Head2
import HandS.HeadEnd
import HandS.HeadHook2
import HandS.HeadHook3
import PySem.Challenge.RW_sealedalike_k05_needed_things
set_option Elab.async false
set_option linter.all false
/-! the evaluator: data, store, mini-AST, its meaning -/
namespace Iv
open PySem L2

/-- data. ref n: the mutable cell n of the store -/
inductive D where
  | non | bl (b : Bool) | int (i : Int) | str (x : Str)
  | tup (xs : List D) | lst (xs : List D)
  /-- a pair that zip, items, enumerate give -/
  | it (xs : List D)
  | dic (ks : List Key) (vs : List D) | set (xs : List Str)
  | ro (xs : List D)
  /-- a dict with text keys that the module's top holds -/
  | rod (ks : List Str) (vs : List D)
  /-- a def, a class of the module's top, by its name -/
  | gv (x : Str)
  | ref (n : Nat)
  deriving Inhabited
inductive Cell where
  | lst (xs : List D) | dic (ks : List Key) (vs : List D)
  /-- an instance of an own class, by the class's name: its attributes in order -/
  | obj (c : Str) (fs : List (Str × D))
  | dead
  deriving Inhabited
abbrev Store := List Cell
abbrev Env := List (Option D)
inductive Res (α : Type) where
  | ok (a : α) (σ : Store)
  | exc (c : Nat) (d : D) (σ : Store)
  | bad
def Res.bind {α β : Type} (r : Res α) (f : α → Store → Res β) : Res β := match r with
  | .ok a σ => f a σ
  | .exc c d σ => .exc c d σ
  | .bad => .bad

def keyD : Key → D
  | .inl i => .int i
  | .inr x => .str x
def keyP : Key → PyData
  | .inl i => .int i
  | .inr x => .str x
def dKey : D → Option Key
  | .int i => some (.inl i)
  | .str x => some (.inr x)
  | _ => none
mutual
def D.py : D → PyData
  | .non => .none
  | .bl b => .bool b
  | .int i => .int i
  | .str x => .str x
  | .tup xs => .tuple (D.pys xs)
  | .lst xs => .list (D.pys xs)
  | .dic ks vs => .dict ((ks.map keyP).zip (D.pys vs))
  | .it _ => .none
  | .set _ => .none
  | .ro xs => .list (D.pys xs)
  | .rod _ _ => .none
  | .gv _ => .none
  | .ref _ => .none
def D.pys : List D → List PyData
  | [] => []
  | d :: ds => D.py d :: D.pys ds
end
mutual
/-- PyData stands for it -/
def D.pure : D → Bool
  | .tup xs => D.pures xs
  | .lst xs => D.pures xs
  | .dic ks vs => decide (ks.length = vs.length) && D.pures vs
  | .it _ => false
  | .set _ => false
  | .ro xs => D.pures xs
  | .rod _ _ => false
  | .gv _ => false
  | .ref _ => false
  | _ => true
def D.pures : List D → Bool
  | [] => true
  | d :: ds => D.pure d && D.pures ds
end
mutual
/-- cells below n alone -/
def D.under (n : Nat) : D → Bool
  | .tup xs => D.unders n xs
  | .it xs => D.unders n xs
  | .lst xs => D.unders n xs
  | .dic _ vs => D.unders n vs
  | .ro xs => D.unders n xs
  | .rod _ vs => D.unders n vs
  | .ref m => decide (m < n)
  | _ => true
def D.unders (n : Nat) : List D → Bool
  | [] => true
  | d :: ds => D.under n d && D.unders n ds
end
def Cell.under (n : Nat) : Cell → Bool
  | .lst xs => D.unders n xs
  | .dic _ vs => D.unders n vs
  | .obj _ fs => D.unders n (fs.map (·.2))
  | .dead => true

/-! ### expressions -/
inductive BOp where
  | add | sub | mul | fdiv | mod | pow
inductive COp where
  | eq | ne | lt | le | gt | ge | isin | notin | is | isnot
inductive Ty where
  | str | tup | int | bool | list | dict
/-- built-in functions of one argument -/
inductive Bi where
  | len | list | tuple | int | str | repr | all | any | sum | sorted | set | dict | abs
/-- built-in methods -/
inductive Me where
  | append | pop | extend | get | join | split
/-- what is walked: an expression; range(e); range(a, b) -/
inductive IK where
  | on | rng | rng2 | zip | enu
inductive Tg where
  | nm (i : Nat) | tup (is : List Nat)
inductive Ex where
  | nop
  | loc (i : Nat)
  | non | bl (b : Bool) | int (i : Int) | str (x : Str)
  | glo (x : Str) (d : D)
  | bin (op : BOp) (a b : Ex)
  | neg (a : Ex)
  | cmp (op : COp) (a b : Ex)
  | chain (op op' : COp) (a b c : Ex)
  | and (a b : Ex) | or (a b : Ex) | not (a : Ex)
  | ite (c a b : Ex)
  | tup (es : List Ex)
  | lst (mu : Bool) (es : List Ex)
  | dic (mu : Bool) (kvs : List Ex)
  | star (a : Ex)
  | idx (a i : Ex) | slice (mu : Bool) (a lo hi : Ex) | rev (mu : Bool) (a : Ex)
  | call (f : Nat) (es ks : List Ex) (ds : List D) (pm : List Nat)
  | bi (b : Bi) (mu : Bool) (a : Ex)
  | isi (a : Ex) (ts : List Ty)
  | me (m : Me) (o : Ex) (es : List Ex)
  | comp (mu : Bool) (own : List Nat) (t : Tg) (k : IK) (its : List Ex) (c elt : Ex)
  | dcomp (mu : Bool) (own : List Nat) (t : Tg) (k : IK) (its : List Ex) (c kx vx : Ex)
  /-- o.x -/
  | fld (o : Ex) (x : Str)
  /-- C(..): a new instance, its __init__ is f; pm: which of self, es, ks, dv each parameter is -/
  | mk (c : Str) (f : Nat) (es ks : List Ex) (dv : List D) (pm : List Nat)
  /-- o.m(..), o an instance of c, m its def f -/
  | mcall (c m : Str) (f : Nat) (o : Ex) (es ks : List Ex) (dv : List D) (pm : List Nat)
  /-- o.m( *e), o an instance of c -/
  | mcallS (c m : Str) (f np : Nat) (o e : Ex)
  /-- tuple(range(..)), list(range(..)) -/
  | rgs (tp mu : Bool) (es : List Ex)
  /-- f'..': its parts -/
  | fstr (es : List Ex)
inductive Stt where
  | asg (t : Tg) (e : Ex)
  | par (i j : Nat) (a b : Ex)
  | put (o k e : Ex)
  | exp (e : Ex)
  | ret (e : Ex)
  | ite (c : Ex) (a b : List Stt)
  | whl (c : Ex) (b : List Stt)
  | for (t : Tg) (k : IK) (its : List Ex) (b : List Stt)
  | brk | cont | pass
  | frz (i : Nat)
  /-- o.x = e, o an instance of c -/
  | sfld (c : Str) (o : Ex) (x : Str) (e : Ex)
  /-- a statement that is never come to -/
  | never

/-! ### operations -/
def lim : Nat := 16777216
/-- a cell read as data -/
def view (σ : Store) : D → D
  | .ref n => match σ[n]? with
    | some (.lst xs) => .lst xs
    | some (.dic ks vs) => .dic ks vs
    | _ => .ref n
  | d => d
/-- a new list, dict: data, or a cell -/
def newL (mu : Bool) (xs : List D) (σ : Store) : Res D := if xs.length ≤ lim then (if mu then .ok (.ref σ.length) (σ ++ [.lst xs]) else .ok (.lst xs) σ) else .bad
def newD (mu : Bool) (ks : List Key) (vs : List D) (σ : Store) : Res D := if mu then .ok (.ref σ.length) (σ ++ [.dic ks vs]) else .ok (.dic ks vs) σ
def newT (xs : List D) (σ : Store) : Res D := if xs.length ≤ lim then .ok (.tup xs) σ else .bad
def truthD : D → Option Bool
  | .non => some false
  | .bl b => some b
  | .int i => some (i != 0)
  | .str x => if x.length ≤ lim then some (x.length != 0) else none
  | .tup xs => some (!xs.isEmpty)
  | .ro xs => some (!xs.isEmpty)
  | .lst xs => some (!xs.isEmpty)
  | .dic ks _ => some (!ks.isEmpty)
  | _ => none
def cmpable (d : D) : Bool := d.pure && d.py.canLay0 && decide (d.py.depth ≤ 64)
def mulOk (i j : Int) : Bool := decide ((-(2 ^ 64) < i ∧ i < 2 ^ 64) ∨ (-(2 ^ 64) < j ∧ j < 2 ^ 64))
def binD (op : BOp) (a b : D) (σ : Store) : Res D := match op, view σ a, view σ b with
  | .add, .int i, .int j => .ok (.int (i + j)) σ
  | .sub, .int i, .int j => .ok (.int (i - j)) σ
  | .mul, .int i, .int j => if mulOk i j then .ok (.int (i * j)) σ else .bad
  | .fdiv, .int i, .int j => if j ≠ 0 ∧ j.natAbs < 1073741824 then .ok (.int (i.fdiv j)) σ else .bad
  | .mod, .int i, .int j => if j ≠ 0 then .ok (.int (i.fmod j)) σ else .bad
  | .pow, .int i, .int j => if 0 ≤ j ∧ j ≤ 1000000 ∧ i.natAbs < 2 ^ 64 then .ok (.int (i ^ j.toNat)) σ else .bad
  | .add, .str x, .str y => if x.length + y.length ≤ lim then .ok (.str (x ++ y)) σ else .bad
  | .add, .lst xs, .lst ys => newL false (xs ++ ys) σ
  | .add, .tup xs, .tup ys => newT (xs ++ ys) σ
  | .mul, .lst xs, .int k => if -(2 ^ 63) ≤ k ∧ k < 2 ^ 63 then newL false (List.replicate k.toNat xs).flatten σ else .bad
  | _, _, _ => .bad
def strLt (x y : Str) : Bool := decide (x.cps.toList < y.cps.toList)
def look (ks : List Key) (vs : List D) (k : Key) : Option D := ((ks.zip vs).find? fun p => decide (p.1 = k)).map (·.2)
def isNonD : D → Bool
  | .non => true
  | _ => false
def cmpD (op : COp) (a b : D) (σ : Store) : Res D := match op, view σ a, view σ b with
  | .eq, .int i, .int j => .ok (.bl (decide (i = j))) σ
  | .eq, .str i, .str j => .ok (.bl (decide (i = j))) σ
  | .ne, .int i, .int j => .ok (.bl (!decide (i = j))) σ
  | .ne, .str i, .str j => .ok (.bl (!decide (i = j))) σ
  | .eq, x, y => if cmpable x && cmpable y then .ok (.bl (PyData.eqv x.py y.py)) σ else .bad
  | .ne, x, y => if cmpable x && cmpable y then .ok (.bl (!PyData.eqv x.py y.py)) σ else .bad
  | .lt, .int i, .int j => .ok (.bl (decide (i < j))) σ
  | .le, .int i, .int j => .ok (.bl (decide (i ≤ j))) σ
  | .gt, .int i, .int j => .ok (.bl (decide (j < i))) σ
  | .ge, .int i, .int j => .ok (.bl (decide (j ≤ i))) σ
  | .lt, .str i, .str j => .ok (.bl (strLt i j)) σ
  | .le, .str i, .str j => .ok (.bl (!strLt j i)) σ
  | .gt, .str i, .str j => .ok (.bl (strLt j i)) σ
  | .ge, .str i, .str j => .ok (.bl (!strLt i j)) σ
  | .isin, .str i, .str j => .ok (.bl (!(Builtin.Str.occurrences j i 0 j.length 1).isEmpty)) σ
  | .notin, .str i, .str j => .ok (.bl (!!(Builtin.Str.occurrences j i 0 j.length 1).isEmpty)) σ
  | .isin, x, .dic ks vs => match dKey x with
    | some k => .ok (.bl (look ks vs k).isSome) σ
    | none => .bad
  | .notin, x, .dic ks vs => match dKey x with
    | some k => .ok (.bl (!(look ks vs k).isSome)) σ
    | none => .bad
  | .isin, .str x, .rod ks vs => .ok (.bl (look (ks.map .inr) vs (.inr x)).isSome) σ
  | .notin, .str x, .rod ks vs => .ok (.bl (!(look (ks.map .inr) vs (.inr x)).isSome)) σ
  | .isin, x, .lst ys => if cmpable x && cmpable (.lst ys) then .ok (.bl (ys.any fun y => PyData.eqv y.py x.py)) σ else .bad
  | .notin, x, .lst ys => if cmpable x && cmpable (.lst ys) then .ok (.bl (!ys.any fun y => PyData.eqv y.py x.py)) σ else .bad
  | .isin, x, .tup ys => if cmpable x && cmpable (.tup ys) then .ok (.bl (ys.any fun y => PyData.eqv y.py x.py)) σ else .bad
  | .notin, x, .tup ys => if cmpable x && cmpable (.tup ys) then .ok (.bl (!ys.any fun y => PyData.eqv y.py x.py)) σ else .bad
  | .is, x, .non => .ok (.bl (isNonD x)) σ
  | .isnot, x, .non => .ok (.bl (!isNonD x)) σ
  | _, _, _ => .bad
def idxD (a i : D) (σ : Store) : Res D := match view σ a, i with
  | .ro xs, .int i => match atI xs i with
    | some d => .ok d σ
    | none => .bad
  | .lst xs, .int i => match atI xs i with
    | some d => .ok d σ
    | none => .bad
  | .tup xs, .int i => match atI xs i with
    | some d => .ok d σ
    | none => .bad
  | .str x, .int i => if x.length ≤ lim then (match atI x.cps.toList i with
    | some c => .ok (.str ⟨#[c]⟩) σ
    | none => .bad) else .bad
  | .dic ks vs, k => match dKey k with
    | some k => (match look ks vs k with
      | some d => .ok d σ
      | none => .bad)
    | none => .bad
  | .rod ks vs, .str x => (match look (ks.map .inr) vs (.inr x) with
    | some d => .ok d σ
    | none => .bad)
  | _, _ => .bad
def optI : D → Option (Option Int)
  | .non => some none
  | .int i => some (some i)
  | _ => none
def cutL {α : Type} (xs : List α) (lo hi : Option Int) : List α := (xs.drop (HT.sIx xs.length 0 lo)).take (HT.sIx xs.length xs.length hi - HT.sIx xs.length 0 lo)
def sliceD (mu : Bool) (a : D) (lo hi : D) (σ : Store) : Res D := match view σ a, optI lo, optI hi with
  | .lst xs, some l, some h => newL mu (cutL xs l h) σ
  | .ro xs, some l, some h => newL mu (cutL xs l h) σ
  | .tup xs, some l, some h => newT (cutL xs l h) σ
  | .str x, some l, some h => if x.length ≤ lim then .ok (.str ⟨(cutL x.cps.toList l h).toArray⟩) σ else .bad
  | _, _, _ => .bad
def revD (mu : Bool) (a : D) (σ : Store) : Res D := match view σ a with
  | .lst xs => newL mu xs.reverse σ
  | .ro xs => newL mu xs.reverse σ
  | _ => .bad
def strsOf : List D → Option (List Str)
  | [] => some []
  | .str x :: r => (strsOf r).map (x :: ·)
  | _ :: _ => none
def intsOf : List D → Option (List Int)
  | [] => some []
  | .int x :: r => (intsOf r).map (x :: ·)
  | _ :: _ => none
def blsOf : List D → Option (List Bool)
  | [] => some []
  | .bl x :: r => (blsOf r).map (x :: ·)
  | _ :: _ => none
/-- pairs for dict(..) -/
def pairsOf : List D → Option (List (Key × D))
  | [] => some []
  | .tup [k, v] :: r => match dKey k with
    | some k => (pairsOf r).map ((k, v) :: ·)
    | none => none
  | .it [k, v] :: r => match dKey k with
    | some k => (pairsOf r).map ((k, v) :: ·)
    | none => none
  | _ :: _ => none
def putD (kvs : List (Key × D)) (k : Key) (v : D) : List (Key × D) :=
  if (kvs.any fun kv => decide (kv.1 = k)) = true then kvs.map (fun kv => if kv.1 = k then (kv.1, v) else kv) else kvs ++ [(k, v)]
def mergeD (kvs more : List (Key × D)) : List (Key × D) := more.foldl (fun acc kv => putD acc kv.1 kv.2) kvs
def sortS (xs : List Str) : List Str := xs.mergeSort fun a b => !strLt b a
/-- the first items, texts, of tuples -/
def fstsOf : List D → Option (List Str)
  | [] => some []
  | .tup (.str x :: _) :: r => (fstsOf r).map (x :: ·)
  | _ :: _ => none
def sortT (fs : List Str) (xs : List D) : List D := ((fs.zip xs).mergeSort fun a b => !strLt b.1 a.1).map (·.2)
def reprOk (d : D) : Bool := d.pure && d.py.showable && decide (d.py.shown.length ≤ lim) && decide (d.py.depth ≤ 100)
def biD (b : Bi) (mu : Bool) (a : D) (σ : Store) : Res D := match b, view σ a with
  | .len, .lst xs => .ok (.int xs.length) σ
  | .len, .ro xs => .ok (.int xs.length) σ
  | .len, .tup xs => .ok (.int xs.length) σ
  | .len, .str x => if x.length ≤ lim then .ok (.int x.length) σ else .bad
  | .len, .dic ks _ => .ok (.int ks.length) σ
  | .list, .lst xs => newL mu xs σ
  | .list, .ro xs => newL mu xs σ
  | .list, .tup xs => newL mu xs σ
  | .list, .dic ks _ => newL mu (ks.map keyD) σ
  | .tuple, .lst xs => newT xs σ
  | .tuple, .ro xs => newT xs σ
  | .tuple, .tup xs => .ok (.tup xs) σ
  | .int, .int i => .ok (.int i) σ
  | .int, .bl k => .ok (.int (if k then 1 else 0)) σ
  | .abs, .int i => .ok (.int (if i < 0 then -i else i)) σ
  | .str, .int i => if i.natAbs.log2 < 1920 then .ok (.str (toString i)) σ else .bad
  | .repr, d => if reprOk d then .ok (.str d.py.shown) σ else .bad
  | .all, .lst xs => match blsOf xs with
    | some bs => .ok (.bl (bs.all id)) σ
    | none => .bad
  | .any, .lst xs => match blsOf xs with
    | some bs => .ok (.bl (bs.any id)) σ
    | none => .bad
  | .sum, .lst xs => match intsOf xs with
    | some ns => .ok (.int ns.sum) σ
    | none => .bad
  | .sorted, .lst xs => match strsOf xs with
    | some ss => newL mu ((sortS ss).map D.str) σ
    | none => match fstsOf xs with
      | some fs => if fs.Nodup then newL mu (sortT fs xs) σ else .bad
      | none => .bad
  | .sorted, .dic ks _ => match strsOf (ks.map keyD) with
    | some ss => newL mu ((sortS ss).map D.str) σ
    | none => .bad
  | .sorted, .set ss => newL mu ((sortS ss).map D.str) σ
  | .set, .lst xs => match strsOf xs with
    | some ss => if ss.length < 1000 then .ok (.set ss.eraseDups) σ else .bad
    | none => .bad
  | .dict, .lst xs => match pairsOf xs with
    | some kvs => newD mu ((mergeD [] kvs).map (·.1)) ((mergeD [] kvs).map (·.2)) σ
    | none => .bad
  | .dict, .tup xs => match pairsOf xs with
    | some kvs => newD mu ((mergeD [] kvs).map (·.1)) ((mergeD [] kvs).map (·.2)) σ
    | none => .bad
  | _, _ => .bad
def isTy : Ty → D → Bool
  | .str, .str _ => true
  | .tup, .tup _ => true
  | .int, .int _ => true
  | .int, .bl _ => true
  | .bool, .bl _ => true
  | .list, .lst _ => true
  | .list, .ro _ => true
  | .dict, .dic _ _ => true
  | _, _ => false
/-- attributes -/
def putO (f : Str) (v : D) : List (Str × D) → List (Str × D)
  | [] => [(f, v)]
  | (g, x) :: r => if g = f then (g, v) :: r else (g, x) :: putO f v r
def fldC (x : Str) (c : Option Cell) (σ : Store) : Res D := match c with
  | some (.obj _ fs) => match fs.lookup x with
    | some d => .ok d σ
    | none => .bad
  | _ => .bad
def fldD (o : D) (x : Str) (σ : Store) : Res D := match o with
  | .ref n => fldC x σ[n]? σ
  | _ => .bad
/-- is it an instance of the class -/
def isObjC (c : Str) : Option Cell → Bool
  | some (.obj c' _) => decide (c' = c)
  | _ => false
def isObj (c : Str) (o : D) (σ : Store) : Bool := match o with
  | .ref n => isObjC c σ[n]?
  | _ => false
def putFC (c x : Str) (n : Nat) (v : D) (o : Option Cell) (σ : Store) : Option Store := match o with
  | some (.obj c' fs) => if c' = c ∧ fs.length < 1000 then some (σ.set n (.obj c (putO x v fs))) else none
  | _ => none
def putFld (c x : Str) (o v : D) (σ : Store) : Option Store := match o with
  | .ref n => putFC c x n v σ[n]? σ
  | _ => none
def meD (m : Me) (o : D) (ds : List D) (σ : Store) : Res D := match m, o, ds with
  | .append, .ref n, [d] => match σ[n]? with
    | some (.lst xs) => if xs.length < lim then .ok .non (σ.set n (.lst (xs ++ [d]))) else .bad
    | _ => .bad
  | .pop, .ref n, [] => match σ[n]? with
    | some (.lst xs) => match xs[xs.length - 1]? with
      | some d => .ok d (σ.set n (.lst xs.dropLast))
      | none => .bad
    | _ => .bad
  | .pop, .ref n, [.int i] => match σ[n]? with
    | some (.lst xs) => if 0 ≤ i ∧ i < 2 ^ 62 then (match xs[i.toNat]? with
      | some d => .ok d (σ.set n (.lst (xs.eraseIdx i.toNat)))
      | none => .bad) else .bad
    | _ => .bad
  | .split, .str x, [.str y] => if y.length ≠ 0 ∧ x.length + 2 ≤ lim then newL false ((Txt.split x y).map D.str) σ else .bad
  | .extend, .ref n, [d] => match σ[n]?, view σ d with
    | some (.lst xs), .lst ys => if xs.length + ys.length ≤ lim then .ok .non (σ.set n (.lst (xs ++ ys))) else .bad
    | _, _ => .bad
  | .get, o, [k] => match view σ o, dKey k with
    | .dic ks vs, some k => .ok ((look ks vs k).getD .non) σ
    | .rod ks vs, some (.inr x) => .ok ((look (ks.map .inr) vs (.inr x)).getD .non) σ
    | _, _ => .bad
  | .get, o, [k, d] => match view σ o, dKey k with
    | .dic ks vs, some k => .ok ((look ks vs k).getD d) σ
    | _, _ => .bad
  | .join, .str x, [d] => match view σ d with
    | .lst xs => match strsOf xs with
      | some ss => if (ss.map (·.length)).sum + ss.length * x.length ≤ lim then .ok (.str (Txt.join x ss)) σ else .bad
      | none => .bad
    | _ => .bad
  | _, _, _ => .bad
def meOk : Me → D → Bool
  | .append, .lst _ => true
  | .pop, .lst _ => true
  | .extend, .lst _ => true
  | .get, .dic _ _ => true
  | .get, .rod _ _ => true
  | .join, .str _ => true
  | .split, .str _ => true
  | _, _ => false
def isiD (ts : List Ty) (x : D) (σ : Store) : Res D := match view σ x with
  | .set _ => .bad
  | .it _ => .bad
  | .rod _ _ => .bad
  | .gv _ => .bad
  | .ref _ => .bad
  | y => .ok (.bl (ts.any fun t => isTy t y)) σ
def putAt (o k v : D) (σ : Store) : Option Store := match o with
  | .ref n => match σ[n]? with
    | some (.lst xs) => match k with
      | .int i => match ixN xs.length i with
        | some j => some (σ.set n (.lst (xs.set j v)))
        | none => none
      | _ => none
    | some (.dic ks vs) => match dKey k with
      | some k => if ks.length < lim then some (σ.set n (.dic ((putD (ks.zip vs) k v).map (·.1)) ((putD (ks.zip vs) k v).map (·.2)))) else none
      | none => none
    | _ => none
  | _ => none
/-- targets -/
def setAll : List Nat → List D → Env → Option Env
  | [], [], ρ => some ρ
  | i :: is, d :: ds, ρ => setAll is ds (ρ.set i (some d))
  | _, _, _ => none
def tgD (t : Tg) (d : D) (ρ : Env) : Option Env := match t with
  | .nm i => some (ρ.set i (some d))
  | .tup is => match d with
    | .tup ds => setAll is ds ρ
    | .it ds => setAll is ds ρ
    | _ => none
/-- two lists, two tuples that stay -/
def seqDD : D → D → Option (List D × List D)
  | .lst xs, .lst ys => some (xs, ys)
  | .lst xs, .ro ys => some (xs, ys)
  | .ro xs, .lst ys => some (xs, ys)
  | .ro xs, .ro ys => some (xs, ys)
  | .tup xs, .tup ys => some (xs, ys)
  | _, _ => none
def zipD (p : List D × List D) : List D := (p.1.zip p.2).map fun p => D.it [p.1, p.2]
/-- a list, a tuple that stays -/
def seq1 : D → Option (List D)
  | .lst xs => some xs
  | .ro xs => some xs
  | .tup xs => some xs
  | _ => none
def enumD (xs : List D) : List D := xs.zipIdx.map fun p => D.it [.int (p.2 : Nat), p.1]
def rngOf : List D → Option (List D)
  | [.int n] => if -(2 ^ 62) ≤ n ∧ n ≤ 16777216 then some ((List.range n.toNat).map fun (i : Nat) => D.int (i : Int)) else none
  | [.int a, .int b] => if -(2 ^ 62) ≤ a ∧ a < 2 ^ 62 ∧ -(2 ^ 62) ≤ b ∧ b < 2 ^ 62 ∧ (b - a).toNat ≤ 16777216 then some ((List.range (b - a).toNat).map fun (i : Nat) => D.int (a + (i : Int))) else none
  | _ => none
/-- the parts of an f-string put together -/
def fjoin : List D → Str → Option Str
  | [], acc => some acc
  | .str x :: r, acc => if x.length ≤ lim ∧ (acc ++ x).length ≤ lim then fjoin r (acc ++ x) else none
  | .int i :: r, acc => if i.natAbs.log2 < 1920 ∧ (acc ++ toString i : Str).length ≤ lim then fjoin r (acc ++ (toString i : Str)) else none
  | _, _ => none
def itemsOf (σ : Store) (k : IK) (ds : List D) : Option (List D) := match k, ds with
  | .on, [.lst xs] => some xs
  | .on, [.ro xs] => some xs
  | .on, [.tup xs] => some xs
  | .on, [.str x] => some (x.cps.toList.map fun c => D.str ⟨#[c]⟩)
  | .zip, [a, b] => (seqDD a b).map zipD
  | .enu, [a] => (seq1 a).map enumD
  | .rng, [.int n] => if n < 2 ^ 62 ∧ -(2 ^ 62) ≤ n then some ((List.range n.toNat).map fun (i : Nat) => D.int (i : Int)) else none
  | .rng2, [.int a, .int b] => if -(2 ^ 62) ≤ a ∧ a < 2 ^ 62 ∧ -(2 ^ 62) ≤ b ∧ b < 2 ^ 62 then some ((List.range (b - a).toNat).map fun (i : Nat) => D.int (a + (i : Int))) else none
  | _, _ => none
def wipeE (ρ : Env) : List Nat → Env
  | [] => ρ
  | v :: vs => (wipeE ρ vs).set v none
/-- a comprehension's loop: acc, what is made so far -/
def compL (t : Tg) (c elt : Env → Store → Res D) (ρ : Env) : List D → List D → Store → Res (List D)
  | [], acc, σ => .ok acc σ
  | d :: ds, acc, σ => match tgD t d ρ with
    | none => .bad
    | some ρ' => match c ρ' σ with
      | .ok b σ1 => match truthD (view σ1 b) with
        | some true => match elt ρ' σ1 with
          | .ok v σ2 => if acc.length < lim then compL t c elt ρ ds (acc ++ [v]) σ2 else .bad
          | _ => .bad
        | some false => compL t c elt ρ ds acc σ1
        | none => .bad
      | _ => .bad
/-- a dict comprehension's loop -/
def dcompL (t : Tg) (c kx vx : Env → Store → Res D) (ρ : Env) : List D → List (Key × D) → Store → Res (List (Key × D))
  | [], acc, σ => .ok acc σ
  | d :: ds, acc, σ => match tgD t d ρ with
    | none => .bad
    | some ρ' => match c ρ' σ with
      | .ok b σ1 => match truthD (view σ1 b) with
        | some true => match kx ρ' σ1 with
          | .ok kd σ2 => match vx ρ' σ2 with
            | .ok v σ3 => match dKey kd with
              | some k => if acc.length < lim then dcompL t c kx vx ρ ds (putD acc k v) σ3 else .bad
              | none => .bad
            | _ => .bad
          | _ => .bad
        | some false => dcompL t c kx vx ρ ds acc σ1
        | none => .bad
      | _ => .bad
abbrev CallSem := Nat → List D → Store → Res D
/-- the keyword arguments' order: pm lists, for each parameter, which argument it is -/
def permD (ds : List D) (pm : List Nat) : Option (List D) := pm.mapM fun i => ds[i]?
def Ex.isStar : Ex → Bool
  | .star _ => true
  | _ => false
/-- k1, v1, k2, v2, .. -/
def pairUp : List D → Option (List (Key × D))
  | [] => some []
  | k :: v :: r => match dKey k with
    | some k => (pairUp r).map ((k, v) :: ·)
    | none => none
  | _ => none
def splice (st : Bool) (x : D) (σ : Store) : Option (List D) := match st with
  | false => some [x]
  | true => match view σ x with
    | .lst xs => some xs
    | .tup xs => some xs
    | _ => none
mutual
def ev (Φ : CallSem) : Ex → Env → Store → Res D
  | .nop, _, σ => .ok .non σ
  | .loc i, ρ, σ => match ρ[i]? with
    | some (some d) => .ok d σ
    | _ => .bad
  | .non, _, σ => .ok .non σ
  | .bl b, _, σ => .ok (.bl b) σ
  | .int i, _, σ => .ok (.int i) σ
  | .str x, _, σ => .ok (.str x) σ
  | .glo _ d, _, σ => .ok d σ
  | .bin op a b, ρ, σ => (ev Φ a ρ σ).bind fun x σ1 => (ev Φ b ρ σ1).bind fun y σ2 => binD op x y σ2
  | .neg a, ρ, σ => (ev Φ a ρ σ).bind fun x σ1 => match x with
    | .int i => .ok (.int (-i)) σ1
    | _ => .bad
  | .cmp op a b, ρ, σ => (ev Φ a ρ σ).bind fun x σ1 => (ev Φ b ρ σ1).bind fun y σ2 => cmpD op x y σ2
  | .chain op op' a b c, ρ, σ => (ev Φ a ρ σ).bind fun x σ1 => (ev Φ b ρ σ1).bind fun y σ2 => (cmpD op x y σ2).bind fun r σ3 => match r with
    | .bl true => (ev Φ c ρ σ3).bind fun z σ4 => cmpD op' y z σ4
    | .bl false => .ok (.bl false) σ3
    | _ => .bad
  | .and a b, ρ, σ => (ev Φ a ρ σ).bind fun x σ1 => match truthD (view σ1 x) with
    | some true => ev Φ b ρ σ1
    | some false => .ok x σ1
    | none => .bad
  | .or a b, ρ, σ => (ev Φ a ρ σ).bind fun x σ1 => match truthD (view σ1 x) with
    | some true => .ok x σ1
    | some false => ev Φ b ρ σ1
    | none => .bad
  | .not a, ρ, σ => (ev Φ a ρ σ).bind fun x σ1 => match truthD (view σ1 x) with
    | some b => .ok (.bl (!b)) σ1
    | none => .bad
  | .ite c a b, ρ, σ => (ev Φ c ρ σ).bind fun x σ1 => match truthD (view σ1 x) with
    | some true => ev Φ a ρ σ1
    | some false => ev Φ b ρ σ1
    | none => .bad
  | .tup es, ρ, σ => (evs Φ es ρ σ).bind fun ds σ1 => newT ds σ1
  | .lst mu es, ρ, σ => (evs Φ es ρ σ).bind fun ds σ1 => newL mu ds σ1
  | .dic mu kvs, ρ, σ => (evs Φ kvs ρ σ).bind fun ds σ1 => match pairUp ds with
    | some kvs => if kvs.length ≤ 15 then newD mu ((mergeD [] kvs).map (·.1)) ((mergeD [] kvs).map (·.2)) σ1 else .bad
    | none => .bad
  | .star a, ρ, σ => ev Φ a ρ σ
  | .idx a i, ρ, σ => (ev Φ a ρ σ).bind fun x σ1 => (ev Φ i ρ σ1).bind fun y σ2 => idxD x y σ2
  | .slice mu a lo hi, ρ, σ => (ev Φ a ρ σ).bind fun x σ1 => (ev Φ lo ρ σ1).bind fun l σ2 => if (optI l).isSome then (ev Φ hi ρ σ2).bind fun h σ3 => if (optI h).isSome then sliceD mu x l h σ3 else .bad else .bad
  | .rev mu a, ρ, σ => (ev Φ a ρ σ).bind fun x σ1 => revD mu x σ1
  | .call f es ks dv pm, ρ, σ => (evs Φ es ρ σ).bind fun xs σ1 => (evs Φ ks ρ σ1).bind fun ys σ2 => match permD (xs ++ ys ++ dv) pm with
    | some ds => Φ f ds σ2
    | none => .bad
  | .bi b mu a, ρ, σ => (ev Φ a ρ σ).bind fun x σ1 => biD b mu x σ1
  | .isi a ts, ρ, σ => (ev Φ a ρ σ).bind fun x σ1 => isiD ts x σ1
  | .me m o es, ρ, σ => (ev Φ o ρ σ).bind fun x σ1 => if meOk m (view σ1 x) then (evs Φ es ρ σ1).bind fun ds σ2 => meD m x ds σ2 else .bad
  | .comp mu own t k its c elt, ρ, σ => (evs Φ its ρ σ).bind fun ds σ1 => match itemsOf σ1 k ds with
    | some xs => (compL t (ev Φ c) (ev Φ elt) (wipeE ρ own) xs [] σ1).bind fun ys σ2 => newL mu ys σ2
    | none => .bad
  | .dcomp mu own t k its c kx vx, ρ, σ => (evs Φ its ρ σ).bind fun ds σ1 => match itemsOf σ1 k ds with
    | some xs => (dcompL t (ev Φ c) (ev Φ kx) (ev Φ vx) (wipeE ρ own) xs [] σ1).bind fun kvs σ2 => newD mu (kvs.map (·.1)) (kvs.map (·.2)) σ2
    | none => .bad
  | .fld o x, ρ, σ => (ev Φ o ρ σ).bind fun y σ1 => fldD y x σ1
  | .mk c f es ks dv pm, ρ, σ => (evs Φ es ρ σ).bind fun xs σ1 => (evs Φ ks ρ σ1).bind fun ys σ2 => match permD (.ref σ2.length :: (xs ++ ys ++ dv)) pm with
    | some ds => (Φ f ds (σ2 ++ [.obj c []])).bind fun r σ3 => match r with
      | .non => .ok (.ref σ2.length) σ3
      | _ => .bad
    | none => .bad
  | .mcall c _ f o es ks dv pm, ρ, σ => (ev Φ o ρ σ).bind fun x σ1 => if isObj c x σ1 then (evs Φ es ρ σ1).bind fun xs σ2 => (evs Φ ks ρ σ2).bind fun ys σ3 => match permD (x :: (xs ++ ys ++ dv)) pm with
      | some ds => Φ f ds σ3
      | none => .bad
    else .bad
  | .mcallS c _ f np o e, ρ, σ => (ev Φ o ρ σ).bind fun x σ1 => if isObj c x σ1 then (ev Φ e ρ σ1).bind fun y σ2 => match y with
      | .tup ys => if ys.length + 1 = np then Φ f (x :: ys) σ2 else .bad
      | _ => .bad
    else .bad
  | .rgs tp mu es, ρ, σ => (evs Φ es ρ σ).bind fun ds σ1 => match rngOf ds with
    | some xs => if tp then newT xs σ1 else newL mu xs σ1
    | none => .bad
  | .fstr es, ρ, σ => match evs Φ es ρ σ with
    | .ok ds σ1 => (match fjoin ds Str.empty with
      | some x => .ok (.str x) σ1
      | none => .bad)
    | _ => .bad
def evs (Φ : CallSem) : List Ex → Env → Store → Res (List D)
  | [], _, σ => .ok [] σ
  | e :: es, ρ, σ => (ev Φ e ρ σ).bind fun x σ1 => match splice e.isStar x σ1 with
    | some xs => (evs Φ es ρ σ1).bind fun ds σ2 => .ok (xs ++ ds) σ2
    | none => .bad
end
/-! ### statements -/
inductive Out where
  | nx (ρ : Env) (σ : Store) | rt (d : D) (σ : Store) | bk (ρ : Env) (σ : Store) | ct (ρ : Env) (σ : Store)
  | exc (c : Nat) (d : D) (σ : Store) | bad
def Out.of {α : Type} (r : Res α) (f : α → Store → Out) : Out := match r with
  | .ok a σ => f a σ
  | .exc c d σ => .exc c d σ
  | .bad => .bad
/-- for: the items left -/
def forL (t : Tg) (b : Env → Store → Out) : List D → Env → Store → Out
  | [], ρ, σ => .nx ρ σ
  | d :: ds, ρ, σ => match tgD t d ρ with
    | none => .bad
    | some ρ1 => match b ρ1 σ with
      | .nx ρ2 σ2 => forL t b ds ρ2 σ2
      | .ct ρ2 σ2 => forL t b ds ρ2 σ2
      | .bk ρ2 σ2 => .nx ρ2 σ2
      | o => o
def whlN (c : Env → Store → Res D) (b : Env → Store → Out) : Nat → Env → Store → Out
  | 0, _, _ => .bad
  | n + 1, ρ, σ => Out.of (c ρ σ) fun x σ1 => match truthD (view σ1 x) with
    | some true => match b ρ σ1 with
      | .nx ρ2 σ2 => whlN c b n ρ2 σ2
      | .ct ρ2 σ2 => whlN c b n ρ2 σ2
      | .bk ρ2 σ2 => .nx ρ2 σ2
      | o => o
    | some false => .nx ρ σ1
    | none => .bad
/-- a bound of the turns of every while -/
def whFuel : Nat := 1000000000
mutual
def ex (Φ : CallSem) : Stt → Env → Store → Out
  | .asg t e, ρ, σ => Out.of (ev Φ e ρ σ) fun x σ1 => match tgD t x ρ with
    | some ρ1 => .nx ρ1 σ1
    | none => .bad
  | .par i j a b, ρ, σ => Out.of (ev Φ a ρ σ) fun x σ1 => Out.of (ev Φ b ρ σ1) fun y σ2 => .nx ((ρ.set i (some x)).set j (some y)) σ2
  | .put o k e, ρ, σ => Out.of (ev Φ e ρ σ) fun x σ1 => Out.of (ev Φ o ρ σ1) fun y σ2 => Out.of (ev Φ k ρ σ2) fun z σ3 => match putAt y z x σ3 with
    | some σ4 => .nx ρ σ4
    | none => .bad
  | .exp e, ρ, σ => Out.of (ev Φ e ρ σ) fun _ σ1 => .nx ρ σ1
  | .ret e, ρ, σ => Out.of (ev Φ e ρ σ) fun x σ1 => .rt x σ1
  | .ite c a b, ρ, σ => Out.of (ev Φ c ρ σ) fun x σ1 => match truthD (view σ1 x) with
    | some true => exs Φ a ρ σ1
    | some false => exs Φ b ρ σ1
    | none => .bad
  | .whl c b, ρ, σ => whlN (ev Φ c) (exs Φ b) whFuel ρ σ
  | .for t k its b, ρ, σ => Out.of (evs Φ its ρ σ) fun ds σ1 => match itemsOf σ1 k ds with
    | some xs => forL t (exs Φ b) xs ρ σ1
    | none => .bad
  | .brk, ρ, σ => .bk ρ σ
  | .cont, ρ, σ => .ct ρ σ
  | .pass, ρ, σ => .nx ρ σ
  | .frz i, ρ, σ => match ρ[i]? with
    | some (some (.ref n)) => match σ[n]? with
      | some (.lst xs) => .nx (ρ.set i (some (.lst xs))) (σ.set n .dead)
      | some (.dic ks vs) => .nx (ρ.set i (some (.dic ks vs))) (σ.set n .dead)
      | _ => .bad
    | _ => .bad
  | .sfld c o x e, ρ, σ => Out.of (ev Φ e ρ σ) fun v σ1 => Out.of (ev Φ o ρ σ1) fun y σ2 => match putFld c x y v σ2 with
    | some σ3 => .nx ρ σ3
    | none => .bad
  | .never, _, _ => .bad
def exs (Φ : CallSem) : List Stt → Env → Store → Out
  | [], ρ, σ => .nx ρ σ
  | s :: ss, ρ, σ => match ex Φ s ρ σ with
    | .nx ρ1 σ1 => exs Φ ss ρ1 σ1
    | o => o
end
/-! ### defs -/
structure Fd where
  np : Nat
  ns : Nat
  body : List Stt
mutual
def D.same : D → D → Bool
  | .non, .non => true
  | .bl a, .bl b => a == b
  | .int a, .int b => decide (a = b)
  | .str a, .str b => decide (a = b)
  | .tup a, .tup b => D.sames a b
  | .it a, .it b => D.sames a b
  | .lst a, .lst b => D.sames a b
  | .dic ks a, .dic ls b => decide (ks = ls) && D.sames a b
  | .set a, .set b => decide (a = b)
  | .ro a, .ro b => D.sames a b
  | .rod ks a, .rod ls b => decide (ks = ls) && D.sames a b
  | .gv a, .gv b => decide (a = b)
  | .ref a, .ref b => decide (a = b)
  | _, _ => false
def D.sames : List D → List D → Bool
  | [], [] => true
  | a :: as, b :: bs => D.same a b && D.sames as bs
  | _, _ => false
end
mutual
theorem D.same_eq : ∀ {a b : D}, D.same a b = true → a = b
  | .non, b, h => by cases b <;> simp only [D.same, Bool.false_eq_true] at h; rfl
  | .bl x, b, h => by cases b <;> simp only [D.same, Bool.false_eq_true, beq_iff_eq] at h; rw [h]
  | .int x, b, h => by cases b <;> simp only [D.same, Bool.false_eq_true, decide_eq_true_eq] at h; rw [h]
  | .str x, b, h => by cases b <;> simp only [D.same, Bool.false_eq_true, decide_eq_true_eq] at h; rw [h]
  | .tup x, b, h => by cases b <;> simp only [D.same, Bool.false_eq_true] at h; rw [D.sames_eq h]
  | .it x, b, h => by cases b <;> simp only [D.same, Bool.false_eq_true] at h; rw [D.sames_eq h]
  | .ro x, b, h => by cases b <;> simp only [D.same, Bool.false_eq_true] at h; rw [D.sames_eq h]
  | .lst x, b, h => by cases b <;> simp only [D.same, Bool.false_eq_true] at h; rw [D.sames_eq h]
  | .dic _ _, b, h => by cases b <;> simp only [D.same, Bool.false_eq_true, Bool.and_eq_true, decide_eq_true_eq] at h; rw [h.1, D.sames_eq h.2]
  | .rod _ _, b, h => by cases b <;> simp only [D.same, Bool.false_eq_true, Bool.and_eq_true, decide_eq_true_eq] at h; rw [h.1, D.sames_eq h.2]
  | .set _, b, h => by cases b <;> simp only [D.same, Bool.false_eq_true, decide_eq_true_eq] at h; rw [h]
  | .gv _, b, h => by cases b <;> simp only [D.same, Bool.false_eq_true, decide_eq_true_eq] at h; rw [h]
  | .ref _, b, h => by cases b <;> simp only [D.same, Bool.false_eq_true, decide_eq_true_eq] at h; rw [h]
theorem D.sames_eq : ∀ {a b : List D}, D.sames a b = true → a = b
  | [], b, h => by cases b <;> simp only [D.sames, Bool.false_eq_true] at h; rfl
  | x :: xs, b, h => by
    cases b with
    | nil => simp only [D.sames, Bool.false_eq_true] at h
    | cons y ys =>
      simp only [D.sames, Bool.and_eq_true] at h
      rw [D.same_eq h.1, D.sames_eq h.2]
end
mutual
theorem D.same_rfl : ∀ a : D, D.same a a = true
  | .non => by simp only [D.same]
  | .bl x => by simp only [D.same, beq_self_eq_true]
  | .int x => by simp only [D.same, decide_true]
  | .str x => by simp only [D.same, decide_true]
  | .tup x => by simp only [D.same]; exact D.sames_rfl x
  | .it x => by simp only [D.same]; exact D.sames_rfl x
  | .ro x => by simp only [D.same]; exact D.sames_rfl x
  | .lst x => by simp only [D.same]; exact D.sames_rfl x
  | .dic _ x => by simp only [D.same, decide_true, Bool.true_and]; exact D.sames_rfl x
  | .rod _ x => by simp only [D.same, decide_true, Bool.true_and]; exact D.sames_rfl x
  | .set x => by simp only [D.same, decide_true]
  | .gv x => by simp only [D.same, decide_true]
  | .ref x => by simp only [D.same, decide_true]
theorem D.sames_rfl : ∀ a : List D, D.sames a a = true
  | [] => by simp only [D.sames]
  | x :: xs => by simp only [D.sames]; rw [D.same_rfl x, D.sames_rfl xs]; rfl
end
def Cell.same : Cell → Cell → Bool
  | .lst a, .lst b => D.sames a b
  | .dic ks a, .dic ls b => decide (ks = ls) && D.sames a b
  | .obj c fs, .obj d gs => decide (c = d) && decide (fs.map (·.1) = gs.map (·.1)) && D.sames (fs.map (·.2)) (gs.map (·.2))
  | .dead, .dead => true
  | _, _ => false
theorem Cell.same_rfl : ∀ c : Cell, Cell.same c c = true
  | .lst a => by simp only [Cell.same]; exact D.sames_rfl a
  | .dic ks a => by simp only [Cell.same, decide_true, Bool.true_and]; exact D.sames_rfl a
  | .obj c fs => by simp only [Cell.same, decide_true, Bool.true_and]; exact D.sames_rfl _
  | .dead => rfl
theorem Cell.same_eq : ∀ {a b : Cell}, Cell.same a b = true → a = b
  | .lst x, b, h => by cases b <;> simp only [Cell.same, Bool.false_eq_true] at h; rw [D.sames_eq h]
  | .dic _ _, b, h => by cases b <;> simp only [Cell.same, Bool.false_eq_true, Bool.and_eq_true, decide_eq_true_eq] at h; rw [h.1, D.sames_eq h.2]
  | .dead, b, h => by cases b <;> simp only [Cell.same, Bool.false_eq_true] at h; rfl
  | .obj c fs, b, h => by
    cases b with
    | obj d gs =>
      simp only [Cell.same, Bool.and_eq_true, decide_eq_true_eq] at h
      obtain ⟨⟨h1, h2⟩, h3⟩ := h
      replace h3 := D.sames_eq h3
      rw [h1]
      congr 1
      clear h1
      induction fs generalizing gs with
      | nil => cases gs <;> first | rfl | cases h2
      | cons p r ih =>
        cases gs with
        | nil => cases h2
        | cons q t =>
          rw [List.map_cons, List.map_cons] at h2 h3
          injection h2 with a1 a2
          injection h3 with b1 b2
          rw [ih t a2 b2, Prod.ext a1 b1]
    | _ => simp only [Cell.same, Bool.false_eq_true] at h
/-- may a call's own cells be dropped behind it: nothing that stays leads to them -/
def dropOk (σ0 : Store) (d : D) (σ : Store) : Bool := d.under σ0.length && (List.range σ0.length).all fun i => match σ[i]? with
  | some c => (match σ0[i]? with
    | some c0 => Cell.same c c0
    | none => false) || c.under σ0.length
  | none => true
theorem dropOk_iff {σ0 σ : Store} {d : D} : dropOk σ0 d σ = true ↔ d.under σ0.length = true ∧ ∀ i c, i < σ0.length → σ[i]? = some c → (σ0[i]? = some c ∨ c.under σ0.length = true) := by
  unfold dropOk
  rw [Bool.and_eq_true, List.all_eq_true]
  refine and_congr Iff.rfl ⟨fun h i c hi e => ?_, fun h i hi => ?_⟩
  · have := h i (List.mem_range.mpr hi)
    rw [e] at this
    dsimp only at this
    rw [Bool.or_eq_true] at this
    refine this.imp (fun q => ?_) id
    split at q
    · rename_i c0 e0
      rw [e0, Cell.same_eq q]
    · cases q
  · cases e : σ[i]? with
    | none => rfl
    | some c =>
      dsimp only
      rw [Bool.or_eq_true]
      refine (h i c (List.mem_range.mp hi) e).imp (fun q => ?_) id
      rw [q]
      exact Cell.same_rfl c
/-- behind a call: the callee's own cells are dropped where nothing leads to them -/
def leave (σ0 : Store) (d : D) (σ : Store) : Res D := if dropOk σ0 d σ = true then .ok d (σ.take σ0.length) else .ok d σ
def callK (pr : List Fd) : Nat → CallSem
  | 0, _, _, _ => .bad
  | k + 1, f, ds, σ => match pr[f]? with
    | none => .bad
    | some fd => if ds.length = fd.np then (match exs (callK pr k) fd.body (ds.map some ++ List.replicate (fd.ns - ds.length) none) σ with
      | .nx _ σ1 => leave σ .non σ1
      | .rt d σ1 => leave σ d σ1
      | .exc c d σ1 => .exc c d σ1
      | _ => .bad) else .bad
end Iv

set_option Elab.async false
set_option linter.all false
set_option maxRecDepth 100000
set_option maxHeartbeats 4000000
/-! sets of texts: made of a list, sorted -/
namespace Iv
open PySem PySem.Spec PyProof.Rows L2
def textOf (e : Int × Value) : Str := match e.2 with
  | .str x _ => x
  | _ => Str.empty
def GoodS (w : World) (e : Int × Value) : Prop := ∃ x tk, e.2 = Value.str x tk ∧ e.1 = hashStr w x
/-- the set of texts at a -/
def SetS (w : World) (h : Heap) (a : Addr) (S : Str → Bool) (n : Nat) : Prop :=
  ∃ o es ep t, h.get? a = some o ∧ o.ExactSet ∧ o.data = .set es ep t ∧ (∀ e ∈ es.toList, GoodS w e) ∧ (es.toList.map textOf).Nodup ∧ (∀ k, S k = true ↔ k ∈ es.toList.map textOf) ∧
    es.size < scanBound ∧ t.fits es.size = true ∧ es.size = n ∧ Ris t.place.toList ∧ (w.params.followText "set-order" = true ∨ t.led = true)
section
variable {P : Program} {w : World} {h h' : Heap} {a : Addr} {S : Str → Bool} {n : Nat}
theorem SetS.at (R : SetS w h a S n) (k : ∀ o, h.get? a = some o → h'.get? a = some o) : SetS w h' a S n :=
  let ⟨o, es, ep, t, ho, r⟩ := R
  ⟨o, es, ep, t, k o ho, r⟩
theorem SetS.congr {S' : Str → Bool} (R : SetS w h a S n) (e : ∀ k, S' k = S k) : SetS w h a S' n := by
  have q : S' = S := funext e
  rw [q]; exact R
theorem goodS_elems {l : List (Int × Value)} (g : ∀ e ∈ l, GoodS w e) : ElemsOf (PySem.strKind P w) l := fun e he => by
  obtain ⟨k, tk, h1, h2⟩ := g e he
  exact ⟨⟨k, by rw [h1]; exact PySem.strKind_is P w k tk, h2⟩, by rw [h1]; rfl⟩
theorem goodS_is {e : Int × Value} (g : GoodS w e) (k : Str) : (PySem.strKind P w).is k e.2 = true ↔ textOf e = k := by
  obtain ⟨k0, tk, h1, _⟩ := g
  unfold textOf
  rw [h1]
  show (Value.isStrOf k (.str k0 tk) = true) ↔ k0 = k
  constructor
  · intro q
    obtain ⟨t, e⟩ := Value.isStrOf_shape q
    cases e; rfl
  · intro q
    subst q
    exact PySem.strKind_is P w k0 tk
theorem goodS_mem {l : List (Int × Value)} (g : ∀ e ∈ l, GoodS w e) (k : Str) : k ∈ l.map textOf ↔ ∃ e ∈ l, (PySem.strKind P w).is k e.2 = true := by
  rw [List.mem_map]
  exact ⟨fun ⟨e, he, q⟩ => ⟨e, he, (goodS_is (g e he) k).2 q⟩, fun ⟨e, he, q⟩ => ⟨e, he, (goodS_is (g e he) k).1 q⟩⟩
end
section
variable {P : Program} {w : World} {A : Around} {E : Value → Shared → Prop} {s : Shared} {a : Addr} {S : Str → Bool} {n : Nat}
theorem setS_tail {g : Bool → Sem Unit} (hg : ∀ (b : Bool) (s₁ : Shared) (Q' : Unit → Shared → Prop), Q' () s₁ → wpAny (model P w) A (g b) Q' E s₁)
    {o : Obj} {es : Array (Int × Value)} {ep : Nat} {t : SetTable} (ho : s.heap.get? a = some o) (hex : o.ExactSet) (hd : o.data = .set es ep t)
    {es1 : Array (Int × Value)} {t2 : SetTable} {S' : Str → Bool} (g1 : ∀ e ∈ es1.toList, GoodS w e) (nd1 : (es1.toList.map textOf).Nodup) (m1 : ∀ k, S' k = true ↔ k ∈ es1.toList.map textOf)
    (hb1 : es1.size < scanBound) (hf2 : t2.fits es1.size = true) (hr : Ris t2.place.toList) (hl : w.params.followText "set-order" = true ∨ t2.led = true) {wasDummy : Bool} {R : Option Bool → Shared → Prop}
    (hR : ∀ h', Heap.SameBut a s.heap h' → SetS w h' a S' es1.size → R (some true) { s with heap := h' }) :
    wpAny (model P w) A (do
        storeSet a es1 t2
        if (!wasDummy && t2.tooFull) = true then do
            g (relayAll t2 es1 (SetTable.grown es1.size)).2.2
            storeSet a (relayAll t2 es1 (SetTable.grown es1.size)).1 (relayAll t2 es1 (SetTable.grown es1.size)).2.1
            pure (some true)
          else pure (some true)) R E s := by
  refine wpAny_bind (wpAny_storeSet_of ho hd ?_ (fits_of_scanBound hb1))
  have ho1 := store_at (es' := es1) (t' := t2) ho hd
  have sb1 := Heap.SameBut.update s.heap a (Obj.putSet es1 t2)
  split
  · have pm := relayAll_perm t2 es1 (SetTable.grown es1.size)
    have hf3 := relayAll_fits t2 es1 (SetTable.grown es1.size)
    have hr3 := relayAll_ris t2 es1 (SetTable.grown es1.size)
    have hl3 := relayAll_led t2 es1 (SetTable.grown es1.size)
    generalize relayAll t2 es1 (SetTable.grown es1.size) = Z at pm hf3 hr3 hl3 ⊢
    obtain ⟨es2, t3, gave⟩ := Z
    dsimp only at pm hf3 hr3 hl3 ⊢
    have hsz : es2.size = es1.size := by rw [← Array.length_toList, pm.length_eq, Array.length_toList]
    have hb2 : es2.size < scanBound := by rw [hsz]; exact hb1
    refine wpAny_bind (hg _ _ _ ?_)
    refine wpAny_bind (wpAny_storeSet_of ho1 rfl ?_ (fits_of_scanBound hb2))
    have ho2 := store_at (es' := es2) (t' := t3) ho1 rfl
    refine wpAny_pure (hR _ (sb1.trans (Heap.SameBut.update _ a _)) ?_)
    exact ⟨_, es2, _, t3, ho2, hex, rfl, fun e he => g1 e (pm.mem_iff.mp he), (pm.map textOf).nodup_iff.mpr nd1, fun k => (m1 k).trans (pm.map textOf).mem_iff.symm, hb2, hf3, hsz, hr3, hl.imp id fun z => by rw [hl3]; exact z⟩
  · exact wpAny_pure (hR _ sb1 ⟨_, es1, _, t2, ho1, hex, rfl, g1, nd1, m1, hb1, hf2, rfl, hr, hl⟩)
theorem setS_add {k : Str} {tk : Tok} {Q : Bool → Shared → Prop} (R : SetS w s.heap a S n) (room : n + 1 < scanBound)
    (hQ : ∀ h', Heap.SameBut a s.heap h' → SetS w h' a (fun j => S j || decide (j = k)) (if S k = true then n else n + 1) → Q (!S k) { s with heap := h' }) :
    wpAny (model P w) A (setAddHashed a (.str k tk) ((PySem.strKind P w).hash k)) Q E s := by
  obtain ⟨o, es, ep, t, ho, hex, hd, g, nd, hm, hb, hf, hn, hr, hl⟩ := R
  have hkey : (PySem.strKind P w).is k (.str k tk) = true := PySem.strKind_is P w k tk
  have hsc : (Value.str k tk).scannable = true := rfl
  have hel : ElemsOf (PySem.strKind P w) es.toList := goodS_elems g
  unfold setAddHashed setAddHashedIn
  refine wpAny_holding (wpAny_bind (wpAny_setState_of ho hd hf ?_))
  dsimp only
  rw [byScan_of hsc hb hel]
  simp only [↓reduceIte]
  unfold setAddByScan
  refine wpAny_bind ?_
  refine wpAny_bind (wpAny_rule ?_)
  refine wpAny_bind (wpAny_setScan_of hkey ho hd hf hel ?_)
  cases hfi : List.findIdx? (fun e => (PySem.strKind P w).is k e.2) es.toList with
  | some j =>
    dsimp only
    obtain ⟨hj, pj, _⟩ := List.findIdx?_eq_some_iff_getElem.mp hfi
    have hSk : S k = true := (hm k).2 ((goodS_mem (P := P) g k).2 ⟨es.toList[j], List.getElem_mem hj, pj⟩)
    refine wpAny_pure (wpAny_pure ?_)
    have q := hQ s.heap (Heap.SameBut.refl a s.heap) ⟨o, es, ep, t, ho, hex, hd, g, nd, fun i => by
      rw [Bool.or_eq_true, decide_eq_true_eq, ← hm i]
      exact ⟨fun z => z.elim id (fun e => e ▸ hSk), .inl⟩, hb, hf, by rw [if_pos hSk]; exact hn, hr, hl⟩
    rw [hSk] at q
    exact q
  | none =>
    dsimp only
    have hnk : k ∉ es.toList.map textOf := fun z => by
      obtain ⟨e, he, q⟩ := (goodS_mem (P := P) g k).1 z
      have c := List.findIdx?_eq_none_iff.mp hfi e he
      rw [q] at c
      cases c
    have hSk : S k = false := by
      cases q : S k with
      | false => rfl
      | true => exact absurd ((hm k).1 q) hnk
    have hgw : ∀ (b : Bool) {s₁ : Shared} {Q' : Unit → Shared → Prop}, Q' () s₁ → wpAny (model P w) A (match b with | true => rule "set.scan.the-table-gave-way" | false => pure ()) Q' E s₁ :=
      fun b s₁ Q' q => by cases b <;> first | exact wpAny_pure q | exact wpAny_rule q
    have pm := layNew_perm t es ((PySem.strKind P w).hash k) (.str k tk)
    have hf1 := layNew_fits t es ((PySem.strKind P w).hash k) (.str k tk)
    have hr1 := layNew_ris t es ((PySem.strKind P w).hash k) (.str k tk) hr
    have hl1 := layNew_led t es ((PySem.strKind P w).hash k) (.str k tk)
    generalize layNew t es ((PySem.strKind P w).hash k) (.str k tk) = Z at pm hf1 hr1 hl1 ⊢
    obtain ⟨es1, t1, wasDummy, gave⟩ := Z
    dsimp only at pm hf1 hr1 hl1 ⊢
    rw [Array.toList_push] at pm
    have pc : es1.toList.Perm (((PySem.strKind P w).hash k, Value.str k tk) :: es.toList) := pm.trans (List.perm_append_singleton _ _)
    have pk : (es1.toList.map textOf).Perm (k :: es.toList.map textOf) := pc.map textOf
    have g1 : ∀ e ∈ es1.toList, GoodS w e := fun e he => by
      rcases List.mem_cons.mp (pc.mem_iff.mp he) with z | z
      · rw [z]; exact ⟨k, tk, rfl, rfl⟩
      · exact g e z
    have nd1 : (es1.toList.map textOf).Nodup := pk.nodup_iff.mpr (List.nodup_cons.mpr ⟨hnk, nd⟩)
    have m1 : ∀ i, (S i || decide (i = k)) = true ↔ i ∈ es1.toList.map textOf := fun i => by
      rw [Bool.or_eq_true, decide_eq_true_eq, hm i, pk.mem_iff, List.mem_cons]
      exact Or.comm
    have hsz : es1.size = n + 1 := by rw [← Array.length_toList, pc.length_eq, List.length_cons, Array.length_toList, hn]
    have hb1 : es1.size < scanBound := by rw [hsz]; exact room
    have hled : w.params.followText "set-order" = true ∨ t1.led = true := hl.imp id fun z => by rw [hl1]; exact z
    have fin : ∀ h', Heap.SameBut a s.heap h' → SetS w h' a (fun j => S j || decide (j = k)) es1.size → Q true { s with heap := h' } := fun h' sb r => by
      have q := hQ h' sb
      rw [hSk] at q
      rw [hsz] at r
      exact q r
    refine wpAny_bind (hgw _ ?_)
    split
    · refine wpAny_bind ?_
      rw [hashByValue_scannable 8 hsc]
      refine wpAny_pure ?_
      refine setS_tail ?_ ho hex hd g1 nd1 m1 hb1 ?_ ?_ ?_ ?_
      · intro b s₁ Q' q; cases b <;> first | exact wpAny_pure q | exact wpAny_rule q
      · first | (split <;> first | exact hf1 | exact SetTable.fits_plain_off hf1) | exact hf1
      · first | (split <;> exact hr1) | exact hr1
      · first | (split <;> exact hled) | exact hled
      · intro h' sb r; dsimp only; exact wpAny_pure (fin h' sb r)
    · refine wpAny_bind (wpAny_pure ?_)
      simp only [↓reduceIte]
      refine setS_tail ?_ ho hex hd g1 nd1 m1 hb1 hf1 hr1 hled ?_
      · intro b s₁ Q' q; cases b <;> first | exact wpAny_pure q | exact wpAny_rule q
      · intro h' sb r; dsimp only; exact wpAny_pure (fin h' sb r)
theorem setS_fresh {h : Heap} {a : Addr} (ho : h.get? a = some { cls := .type "set", dict := none, data := .set #[] 0 (.fresh 0 0 (!w.params.followText "set-order")) }) : SetS w h a (fun _ => false) 0 :=
  ⟨_, #[], 0, _, ho, ⟨rfl, rfl, rfl⟩, rfl, (fun e he => by simp at he), (by simp), (fun k => by simp), (by decide), (by rfl), rfl, List.Pairwise.nil, by
    show _ ∨ (!w.params.followText "set-order") = true
    cases w.params.followText "set-order"
    · exact .inr rfl
    · exact .inl rfl⟩
/-- how many texts stand among the first i -/
theorem dups_step {xs : List Str} {i : Nat} {x : Str} (h : xs[i]? = some x) : (xs.take (i + 1)).eraseDups.length = if x ∈ xs.take i then (xs.take i).eraseDups.length else (xs.take i).eraseDups.length + 1 := by
  have e : xs.take (i + 1) = xs.take i ++ [x] := by
    rw [List.take_succ, h]; rfl
  rw [e, List.eraseDups_append]
  by_cases hm : x ∈ xs.take i
  · rw [if_pos hm]
    have : [x].removeAll (xs.take i) = [] := by simp [List.removeAll, hm]
    rw [this]; simp
  · rw [if_neg hm]
    have : [x].removeAll (xs.take i) = [x] := by simp [List.removeAll, hm]
    rw [this]; simp [List.eraseDups_cons]
theorem dups_le (xs : List Str) (i : Nat) : (xs.take i).eraseDups.length ≤ i := by
  have h1 : ∀ (n : Nat) (l : List Str), l.length ≤ n → l.eraseDups.length ≤ l.length := by
    intro n
    induction n with
    | zero => intro l hl; cases l with | nil => simp | cons => simp at hl
    | succ n ih =>
      intro l hl
      cases l with
      | nil => simp
      | cons x r =>
        rw [List.eraseDups_cons, List.length_cons, List.length_cons]
        have h2 := List.length_filter_le (fun b => !b == x) r
        have := ih (r.filter fun b => !b == x) (by simp at hl; omega)
        omega
  have := h1 _ (xs.take i) (Nat.le_refl _)
  have := List.length_take_le i xs
  omega
theorem loopSetS {I : Addr} {fp wr : List Addr} {G : Array GenState → Array GenState → Prop} {n : Nat} {Pv : Nat → Value → Prop} {St : Nat → Shared → Prop} {R : Result → Shared → Prop}
    (W : WalksS P w A.in1 I fp wr G n Pv St) (S : Addr) (hSf : S ∉ fp) (xs : List Str) (hsz : xs.length = n) (hn : n + 1 < scanBound) (hval : ∀ i v, Pv i v → ∃ x t, xs[i]? = some x ∧ v = .str x t) :
    ∀ (k i : Nat) (s : Shared), n - i = k → i ≤ n → St i s → SetS w s.heap S (fun y => decide (y ∈ xs.take i)) (xs.take i).eraseDups.length →
      (∀ s', Moved (S :: wr) G s s' → SetS w s'.heap S (fun y => decide (y ∈ xs.take n)) (xs.take n).eraseDups.length → R (.ok (.ret .none)) s') →
      codeAny (model P w) A (.builtin "set.update.loop" ⟨[.ref S, .ref I], []⟩) R s := by
  have hSw : S ∉ wr := fun h => hSf (W.sub _ h)
  have hsub : ∀ b ∈ wr, b ∈ S :: wr := fun b hb => List.mem_cons_of_mem _ hb
  intro k
  induction k with
  | zero =>
    intro i s hk hi hst hS hR
    have hin : i = n := by omega
    subst hin
    refine codeAny_builtin F.entry_set_update_loop ?_
    rw [Around.under_plainId F.plain_set_update_loop _]
    show wpAny _ A.in1 (pyNext (.ref I) >>= _) _ _ s
    refine wpAny_bind (W.done s _ _ hst fun s' hm => ?_)
    show wpAny _ A.in1 (ret Value.none) _ _ s'
    exact wpAny_pure (hR s' (hm.mono hsub) (hS.at fun o e => hm.heap S o hSw e))
  | succ k ih =>
    intro i s hk hi hst hS hR
    have hlt : i < n := by omega
    refine codeAny_builtin F.entry_set_update_loop ?_
    rw [Around.under_plainId F.plain_set_update_loop _]
    show wpAny _ A.in1 (pyNext (.ref I) >>= _) _ _ s
    refine wpAny_bind (W.item i s _ _ hlt hst fun v s' hP hst' hm => ?_)
    obtain ⟨x, t, hx, rfl⟩ := hval i v hP
    have hS' : SetS w s'.heap S (fun y => decide (y ∈ xs.take i)) (xs.take i).eraseDups.length := hS.at fun o e => hm.heap S o hSw e
    show wpAny _ A.in1 (holding [Value.str x t] (setAdd S (.str x t)) >>= _) _ _ s'
    refine wpAny_bind (wpAny_holding ?_)
    unfold setAdd
    refine wpAny_holding ?_
    refine wpAny_bind ((PySem.strKind P w).pyHash (k := x) (PySem.strKind_is _ _ _ _) ?_)
    refine setS_add (s := { s' with toks := s'.toks + 1 }) hS' (by have := dups_le xs i; omega) fun h' hsb hS2 => ?_
    have hSi : SetS w h' S (fun y => decide (y ∈ xs.take (i + 1))) (xs.take (i + 1)).eraseDups.length := by
      have e : xs.take (i + 1) = xs.take i ++ [x] := by rw [List.take_succ, hx]; rfl
      rw [dups_step hx]
      have q : (if decide (x ∈ xs.take i) = true then (xs.take i).eraseDups.length else (xs.take i).eraseDups.length + 1) = if x ∈ xs.take i then (xs.take i).eraseDups.length else (xs.take i).eraseDups.length + 1 := by simp
      rw [← q]
      refine hS2.congr fun y => ?_
      rw [e]
      simp only [List.mem_append, List.mem_singleton, Bool.decide_or]
    refine wpAny_pure ⟨plainId_quiet F.plain_set_update_loop _, ih (i + 1) _ (by omega) hlt (W.frame _ s' _ _ hst' (Nat.le_succ _) fun b hb o e => ?_) hSi fun s'' hm'' hS'' => ?_⟩
    · rw [hsb.2 b (fun h : b = S => hSf (by rw [← h]; exact hb))]; exact e
    · refine hR s'' (Moved.trans W.gtrans ((hm.mono hsub).then_heap (Nat.le_succ _) fun b o hb e => ?_) hm'') hS''
      rw [hsb.2 b (fun h : b = S => hb (by rw [h]; exact List.mem_cons_self))]; exact e
/-- set(a list of texts) -/
theorem call_set_texts {l : Addr} {items : Array Value} {xs : List Str} {Q : Value → Shared → Prop} (hh : A.handled = none) (hl : s.heap.IsList l items) (hi : StrsAre items.toList xs) (hfew : xs.length + 1 < scanBound)
    (h : ∀ (h' : Heap) (tk : Nat), SetS w h' s.heap.objs.size (fun y => decide (y ∈ xs)) xs.eraseDups.length → (∀ b o, s.heap.get? b = some o → h'.get? b = some o) → Q (.ref s.heap.objs.size) { s with heap := h', toks := tk }) :
    wpAny (model P w) A (call (.type "set") [.ref l]) Q E s := by
  have hsz : xs.length = items.size := by rw [← StrsAre.len_eq hi, Array.length_toList]
  obtain ⟨c, tl, hmro⟩ := F.called_set.mro
  have hmade := F.called_set.made
  have hsub := F.called_set.sub
  refine wpAny_call (codeAny_of_tree ?_)
  show wpAny _ _ (callAny (.type "set") _) _ _ _
  refine wpAny_pure ⟨Code.quiet_builtin _ (by decide +kernel), codeAny_builtin F.entry_type_call ?_⟩
  rw [Around.under_plain (weight_type_call_type "set" [.ref l] []) rfl]
  have h1 := F.called_set.notType
  have h2 := F.called_set.canCreate
  have hct := F.typeCall_set_1 (.ref l)
  repeat (any_goals (first | assumption | wp_step))
  refine codeAny_mono (code_set_led1 (.ref l) (E := E) (Q₁ := fun obj s₁ => obj = .ref s.heap.objs.size ∧ s₁ = { s with heap := s.heap.push { cls := .type "set", dict := none, data := .set #[] 0 (.fresh 0 0 (!w.params.followText "set-order")) } }) ⟨rfl, rfl⟩) fun r s₁ hr => ?_
  cases r with
  | error e => exact hr
  | ok fl =>
    cases fl with
    | ret obj =>
      obtain ⟨rfl, rfl⟩ := hr
      have hS : (s.heap.push { cls := .type "set", dict := none, data := .set #[] 0 (.fresh 0 0 (!w.params.followText "set-order")) }).get? s.heap.objs.size = some { cls := .type "set", dict := none, data := .set #[] 0 (.fresh 0 0 (!w.params.followText "set-order")) } := Heap.get?_push_size _ rfl
      have hT : Shared.TypeIs { s with heap := s.heap.push { cls := .type "set", dict := none, data := .set #[] 0 (.fresh 0 0 (!w.params.followText "set-order")) } } (.ref s.heap.objs.size) "set" := ⟨_, hS, rfl⟩
      have hli := F.called_set.init.lookup
      have hbi := F.called_set.init.bind (.ref s.heap.objs.size)
      repeat (any_goals (first | assumption | wp_step))
      refine codeAny_mono (codeAny_call_builtin (R := wants (fun r s₂ => r = .none ∧ ∃ h' tk, s₂ = { s with heap := h', toks := tk } ∧ SetS w h' s.heap.objs.size (fun y => decide (y ∈ xs)) xs.eraseDups.length ∧ (∀ b o, s.heap.get? b = some o → h'.get? b = some o)) E) F.called_set.init.plain F.entry_set_init (check_set_init_1 hT ?_)) fun r₂ s₂ hr₂ => ?_
      · obtain ⟨ol, hol, hcl, nl, hdl⟩ := hl
        obtain ⟨ocls, odict, odata, oslots⟩ := ol
        simp only at hcl hdl
        subst hcl; subst hdl
        have hol' : (s.heap.push { cls := .type "set", dict := none, data := .set #[] 0 (.fresh 0 0 (!w.params.followText "set-order")) }).get? l = some { cls := .type "list", dict := odict, data := .seq items nl, slots := oslots } := Heap.get?_push_of_some _ hol
        have hsls := F.sub_list_set
        have hslf := F.sub_list_frozenset
        have hne : (Value.type "list" == Value.type "dict") = false := by decide
        have hl1 : (s.heap.push { cls := .type "set", dict := none, data := .set #[] 0 (.fresh 0 0 (!w.params.followText "set-order")) }).IsList l items := ⟨_, hol', rfl, nl, rfl⟩
        unfold Builtin.«set.__init__» noKeywords Builtin.Frozenset.updateFrom
        generalize hPI : pyIter = PI
        wp_walk
        subst hPI
        refine wpAny_pyIter_list hl1 ?_
        refine wpAny_bind (wpAny_runValue ?_)
        have hlS : l < s.heap.objs.size := Heap.lt_size hol
        have hh3 : A.in1.in1.in1.handled = none := by simp [hh]
        have hneI : l ≠ (s.heap.push { cls := .type "set", dict := none, data := .set #[] 0 (.fresh 0 0 (!w.params.followText "set-order")) }).objs.size := by
          rw [Heap.size_push]; exact Nat.ne_of_lt (Nat.lt_succ_of_lt hlS)
        have hSf : s.heap.objs.size ∉ [(s.heap.push { cls := .type "set", dict := none, data := .set #[] 0 (.fresh 0 0 (!w.params.followText "set-order")) }).objs.size, l] := by
          rw [Heap.size_push]; simp only [List.mem_cons, List.mem_singleton, List.not_mem_nil, or_false, not_or]
          exact ⟨Nat.ne_of_lt (Nat.lt_succ_self _), Nat.ne_of_gt hlS⟩
        have hval : ∀ (i : Nat) (v : Value), items[i]? = some v → ∃ x t, xs[i]? = some x ∧ v = .str x t := by
          intro i v hv
          obtain ⟨t, e⟩ := SS.strs_at hi i v (by rw [Array.getElem?_toList]; exact hv)
          have hlt : i < xs.length := by rw [hsz]; exact (Array.getElem?_eq_some_iff.mp hv).1
          refine ⟨xs.getD i Str.empty, t, ?_, e⟩
          rw [List.getD_eq_getElem?_getD, List.getElem?_eq_getElem hlt]; rfl
        have htake : xs.take items.size = xs := by rw [← hsz, List.take_length]
        refine loopSetS ((Walks.list hh3 _ l hneI items).toS) s.heap.objs.size hSf xs hsz (by rw [← hsz]; exact hfew) hval (items.size - 0) 0 _ (by omega) (Nat.zero_le _)
          ⟨⟨_, Heap.get?_push_size _ rfl, rfl, rfl⟩, (hl1.push _)⟩ ?hS0 ?hR
        case hS0 =>
          have hget : ((s.heap.push { cls := .type "set", dict := none, data := .set #[] 0 (.fresh 0 0 (!w.params.followText "set-order")) }).push { cls := .type "list_iterator", data := .fields #[.ref l, .int 0 0] }).get? s.heap.objs.size
              = some { cls := .type "set", dict := none, data := .set #[] 0 (.fresh 0 0 (!w.params.followText "set-order")) } := Heap.get?_push_of_some _ hS
          exact (setS_fresh hget).congr fun y => by simp
        case hR =>
          intro s' hm hS'
          rw [htake] at hS'
          obtain ⟨h', g', d', tk', os'⟩ := s'
          have eg : g' = s.gens := hm.gens
          have ed : d' = s.drawn := hm.drawn
          have eo : os' = s.os := hm.os
          subst eg; subst ed; subst eo
          show wpAny _ _ _ _ _ _
          refine wpAny_pure ?_
          show wpAny _ _ (ret Value.none) _ _ _
          refine wpAny_pure ⟨rfl, h', tk', rfl, hS', fun b o e => ?_⟩
          have hb := Heap.lt_size e
          have hb1 : b ≠ s.heap.objs.size := Nat.ne_of_lt hb
          have hb2 : b ≠ (s.heap.push { cls := .type "set", dict := none, data := .set #[] 0 (.fresh 0 0 (!w.params.followText "set-order")) }).objs.size := by
            rw [Heap.size_push]; exact Nat.ne_of_lt (Nat.lt_succ_of_lt hb)
          exact hm.heap b o (by simp only [List.mem_cons, List.mem_singleton, List.not_mem_nil, or_false, not_or]; exact ⟨hb1, hb2⟩) (Heap.get?_push_of_some _ (Heap.get?_push_of_some _ e))
      · cases r₂ with
        | error e => exact hr₂
        | ok fl₂ =>
          cases fl₂ with
          | ret r =>
            obtain ⟨rfl, h', tk, rfl, hS', hk'⟩ := hr₂
            repeat (any_goals (first | assumption | wp_step))
            exact h _ _ hS' hk'
          | _ => exact hr₂.elim
    | _ => exact hr.elim
theorem texts_of : ∀ (vs : List Value), (∀ v ∈ vs, ∃ x t, v = Value.str x t) → StrsAre vs (vs.map fun v => textOf (0, v))
  | [], _ => .nil
  | v :: r, h => by
    obtain ⟨x, t, rfl⟩ := h v List.mem_cons_self
    exact .cons x t (texts_of r fun u hu => h u (List.mem_cons_of_mem _ hu))
/-- sorted(a set of texts): xs, the texts in any order -/
theorem sorted_setS {S : Str → Bool} {n : Nat} {Q : Value → Shared → Prop} (R : SetS w s.heap a S n) (hh : A.handled = none)
    (hQ : ∀ s' p (out : Array Value) (c : Nat) (xs ys : List Str), (∀ b o, s.heap.get? b = some o → s'.heap.get? b = some o) → s'.gens = s.gens → s'.os = s.os → s.heap.objs.size ≤ p →
      s'.heap.get? p = some (seqObj "list" out c) → StrsAre out.toList ys → ys.Perm xs → sortedS ys = true → xs.Nodup → (∀ k, k ∈ xs ↔ S k = true) → ys.length ≤ sizeLine → Q (.ref p) s') :
    wpAny (model P w) A (call (.builtin "sorted") [.ref a]) Q E s := by
  obtain ⟨o, es, ep, t, ho, hex, hd, g, nd, hm, hb, hf, hn, hr, hl⟩ := R
  refine Calls.call_function_entry kind_sorted plain_sorted entry_sorted (args_sorted1 _) ?_
  unfold Builtin.«sorted»
  refine wpAny_bind (m := checkCount "sorted" 1 1 _) (wpAny_pure ?_)
  refine wpAny_bind (collect_set (A := A.in1) hh ⟨o, ho, hex.1, hd⟩ hf hb hr hl fun s1 vs k1 hz g1 o1 pm => ?_)
  have hvl : vs.length = es.size := by rw [pm.length_eq, List.length_map, Array.length_toList]
  have hbig : vs.length ≤ sizeLine := by
    rw [hvl, sizeLine_eq]
    have : scanBound ≤ 16777216 := by decide
    omega
  have hI : StrsAre vs (vs.map fun v => textOf (0, v)) := texts_of vs fun v hv => by
    obtain ⟨e, he, q⟩ := List.mem_map.mp (pm.mem_iff.mp hv)
    obtain ⟨k, tk, h1, _⟩ := g e he
    exact ⟨k, tk, by rw [← q]; exact h1⟩
  have pk : (vs.map fun v => textOf (0, v)).Perm (es.toList.map textOf) := by
    have q := pm.map fun v => textOf (0, v)
    rw [List.map_map] at q
    exact q
  refine wpAny_bind (wpAny_newList ?_ hbig)
  have hoL : (s1.heap.push (seqObj "list" vs.toArray 0)).get? s1.heap.objs.size = some (seqObj "list" vs.toArray 0) := Heap.get?_push_size _ rfl
  refine wpAny_bind (wpAny_holding (wpAny_call_entry slot_list_sort ⟨_, hoL, rfl⟩ entry_list_sort
    (list_sort_treeKAny strKind_oneLt (s := { s1 with heap := s1.heap.push (seqObj "list" vs.toArray 0) }) hoL hI.keysOf (fun v₁ v₂ rest e => keyKind_strs (by rw [← e]; exact hI)) hbig fun st' hp hs => ⟨_, rfl, ?_⟩) (args_list_sort _)))
  obtain ⟨ys, a1, a2, a3⟩ := sorted_out_str hI hp hs
  obtain ⟨c, hc⟩ := sortedHeap_at (vs := vs) (out := (arrOf st').map (·.2)) hoL
  refine wpAny_pure ⟨_, rfl, hQ _ s1.heap.objs.size ((arrOf st').map (·.2)) c (es.toList.map textOf) ys (fun b u e => ?_) g1 o1 hz hc a1 (a2.trans pk) a3 nd (fun k => (hm k).symm) (by rw [a2.length_eq, List.length_map]; exact hbig)⟩
  have q := k1 b u e
  have hlt := Heap.lt_size q
  show (sortedHeap (s1.heap.push (seqObj "list" vs.toArray 0)) s1.heap.objs.size vs ((arrOf st').map (·.2))).get? b = some u
  rw [sortedHeap_old (Nat.ne_of_lt hlt) (by rw [size_push']; exact Nat.lt_succ_of_lt hlt)]
  exact Heap.get?_push_of_some _ q
end
end Iv

set_option Elab.async false
set_option linter.all false
set_option maxHeartbeats 1000000
/-! worlds, what data stands for, the state's relation -/
namespace Iv
open PySem PySem.Spec L2

structure Wd where
  n : Nat
  μ : Nat → Addr
  F : Hp
  /-- objects under the making (a display's dict, a comprehension's list): nothing leads to them -/
  R : List (Addr × HO) := []
/-- a set of texts: HO by its members -/
abbrev SetHO (P : Program) (w : World) (a : Addr) (xs : List Str) : HO := .ext fun h => xs.Nodup ∧ SetS w h a (fun y => decide (y ∈ xs)) xs.length

/-- a value among written keys -/
def lookV (ks : List Str) (vs : List V) (z : Str) : Option V := ((ks.zip vs).find? fun p => decide (p.1 = z)).map (·.2)
/-- a dict of the top: where, its keys and values -/
structure RodAt (K : PySem.W.Frag) (w : World) (a : Addr) (ks : List Str) (vs : List V) : Prop where
  at_ : ∃ es n, KDict K w a es n
  val : ∀ z, ∃ q, PySem.W.nsIn K a z = some q ∧ RelO (lookV ks vs z) q
/-- an own class whose instances are plain -/
structure ClsF (K : PySem.W.Frag) (C : Addr) : Prop where
  cl : Cls K C
  ca : PySem.W.findIn K (.ref C) "__class__" = some (some (.builtin "object.__class__"))
  cg : PySem.W.specialIn K (.builtin "object.__class__") "__get__" = some (some (.builtin "getset_descriptor.__get__"))
  ct : PySem.W.takesIn K (.builtin "object.__class__") = some true
  cm : PySem.W.mroIn K C (.type "object") = some true
/-- a tuple whose object has no dict of its own -/
def PlT (K : PySem.W.Frag) (H : Hp) (a : Addr) (xs : List V) : Prop :=
  (∃ o : Obj, H a = some (.frz o (.tup xs)) ∧ o.dict = none) ∨
    ∃ (o : Obj) (its : Array Value) (n : Nat), K.lookup a = some o ∧ o.cls = .type "tuple" ∧ o.dict = none ∧ o.data = .seq its n ∧ its.size ≤ sizeLine ∧ Vals xs its.toList
theorem PlT.sq {K : PySem.W.Frag} {H : Hp} {a : Addr} {xs : List V} (h : PlT K H a xs) : SqT K H a xs := by
  rcases h with ⟨o, h, _⟩ | ⟨o, its, n, a1, a2, _, a3, a4, a5⟩
  · exact .inl (.inr ⟨o, h⟩)
  · exact .inr ⟨o, its, n, a1, a2, a3, a4, a5⟩
section
variable (P : Program) (w : World) (K : PySem.W.Frag) (W : Wd)
mutual
def Rep : D → V → Prop
  | .non, v => v = .non
  | .bl b, v => v = .bl b
  | .int i, v => v = .int i
  | .str x, v => v = .str x
  | .tup ds, v => ∃ a vs, v = .ref a ∧ PlT K W.F a vs ∧ Reps ds vs
  | .it ds, v => ∃ a vs, v = .ref a ∧ SqT K W.F a vs ∧ Reps ds vs
  | .lst ds, v => ∃ a vs, v = .ref a ∧ W.F a = some (.lst vs) ∧ Reps ds vs
  | .ro ds, v => ∃ a vs, v = .ref a ∧ SqL K W.F a vs ∧ Reps ds vs
  | .dic ks ds, v => ∃ a vs, v = .ref a ∧ W.F a = some (.dK (ks.zip vs)) ∧ ks.length = vs.length ∧ Reps ds vs
  | .set xs, v => ∃ a, v = .ref a ∧ W.F a = some (SetHO P w a xs)
  | .rod ks ds, v => ∃ a vs, v = .ref a ∧ RodAt K w a ks vs ∧ ks.length = vs.length ∧ Reps ds vs
  | .gv x, v => v = .ref (He.ga K x)
  | .ref n, v => n < W.n ∧ v = .ref (W.μ n)
def Reps : List D → List V → Prop
  | [], vs => vs = []
  | d :: ds, vs => ∃ v r, vs = v :: r ∧ Rep d v ∧ Reps ds r
end
def CellOk (H : Hp) (a : Addr) : Cell → Prop
  | .lst xs => ∃ vs, H a = some (.lst vs) ∧ Reps P w K W xs vs
  | .dic ks ds => ∃ vs, H a = some (.dK (ks.zip vs)) ∧ ks.length = vs.length ∧ Reps P w K W ds vs
  | .obj c fs => ClsF K (He.ga K c) ∧ (∀ x ∈ fs.map (·.1), NoAttr K (He.ga K c) x) ∧ ∃ vs dx, H a = some (.ins (He.ga K c) dx ((fs.map (·.1)).zip vs)) ∧ Reps P w K W (fs.map (·.2)) vs
  | .dead => True
structure Rel (σ : Store) (H : Hp) : Prop where
  sub : ∀ a o, W.F a = some o → H a = some o
  len : σ.length = W.n
  cell : ∀ n c, σ[n]? = some c → CellOk P w K W H (W.μ n) c
  sep : ∀ n c, σ[n]? = some c → c ≠ .dead → W.F (W.μ n) = none
  inj : ∀ n m c c', σ[n]? = some c → σ[m]? = some c' → c ≠ .dead → c' ≠ .dead → W.μ n = W.μ m → n = m
  res : ∀ a o, (a, o) ∈ W.R → H a = some o ∧ W.F a = none ∧ ∀ n c, σ[n]? = some c → c ≠ .dead → W.μ n ≠ a
  one : (W.R.map (·.1)).Nodup
def EnvR (ρ : Env) (st : St) : Prop := ρ.length = st.length ∧ ∀ (i : Nat) (d : D), ρ[i]? = some (some d) → ∃ v, st[i]? = some (some v) ∧ Rep P w K W d v
end
def Ext (F F' : Hp) : Prop := ∀ a o, F a = some o → F' a = some o
structure Le0 (W W' : Wd) : Prop where
  n : W.n ≤ W'.n
  μ : ∀ i, i < W.n → W'.μ i = W.μ i
  F : Ext W.F W'.F
structure Le (W W' : Wd) : Prop extends Le0 W W' where
  R : W'.R = W.R
instance {W W' : Wd} : Coe (Le W W') (Le0 W W') := ⟨Le.toLe0⟩
theorem Le0.refl (W : Wd) : Le0 W W := ⟨Nat.le_refl _, fun _ _ => rfl, fun _ _ h => h⟩
theorem Le.refl (W : Wd) : Le W W := ⟨Le0.refl W, rfl⟩
theorem Le0.trans {W W1 W2 : Wd} (a : Le0 W W1) (b : Le0 W1 W2) : Le0 W W2 :=
  ⟨Nat.le_trans a.n b.n, fun i h => (b.μ i (Nat.lt_of_lt_of_le h a.n)).trans (a.μ i h), fun c o h => b.F c o (a.F c o h)⟩
theorem Le.trans {W W1 W2 : Wd} (a : Le W W1) (b : Le W1 W2) : Le W W2 := ⟨a.toLe0.trans b.toLe0, b.R.trans a.R⟩
theorem sqT_ext {K : PySem.W.Frag} {F F' : Hp} {a : Addr} {xs : List V} (e : Ext F F') (h : SqT K F a xs) : SqT K F' a xs := by
  rcases h with (h | ⟨o, h⟩) | h
  · exact .inl (.inl (e _ _ h))
  · exact .inl (.inr ⟨o, e _ _ h⟩)
  · exact .inr h
theorem plT_ext {K : PySem.W.Frag} {F F' : Hp} {a : Addr} {xs : List V} (e : Ext F F') (h : PlT K F a xs) : PlT K F' a xs := by
  rcases h with ⟨o, h, d⟩ | h
  · exact .inl ⟨o, e _ _ h, d⟩
  · exact .inr h
theorem sqL_ext {K : PySem.W.Frag} {F F' : Hp} {a : Addr} {xs : List V} (e : Ext F F') (h : SqL K F a xs) : SqL K F' a xs := by
  rcases h with (h | ⟨o, h⟩) | h
  · exact .inl (.inl (e _ _ h))
  · exact .inl (.inr ⟨o, e _ _ h⟩)
  · exact .inr h
section
variable {P : Program} {w : World} {K : PySem.W.Frag} {W W' : Wd}
mutual
theorem Rep.mono0 (le : Le0 W W') : ∀ {d : D} {v : V}, Rep P w K W d v → Rep P w K W' d v
  | .non, _, h => by simpa only [Rep] using h
  | .bl _, _, h => by simpa only [Rep] using h
  | .int _, _, h => by simpa only [Rep] using h
  | .str _, _, h => by simpa only [Rep] using h
  | .tup ds, v, h => by
    simp only [Rep] at h ⊢
    obtain ⟨a, vs, e, s, r⟩ := h
    exact ⟨a, vs, e, plT_ext le.F s, Reps.mono0 le r⟩
  | .it ds, v, h => by
    simp only [Rep] at h ⊢
    obtain ⟨a, vs, e, s, r⟩ := h
    exact ⟨a, vs, e, sqT_ext le.F s, Reps.mono0 le r⟩
  | .lst ds, v, h => by
    simp only [Rep] at h ⊢
    obtain ⟨a, vs, e, s, r⟩ := h
    exact ⟨a, vs, e, le.F _ _ s, Reps.mono0 le r⟩
  | .ro ds, v, h => by
    simp only [Rep] at h ⊢
    obtain ⟨a, vs, e, s, r⟩ := h
    exact ⟨a, vs, e, sqL_ext le.F s, Reps.mono0 le r⟩
  | .dic ks ds, v, h => by
    simp only [Rep] at h ⊢
    obtain ⟨a, vs, e, s, l, r⟩ := h
    exact ⟨a, vs, e, le.F _ _ s, l, Reps.mono0 le r⟩
  | .set xs, v, h => by
    simp only [Rep] at h ⊢
    obtain ⟨a, e, s⟩ := h
    exact ⟨a, e, le.F _ _ s⟩
  | .rod ks ds, v, h => by
    simp only [Rep] at h ⊢
    obtain ⟨a, vs, e, s, l, r⟩ := h
    exact ⟨a, vs, e, s, l, Reps.mono0 le r⟩
  | .gv _, _, h => by simpa only [Rep] using h
  | .ref n, v, h => by
    simp only [Rep] at h ⊢
    exact ⟨Nat.lt_of_lt_of_le h.1 le.n, by rw [le.μ n h.1]; exact h.2⟩
theorem Reps.mono0 (le : Le0 W W') : ∀ {ds : List D} {vs : List V}, Reps P w K W ds vs → Reps P w K W' ds vs
  | [], vs, h => by simpa only [Reps] using h
  | d :: ds, vs, h => by
    simp only [Reps] at h ⊢
    obtain ⟨v, r, e, h1, h2⟩ := h
    exact ⟨v, r, e, Rep.mono0 le h1, Reps.mono0 le h2⟩
end
theorem Rep.mono (le : Le W W') {d : D} {v : V} (h : Rep P w K W d v) : Rep P w K W' d v := h.mono0 le.toLe0
theorem Reps.mono (le : Le W W') {ds : List D} {vs : List V} (h : Reps P w K W ds vs) : Reps P w K W' ds vs := h.mono0 le.toLe0
mutual
theorem Rep.under : ∀ {d : D} {v : V}, Rep P w K W d v → d.under W.n = true
  | .non, _, h => by simp only [D.under]
  | .bl _, _, h => by simp only [D.under]
  | .int _, _, h => by simp only [D.under]
  | .str _, _, h => by simp only [D.under]
  | .tup ds, v, h => by
    simp only [Rep, D.under] at h ⊢
    obtain ⟨a, vs, e, s, r⟩ := h
    exact Reps.under r
  | .it ds, v, h => by
    simp only [Rep, D.under] at h ⊢
    obtain ⟨a, vs, e, s, r⟩ := h
    exact Reps.under r
  | .lst ds, v, h => by
    simp only [Rep, D.under] at h ⊢
    obtain ⟨a, vs, e, s, r⟩ := h
    exact Reps.under r
  | .ro ds, v, h => by
    simp only [Rep, D.under] at h ⊢
    obtain ⟨a, vs, e, s, r⟩ := h
    exact Reps.under r
  | .dic ks ds, v, h => by
    simp only [Rep, D.under] at h ⊢
    obtain ⟨a, vs, e, s, l, r⟩ := h
    exact Reps.under r
  | .set xs, v, h => by simp only [D.under]
  | .rod ks ds, v, h => by
    simp only [Rep, D.under] at h ⊢
    obtain ⟨a, vs, e, s, l, r⟩ := h
    exact Reps.under r
  | .gv _, _, h => by simp only [D.under]
  | .ref n, v, h => by
    simp only [Rep, D.under] at h ⊢
    exact decide_eq_true h.1
theorem Reps.under : ∀ {ds : List D} {vs : List V}, Reps P w K W ds vs → D.unders W.n ds = true
  | [], vs, h => by simp only [D.unders]
  | d :: ds, vs, h => by
    simp only [Reps, D.unders, Bool.and_eq_true] at h ⊢
    obtain ⟨v, r, e, h1, h2⟩ := h
    exact ⟨Rep.under h1, Reps.under h2⟩
end
def Wd.cut (W : Wd) (n : Nat) : Wd := { W with n := n }
mutual
theorem Rep.cut {n : Nat} : ∀ {d : D} {v : V}, Rep P w K W d v → d.under n = true → Rep P w K (W.cut n) d v
  | .non, _, h, _ => by simpa only [Rep] using h
  | .bl _, _, h, _ => by simpa only [Rep] using h
  | .int _, _, h, _ => by simpa only [Rep] using h
  | .str _, _, h, _ => by simpa only [Rep] using h
  | .tup ds, v, h, u => by
    simp only [Rep, D.under] at h u ⊢
    obtain ⟨a, vs, e, s, r⟩ := h
    exact ⟨a, vs, e, s, Reps.cut r u⟩
  | .it ds, v, h, u => by
    simp only [Rep, D.under] at h u ⊢
    obtain ⟨a, vs, e, s, r⟩ := h
    exact ⟨a, vs, e, s, Reps.cut r u⟩
  | .lst ds, v, h, u => by
    simp only [Rep, D.under] at h u ⊢
    obtain ⟨a, vs, e, s, r⟩ := h
    exact ⟨a, vs, e, s, Reps.cut r u⟩
  | .ro ds, v, h, u => by
    simp only [Rep, D.under] at h u ⊢
    obtain ⟨a, vs, e, s, r⟩ := h
    exact ⟨a, vs, e, s, Reps.cut r u⟩
  | .dic ks ds, v, h, u => by
    simp only [Rep, D.under] at h u ⊢
    obtain ⟨a, vs, e, s, l, r⟩ := h
    exact ⟨a, vs, e, s, l, Reps.cut r u⟩
  | .set xs, v, h, _ => by simp only [Rep] at h ⊢; exact h
  | .rod ks ds, v, h, u => by
    simp only [Rep, D.under] at h u ⊢
    obtain ⟨a, vs, e, s, l, r⟩ := h
    exact ⟨a, vs, e, s, l, Reps.cut r u⟩
  | .gv _, _, h, _ => by simpa only [Rep] using h
  | .ref m, v, h, u => by
    simp only [Rep, D.under] at h u ⊢
    exact ⟨of_decide_eq_true u, h.2⟩
theorem Reps.cut {n : Nat} : ∀ {ds : List D} {vs : List V}, Reps P w K W ds vs → D.unders n ds = true → Reps P w K (W.cut n) ds vs
  | [], vs, h, _ => by simpa only [Reps] using h
  | d :: ds, vs, h, u => by
    simp only [Reps, D.unders, Bool.and_eq_true] at h u ⊢
    obtain ⟨v, r, e, h1, h2⟩ := h
    exact ⟨v, r, e, Rep.cut h1 u.1, Reps.cut h2 u.2⟩
end
/-! ### lists of data -/
theorem Reps.nil_iff {vs : List V} : Reps P w K W [] vs ↔ vs = [] := by simp only [Reps]
theorem Reps.cons_iff {d : D} {ds : List D} {v : V} {vs : List V} : Reps P w K W (d :: ds) (v :: vs) ↔ Rep P w K W d v ∧ Reps P w K W ds vs := by
  simp only [Reps]
  constructor
  · rintro ⟨v', r, e, h1, h2⟩
    cases e
    exact ⟨h1, h2⟩
  · rintro ⟨h1, h2⟩
    exact ⟨v, vs, rfl, h1, h2⟩
theorem Reps.nil : Reps P w K W [] [] := Reps.nil_iff.mpr rfl
theorem Reps.cons {d : D} {ds : List D} {v : V} {vs : List V} (h1 : Rep P w K W d v) (h2 : Reps P w K W ds vs) : Reps P w K W (d :: ds) (v :: vs) := Reps.cons_iff.mpr ⟨h1, h2⟩
theorem Reps.length : ∀ {ds : List D} {vs : List V}, Reps P w K W ds vs → ds.length = vs.length
  | [], vs, h => by rw [Reps.nil_iff.mp h]; rfl
  | d :: ds, [], h => by simp only [Reps] at h; obtain ⟨_, _, e, _⟩ := h; cases e
  | d :: ds, v :: vs, h => congrArg (· + 1) (Reps.length (Reps.cons_iff.mp h).2)
theorem Reps.get : ∀ {ds : List D} {vs : List V} {i : Nat} {d : D}, Reps P w K W ds vs → ds[i]? = some d → ∃ v, vs[i]? = some v ∧ Rep P w K W d v
  | [], _, _, _, _, e => by simp at e
  | _ :: _, [], _, _, h, _ => by have := Reps.length h; simp at this
  | d :: ds, v :: vs, 0, _, h, e => by simp at e; subst e; exact ⟨v, rfl, (Reps.cons_iff.mp h).1⟩
  | d :: ds, v :: vs, i + 1, _, h, e => by
    obtain ⟨u, h1, h2⟩ := Reps.get (i := i) (Reps.cons_iff.mp h).2 (by simpa using e)
    exact ⟨u, by simpa using h1, h2⟩
theorem Reps.append : ∀ {ds es : List D} {vs us : List V}, Reps P w K W ds vs → Reps P w K W es us → Reps P w K W (ds ++ es) (vs ++ us)
  | [], _, vs, _, h, h' => by rw [Reps.nil_iff.mp h]; exact h'
  | _ :: _, _, [], _, h, _ => by have := Reps.length h; simp at this
  | d :: ds, es, v :: vs, us, h, h' => Reps.cons (Reps.cons_iff.mp h).1 (Reps.append (Reps.cons_iff.mp h).2 h')
theorem Reps.one {d : D} {v : V} (h : Rep P w K W d v) : Reps P w K W [d] [v] := Reps.cons h Reps.nil
theorem Reps.take : ∀ {ds : List D} {vs : List V} (n : Nat), Reps P w K W ds vs → Reps P w K W (ds.take n) (vs.take n)
  | [], _, _, h => by rw [Reps.nil_iff.mp h]; simp [Reps.nil]
  | _ :: _, [], _, h => by have := Reps.length h; simp at this
  | _ :: _, _ :: _, 0, _ => by simp [Reps.nil]
  | d :: ds, v :: vs, n + 1, h => by simpa using Reps.cons (Reps.cons_iff.mp h).1 (Reps.take n (Reps.cons_iff.mp h).2)
theorem Reps.drop : ∀ {ds : List D} {vs : List V} (n : Nat), Reps P w K W ds vs → Reps P w K W (ds.drop n) (vs.drop n)
  | [], _, _, h => by rw [Reps.nil_iff.mp h]; simp [Reps.nil]
  | _ :: _, [], _, h => by have := Reps.length h; simp at this
  | _ :: _, _ :: _, 0, h => by simpa using h
  | d :: ds, v :: vs, n + 1, h => by simpa using Reps.drop n (Reps.cons_iff.mp h).2
theorem Reps.reverse : ∀ {ds : List D} {vs : List V}, Reps P w K W ds vs → Reps P w K W ds.reverse vs.reverse
  | [], _, h => by rw [Reps.nil_iff.mp h]; simp [Reps.nil]
  | _ :: _, [], h => by have := Reps.length h; simp at this
  | d :: ds, v :: vs, h => by
    rw [List.reverse_cons, List.reverse_cons]
    exact Reps.append (Reps.reverse (Reps.cons_iff.mp h).2) (Reps.one (Reps.cons_iff.mp h).1)
theorem Reps.set {d : D} {v : V} (hd : Rep P w K W d v) : ∀ {ds : List D} {vs : List V} (n : Nat), Reps P w K W ds vs → Reps P w K W (ds.set n d) (vs.set n v)
  | [], _, _, h => by rw [Reps.nil_iff.mp h]; simp [Reps.nil]
  | _ :: _, [], _, h => by have := Reps.length h; simp at this
  | _ :: _, _ :: _, 0, h => by simpa using Reps.cons hd (Reps.cons_iff.mp h).2
  | d' :: ds, v' :: vs, n + 1, h => by simpa using Reps.cons (Reps.cons_iff.mp h).1 (Reps.set hd n (Reps.cons_iff.mp h).2)
theorem Reps.dropLast {ds : List D} {vs : List V} (h : Reps P w K W ds vs) : Reps P w K W ds.dropLast vs.dropLast := by
  rw [List.dropLast_eq_take, List.dropLast_eq_take, Reps.length h]
  exact Reps.take _ h
theorem Reps.eraseIdx : ∀ {ds : List D} {vs : List V} (n : Nat), Reps P w K W ds vs → Reps P w K W (ds.eraseIdx n) (vs.eraseIdx n)
  | [], _, _, h => by rw [Reps.nil_iff.mp h]; simp [Reps.nil]
  | _ :: _, [], _, h => by have := Reps.length h; simp at this
  | _ :: _, _ :: _, 0, h => by simpa using (Reps.cons_iff.mp h).2
  | d' :: ds, v' :: vs, n + 1, h => by simpa using Reps.cons (Reps.cons_iff.mp h).1 (Reps.eraseIdx n (Reps.cons_iff.mp h).2)
theorem Reps.rep {ds : List D} {vs : List V} (h : Reps P w K W ds vs) : ∀ n : Nat, Reps P w K W (List.replicate n ds).flatten (List.replicate n vs).flatten
  | 0 => by simp [Reps.nil]
  | n + 1 => by
    rw [List.replicate_succ, List.replicate_succ, List.flatten_cons, List.flatten_cons]
    exact Reps.append h (Reps.rep h n)
theorem Reps.strs : ∀ {ds : List D} {vs : List V} {ss : List Str}, Reps P w K W ds vs → strsOf ds = some ss → vs = ss.map V.str
  | [], vs, ss, h, e => by simp [strsOf] at e; subst e; rw [Reps.nil_iff.mp h]; rfl
  | _ :: _, [], _, h, _ => by have := Reps.length h; simp at this
  | d :: ds, v :: vs, ss, h, e => by
    obtain ⟨h1, h2⟩ := Reps.cons_iff.mp h
    cases d <;> simp only [strsOf, Option.map_eq_some_iff, reduceCtorEq] at e
    obtain ⟨r, e, rfl⟩ := e
    simp only [Rep] at h1
    rw [h1, Reps.strs h2 e] <;> rfl
theorem Reps.ints : ∀ {ds : List D} {vs : List V} {ss : List Int}, Reps P w K W ds vs → intsOf ds = some ss → vs = ss.map V.int
  | [], vs, ss, h, e => by simp [intsOf] at e; subst e; rw [Reps.nil_iff.mp h]; rfl
  | _ :: _, [], _, h, _ => by have := Reps.length h; simp at this
  | d :: ds, v :: vs, ss, h, e => by
    obtain ⟨h1, h2⟩ := Reps.cons_iff.mp h
    cases d <;> simp only [intsOf, Option.map_eq_some_iff, reduceCtorEq] at e
    obtain ⟨r, e, rfl⟩ := e
    simp only [Rep] at h1
    rw [h1, Reps.ints h2 e] <;> rfl
theorem Reps.bls : ∀ {ds : List D} {vs : List V} {ss : List Bool}, Reps P w K W ds vs → blsOf ds = some ss → vs = ss.map V.bl
  | [], vs, ss, h, e => by simp [blsOf] at e; subst e; rw [Reps.nil_iff.mp h]; rfl
  | _ :: _, [], _, h, _ => by have := Reps.length h; simp at this
  | d :: ds, v :: vs, ss, h, e => by
    obtain ⟨h1, h2⟩ := Reps.cons_iff.mp h
    cases d <;> simp only [blsOf, Option.map_eq_some_iff, reduceCtorEq] at e
    obtain ⟨r, e, rfl⟩ := e
    simp only [Rep] at h1
    rw [h1, Reps.bls h2 e] <;> rfl
theorem Reps.ofStrs : ∀ (ss : List Str), Reps P w K W (ss.map D.str) (ss.map V.str)
  | [] => Reps.nil
  | x :: r => Reps.cons (by simp only [Rep]) (Reps.ofStrs r)
theorem Reps.ofKeys : ∀ (ks : List Key), Reps P w K W (ks.map keyD) (ks.map kV)
  | [] => Reps.nil
  | x :: r => Reps.cons (by cases x <;> simp only [keyD, kV, Rep]) (Reps.ofKeys r)
theorem Rep.key {d : D} {k : Key} {v : V} (h : Rep P w K W d v) (e : dKey d = some k) : v = kV k := by
  cases d <;> simp only [dKey, reduceCtorEq, Option.some.injEq] at e <;> subst e <;> simp only [Rep] at h <;> exact h
/-! ### the state turns -/
variable {σ : Store} {H : Hp}
theorem Rel.fresh {p : Addr} (r : Rel P w K W σ H) (h : H p = none) : W.F p = none := by
  cases e : W.F p with
  | none => rfl
  | some o => rw [r.sub p o e] at h; cases h
def Wd.add (W : Wd) (p : Addr) (o : HO) : Wd := { W with F := upd W.F p o }
theorem Rel.leAdd {p : Addr} {o : HO} (r : Rel P w K W σ H) (h : H p = none) : Le W (W.add p o) :=
  ⟨⟨Nat.le_refl _, fun _ _ => rfl, fun a u e => by
    show upd W.F p o a = some u
    rw [upd_ne (ne_of_none e (r.fresh h))]
    exact e⟩, rfl⟩
theorem CellOk.mono0 {W W' : Wd} {H H' : Hp} {a : Addr} {c : Cell} (le : Le0 W W') (hH : ∀ o, H a = some o → H' a = some o) (h : CellOk P w K W H a c) : CellOk P w K W' H' a c := by
  cases c with
  | lst xs => obtain ⟨vs, e, q⟩ := h; exact ⟨vs, hH _ e, Reps.mono0 le q⟩
  | dic ks xs => obtain ⟨vs, e, l, q⟩ := h; exact ⟨vs, hH _ e, l, Reps.mono0 le q⟩
  | obj c fs => obtain ⟨cl, na, vs, dx, e, q⟩ := h; exact ⟨cl, na, vs, dx, hH _ e, Reps.mono0 le q⟩
  | dead => trivial
theorem CellOk.mono {W W' : Wd} {H H' : Hp} {a : Addr} {c : Cell} (le : Le W W') (hH : ∀ o, H a = some o → H' a = some o) (h : CellOk P w K W H a c) : CellOk P w K W' H' a c := h.mono0 le.toLe0 hH
theorem CellOk.there {a : Addr} {c : Cell} (h : CellOk P w K W H a c) (nd : c ≠ .dead) : ∃ o, H a = some o := by
  cases c with
  | lst xs => obtain ⟨vs, e, q⟩ := h; exact ⟨_, e⟩
  | dic ks xs => obtain ⟨vs, e, l, q⟩ := h; exact ⟨_, e⟩
  | obj c fs => obtain ⟨cl, na, vs, dx, e, q⟩ := h; exact ⟨_, e⟩
  | dead => exact absurd rfl nd
/-- a new object that never changes -/
theorem Rel.add {p : Addr} {o : HO} (r : Rel P w K W σ H) (h : H p = none) : Rel P w K (W.add p o) σ (upd H p o) where
  sub := fun a u e => by
    have e : upd W.F p o a = some u := e
    by_cases ha : a = p
    · subst ha; rw [upd_same] at e ⊢; exact e
    · rw [upd_ne ha] at e ⊢; exact r.sub a u e
  len := r.len
  cell := fun n c e => (r.cell n c e).mono (r.leAdd h) fun u (q : H (W.μ n) = some u) => by
    show upd H p o (W.μ n) = some u
    rw [upd_ne (ne_of_none q h)]; exact q
  sep := fun n c e nd => by
    obtain ⟨u, q⟩ := (r.cell n c e).there nd
    show upd W.F p o (W.μ n) = none
    rw [upd_ne (ne_of_none q h)]; exact r.sep n c e nd
  inj := r.inj
  res := fun a u q => by
    obtain ⟨h1, h2, h3⟩ := r.res a u q
    have ne := ne_of_none h1 h
    refine ⟨by rw [upd_ne ne]; exact h1, ?_, h3⟩
    show upd W.F p o a = none
    rw [upd_ne ne]; exact h2
  one := r.one
/-- a new object of which nothing is said -/
theorem Rel.other {p : Addr} {o : HO} (r : Rel P w K W σ H) (h : H p = none) : Rel P w K W σ (upd H p o) where
  sub := fun a u e => by rw [upd_ne (ne_of_none (r.sub a u e) h)]; exact r.sub a u e
  len := r.len
  cell := fun n c e => (r.cell n c e).mono (Le.refl W) fun u (q : H (W.μ n) = some u) => by
    show upd H p o (W.μ n) = some u
    rw [upd_ne (ne_of_none q h)]; exact q
  sep := r.sep
  inj := r.inj
  res := fun a u q => by
    obtain ⟨h1, h2, h3⟩ := r.res a u q
    exact ⟨by rw [upd_ne (ne_of_none h1 h)]; exact h1, h2, h3⟩
  one := r.one
def Wd.push (W : Wd) (p : Addr) : Wd := { W with n := W.n + 1, μ := fun i => if i = W.n then p else W.μ i }
theorem lePush (W : Wd) (p : Addr) : Le W (W.push p) :=
  ⟨⟨Nat.le_succ _, fun i h => by show (if i = W.n then p else W.μ i) = W.μ i; rw [if_neg (Nat.ne_of_lt h)], fun _ _ h => h⟩, rfl⟩
theorem get_snoc {α : Type} {l : List α} {x y : α} {n : Nat} (h : (l ++ [x])[n]? = some y) : (l[n]? = some y ∧ n < l.length) ∨ (n = l.length ∧ y = x) := by
  by_cases hn : n < l.length
  · rw [List.getElem?_append_left hn] at h; exact .inl ⟨h, hn⟩
  · rw [List.getElem?_append_right (by omega)] at h
    have : n - l.length = 0 := by
      cases e : n - l.length with
      | zero => rfl
      | succ k => rw [e] at h; simp at h
    rw [this] at h; simp at h
    exact .inr ⟨by omega, h.symm⟩
/-- a new cell -/
theorem Rel.push {p : Addr} {o : HO} {c : Cell} (r : Rel P w K W σ H) (h : H p = none) (hc : CellOk P w K (W.push p) (upd H p o) p c) : Rel P w K (W.push p) (σ ++ [c]) (upd H p o) where
  sub := fun a u e => by
    have e : W.F a = some u := e
    rw [upd_ne (ne_of_none (r.sub a u e) h)]; exact r.sub a u e
  len := by rw [List.length_append, List.length_singleton, r.len]; rfl
  cell := fun n c' e => by
    rcases get_snoc e with ⟨e, hn⟩ | ⟨rfl, rfl⟩
    · rw [r.len] at hn
      show CellOk P w K _ _ (if n = W.n then p else W.μ n) c'
      rw [if_neg (Nat.ne_of_lt hn)]
      exact (r.cell n c' e).mono (lePush W p) fun u q => by rw [upd_ne (ne_of_none q h)]; exact q
    · show CellOk P w K _ _ (if σ.length = W.n then p else W.μ σ.length) c'
      rw [if_pos r.len]; exact hc
  sep := fun n c' e nd => by
    show W.F (if n = W.n then p else W.μ n) = none
    rcases get_snoc e with ⟨e, hn⟩ | ⟨rfl, rfl⟩
    · rw [r.len] at hn
      rw [if_neg (Nat.ne_of_lt hn)]; exact r.sep n c' e nd
    · rw [if_pos r.len]; exact r.fresh h
  inj := fun n m c1 c2 e1 e2 n1 n2 q => by
    have q : (if n = W.n then p else W.μ n) = (if m = W.n then p else W.μ m) := q
    rcases get_snoc e1 with ⟨f1, hn⟩ | ⟨f1, g1⟩
    · rw [if_neg (by rw [r.len] at hn; omega)] at q
      rcases get_snoc e2 with ⟨f2, hm⟩ | ⟨f2, g2⟩
      · rw [if_neg (by rw [r.len] at hm; omega)] at q
        exact r.inj n m c1 c2 f1 f2 n1 n2 q
      · rw [if_pos (f2.trans r.len)] at q
        obtain ⟨u, z⟩ := (r.cell n c1 f1).there n1
        rw [q, h] at z; cases z
    · rw [if_pos (f1.trans r.len)] at q
      rcases get_snoc e2 with ⟨f2, hm⟩ | ⟨f2, g2⟩
      · rw [if_neg (by rw [r.len] at hm; omega)] at q
        obtain ⟨u, z⟩ := (r.cell m c2 f2).there n2
        rw [← q, h] at z; cases z
      · exact f1.trans f2.symm
  res := fun a u q => by
    obtain ⟨h1, h2, h3⟩ := r.res a u q
    have ne := ne_of_none h1 h
    refine ⟨by rw [upd_ne ne]; exact h1, h2, fun n c' e nd => ?_⟩
    show (if n = W.n then p else W.μ n) ≠ a
    rcases get_snoc e with ⟨e, hn⟩ | ⟨rfl, rfl⟩
    · rw [r.len] at hn
      rw [if_neg (Nat.ne_of_lt hn)]; exact h3 n c' e nd
    · rw [if_pos r.len]; exact Ne.symm ne
  one := r.one
theorem get_set {α : Type} {l : List α} {x y : α} {n m : Nat} (h : (l.set n x)[m]? = some y) : (m = n ∧ y = x) ∨ (m ≠ n ∧ l[m]? = some y) := by
  by_cases e : m = n
  · subst e
    rw [List.getElem?_set] at h
    simp at h
    exact .inl ⟨rfl, h.2.symm⟩
  · rw [List.getElem?_set_ne (Ne.symm e)] at h; exact .inr ⟨e, h⟩
/-- a cell is written -/
theorem Rel.put {n : Nat} {o : HO} {c c' : Cell} (r : Rel P w K W σ H) (e : σ[n]? = some c) (nd : c ≠ .dead) (hc : CellOk P w K W (upd H (W.μ n) o) (W.μ n) c') (nd' : c' ≠ .dead) :
    Rel P w K W (σ.set n c') (upd H (W.μ n) o) where
  sub := fun a u q => by
    have ne : a ≠ W.μ n := fun z => by rw [z, r.sep n c e nd] at q; cases q
    rw [upd_ne ne]; exact r.sub a u q
  len := by rw [List.length_set]; exact r.len
  cell := fun m d q => by
    rcases get_set q with ⟨rfl, rfl⟩ | ⟨hm, q⟩
    · exact hc
    · cases d with
      | dead => trivial
      | lst xs =>
        have ne : W.μ m ≠ W.μ n := fun z => hm (r.inj m n _ c q e (by simp) nd z)
        exact (r.cell m _ q).mono (Le.refl W) fun u z => by rw [upd_ne ne]; exact z
      | dic ks xs =>
        have ne : W.μ m ≠ W.μ n := fun z => hm (r.inj m n _ c q e (by simp) nd z)
        exact (r.cell m _ q).mono (Le.refl W) fun u z => by rw [upd_ne ne]; exact z
      | obj c0 fs =>
        have ne : W.μ m ≠ W.μ n := fun z => hm (r.inj m n _ c q e (by simp) nd z)
        exact (r.cell m _ q).mono (Le.refl W) fun u z => by rw [upd_ne ne]; exact z
  sep := fun m d q ndd => by
    rcases get_set q with ⟨rfl, rfl⟩ | ⟨hm, q⟩
    · exact r.sep _ c e nd
    · exact r.sep m d q ndd
  inj := fun m k d1 d2 q1 q2 n1 n2 z => by
    rcases get_set q1 with ⟨f1, g1⟩ | ⟨hm, f1⟩
    · rcases get_set q2 with ⟨f2, g2⟩ | ⟨hk, f2⟩
      · exact f1.trans f2.symm
      · exact f1.trans (r.inj n k c d2 e f2 nd n2 (by rw [← f1]; exact z))
    · rcases get_set q2 with ⟨f2, g2⟩ | ⟨hk, f2⟩
      · exact (r.inj m n d1 c f1 e n1 nd (by rw [← f2]; exact z)).trans f2.symm
      · exact r.inj _ _ d1 d2 f1 f2 n1 n2 z
  res := fun a u q => by
    obtain ⟨h1, h2, h3⟩ := r.res a u q
    have ne : a ≠ W.μ n := Ne.symm (h3 n c e nd)
    refine ⟨by rw [upd_ne ne]; exact h1, h2, fun m d q ndd => ?_⟩
    rcases get_set q with ⟨rfl, rfl⟩ | ⟨hm, q⟩
    · exact Ne.symm ne
    · exact h3 m d q ndd
  one := r.one
/-- a cell becomes data that never changes -/
theorem Rel.freeze {n : Nat} {o : HO} {c : Cell} (r : Rel P w K W σ H) (e : σ[n]? = some c) (nd : c ≠ .dead) (hH : H (W.μ n) = some o) :
    Le W (W.add (W.μ n) o) ∧ Rel P w K (W.add (W.μ n) o) (σ.set n .dead) H := by
  have le : Le W (W.add (W.μ n) o) := ⟨⟨Nat.le_refl _, fun _ _ => rfl, fun a u q => by
    have ne : a ≠ W.μ n := fun z => by rw [z, r.sep n c e nd] at q; cases q
    show upd W.F (W.μ n) o a = some u
    rw [upd_ne ne]; exact q⟩, rfl⟩
  refine ⟨le, ⟨fun a u q => ?_, ?_, fun m d q => ?_, fun m d q ndd => ?_, fun m k d1 d2 q1 q2 n1 n2 z => ?_, fun a u q => ?_, r.one⟩⟩
  · have q : upd W.F (W.μ n) o a = some u := q
    by_cases ha : a = W.μ n
    · subst ha; rw [upd_same] at q; cases q; exact hH
    · rw [upd_ne ha] at q; exact r.sub a u q
  · rw [List.length_set]; exact r.len
  · rcases get_set q with ⟨rfl, rfl⟩ | ⟨hm, q⟩
    · trivial
    · exact (r.cell m d q).mono le fun _ z => z
  · rcases get_set q with ⟨rfl, rfl⟩ | ⟨hm, q⟩
    · exact absurd rfl ndd
    · show upd W.F (W.μ n) o (W.μ m) = none
      rw [upd_ne fun z => hm (r.inj m n d c q e ndd nd z)]
      exact r.sep m d q ndd
  · rcases get_set q1 with ⟨f1, g1⟩ | ⟨hm, f1⟩
    · exact absurd g1 n1
    · rcases get_set q2 with ⟨f2, g2⟩ | ⟨hk, f2⟩
      · exact absurd g2 n2
      · exact r.inj _ _ d1 d2 f1 f2 n1 n2 z
  · obtain ⟨h1, h2, h3⟩ := r.res a u q
    have ne : a ≠ W.μ n := Ne.symm (h3 n c e nd)
    refine ⟨h1, ?_, fun m d q ndd => ?_⟩
    · show upd W.F (W.μ n) o a = none
      rw [upd_ne ne]; exact h2
    · rcases get_set q with ⟨rfl, rfl⟩ | ⟨hm, q⟩
      · exact absurd rfl ndd
      · exact h3 m d q ndd
theorem Cell.under_of {n : Nat} {a : Addr} {c : Cell} (h : CellOk P w K W H a c) (hn : W.n = n) : c.under n = true := by
  subst hn
  cases c with
  | lst xs => obtain ⟨vs, e, q⟩ := h; exact q.under
  | dic ks xs => obtain ⟨vs, e, l, q⟩ := h; exact q.under
  | obj c fs => obtain ⟨cl, na, vs, dx, e, q⟩ := h; exact q.under
  | dead => rfl
theorem CellOk.cut {n : Nat} {a : Addr} {c : Cell} (h : CellOk P w K W H a c) (u : c.under n = true) : CellOk P w K (W.cut n) H a c := by
  cases c with
  | lst xs => obtain ⟨vs, e, q⟩ := h; exact ⟨vs, e, q.cut u⟩
  | dic ks xs => obtain ⟨vs, e, l, q⟩ := h; exact ⟨vs, e, l, q.cut u⟩
  | obj c fs => obtain ⟨cl, na, vs, dx, e, q⟩ := h; exact ⟨cl, na, vs, dx, e, q.cut u⟩
  | dead => trivial
/-- the callee's cells are dropped -/
theorem Rel.cut {W0 : Wd} {σ0 : Store} {H0 : Hp} (r0 : Rel P w K W0 σ0 H0) (le : Le W0 W) (r : Rel P w K W σ H)
    (h : ∀ i c, i < σ0.length → σ[i]? = some c → (σ0[i]? = some c ∨ c.under σ0.length = true)) : Le W0 (W.cut σ0.length) ∧ Rel P w K (W.cut σ0.length) (σ.take σ0.length) H := by
  have hn : σ0.length ≤ σ.length := by rw [r0.len, r.len]; exact le.n
  have tk : ∀ {i : Nat} {c : Cell}, (σ.take σ0.length)[i]? = some c → i < σ0.length ∧ σ[i]? = some c := fun {i c} q => by
    rw [List.getElem?_take] at q
    split at q
    · exact ⟨by assumption, q⟩
    · cases q
  refine ⟨⟨⟨by show W0.n ≤ σ0.length; rw [r0.len]; exact Nat.le_refl _, le.μ, le.F⟩, le.R⟩, ⟨r.sub, by rw [List.length_take]; show _ = σ0.length; omega, fun i c q => ?_, fun i c q => r.sep i c (tk q).2, fun i j c d q1 q2 => r.inj i j c d (tk q1).2 (tk q2).2, fun a o q => ⟨(r.res a o q).1, (r.res a o q).2.1, fun n c e => (r.res a o q).2.2 n c (tk e).2⟩, r.one⟩⟩
  obtain ⟨hi, q⟩ := tk q
  refine (r.cell i c q).cut ?_
  rcases h i c hi q with z | z
  · exact Cell.under_of (r0.cell i c z) r0.len.symm
  · exact z
end
/-! ### objects under the making -/
def Wd.resv (W : Wd) (p : Addr) (o : HO) : Wd := { W with R := (p, o) :: W.R }
def Wd.free (W : Wd) (R : List (Addr × HO)) : Wd := { W with R := R }
section
variable {P : Program} {w : World} {K : PySem.W.Frag} {W : Wd} {σ : Store} {H : Hp}
theorem le0_R {W W' : Wd} (h1 : W'.n = W.n) (h2 : W'.μ = W.μ) (h3 : W'.F = W.F) : Le0 W W' := ⟨by rw [h1]; exact Nat.le_refl _, fun _ _ => by rw [h2], fun _ _ h => by rw [h3]; exact h⟩
theorem Rel.resv {p : Addr} {o : HO} (r : Rel P w K W σ H) (h : H p = none) : Rel P w K (W.resv p o) σ (upd H p o) where
  sub := fun a u e => by
    have e : W.F a = some u := e
    rw [upd_ne (ne_of_none (r.sub a u e) h)]; exact r.sub a u e
  len := r.len
  cell := fun n c e => (r.cell n c e).mono0 (le0_R (W := W) rfl rfl rfl) fun u (q : H (W.μ n) = some u) => by
    show upd H p o (W.μ n) = some u
    rw [upd_ne (ne_of_none q h)]; exact q
  sep := r.sep
  inj := r.inj
  res := fun a u q => by
    rcases List.mem_cons.mp (show (a, u) ∈ (p, o) :: W.R from q) with e | q
    · cases e
      exact ⟨upd_same, r.fresh h, fun n c e nd z => by
        obtain ⟨v, y⟩ := (r.cell n c e).there nd
        have z : W.μ n = p := z
        rw [z, h] at y; cases y⟩
    · obtain ⟨h1, h2, h3⟩ := r.res a u q
      exact ⟨by rw [upd_ne (ne_of_none h1 h)]; exact h1, h2, h3⟩
  one := by
    show ((p, o) :: W.R |>.map (·.1)).Nodup
    rw [List.map_cons, List.nodup_cons]
    refine ⟨fun hm => ?_, r.one⟩
    obtain ⟨⟨a, u⟩, q, e⟩ := List.mem_map.mp hm
    have e : a = p := e
    have := (r.res a u q).1
    rw [e, h] at this; cases this
/-- such an object is written -/
theorem Rel.rewr {p : Addr} {o o' : HO} {R : List (Addr × HO)} (r : Rel P w K W σ H) (hR : W.R = (p, o) :: R) : Rel P w K (W.free ((p, o') :: R)) σ (upd H p o') := by
  obtain ⟨h1, h2, h3⟩ := r.res p o (by rw [hR]; exact List.mem_cons_self)
  have hone := r.one
  rw [hR, List.map_cons, List.nodup_cons] at hone
  refine ⟨fun a u e => ?_, r.len, fun n c e => ?_, r.sep, r.inj, fun a u q => ?_, ?_⟩
  · have e : W.F a = some u := e
    rw [upd_ne (ne_of_none e h2)]; exact r.sub a u e
  · cases c with
    | dead => trivial
    | lst xs =>
      refine (r.cell n _ e).mono0 (le0_R (W := W) rfl rfl rfl) fun u (q : H (W.μ n) = some u) => ?_
      show upd H p o' (W.μ n) = some u
      rw [upd_ne (h3 n _ e (by simp))]; exact q
    | dic ks xs =>
      refine (r.cell n _ e).mono0 (le0_R (W := W) rfl rfl rfl) fun u (q : H (W.μ n) = some u) => ?_
      show upd H p o' (W.μ n) = some u
      rw [upd_ne (h3 n _ e (by simp))]; exact q
    | obj c0 fs =>
      refine (r.cell n _ e).mono0 (le0_R (W := W) rfl rfl rfl) fun u (q : H (W.μ n) = some u) => ?_
      show upd H p o' (W.μ n) = some u
      rw [upd_ne (h3 n _ e (by simp))]; exact q
  · rcases List.mem_cons.mp (show (a, u) ∈ (p, o') :: R from q) with e | q
    · cases e
      exact ⟨upd_same, h2, h3⟩
    · have ne : a ≠ p := fun e => hone.1 (e ▸ List.mem_map_of_mem (f := (·.1)) q)
      obtain ⟨g1, g2, g3⟩ := r.res a u (by rw [hR]; exact List.mem_cons_of_mem _ q)
      exact ⟨by rw [upd_ne ne]; exact g1, g2, g3⟩
  · show (((p, o') :: R).map (·.1)).Nodup
    rw [List.map_cons, List.nodup_cons]; exact hone
/-- it is done: data that never changes -/
theorem Rel.done {p : Addr} {o : HO} {R : List (Addr × HO)} (r : Rel P w K W σ H) (hR : W.R = (p, o) :: R) : Rel P w K ((W.free R).add p o) σ H := by
  obtain ⟨h1, h2, h3⟩ := r.res p o (by rw [hR]; exact List.mem_cons_self)
  have hone := r.one
  rw [hR, List.map_cons, List.nodup_cons] at hone
  have l0 : Le0 W ((W.free R).add p o) := ⟨Nat.le_refl _, fun _ _ => rfl, fun a u e => by
    show upd W.F p o a = some u
    rw [upd_ne (ne_of_none e h2)]; exact e⟩
  refine ⟨fun a u e => ?_, r.len, fun n c e => (r.cell n c e).mono0 l0 fun _ z => z, fun n c e nd => ?_, r.inj, fun a u q => ?_, hone.2⟩
  · have e : upd W.F p o a = some u := e
    by_cases ha : a = p
    · subst ha; rw [upd_same] at e; cases e; exact h1
    · rw [upd_ne ha] at e; exact r.sub a u e
  · show upd W.F p o (W.μ n) = none
    rw [upd_ne (h3 n c e nd)]; exact r.sep n c e nd
  · have q : (a, u) ∈ R := q
    have ne : a ≠ p := fun e => hone.1 (e ▸ List.mem_map_of_mem (f := (·.1)) q)
    obtain ⟨g1, g2, g3⟩ := r.res a u (by rw [hR]; exact List.mem_cons_of_mem _ q)
    refine ⟨g1, ?_, g3⟩
    show upd W.F p o a = none
    rw [upd_ne ne]; exact g2
/-- it is done: a cell -/
theorem Rel.doneC {p : Addr} {o : HO} {c : Cell} {R : List (Addr × HO)} (r : Rel P w K W σ H) (hR : W.R = (p, o) :: R) (hc : CellOk P w K W H p c) : Rel P w K ((W.free R).push p) (σ ++ [c]) H := by
  obtain ⟨h1, h2, h3⟩ := r.res p o (by rw [hR]; exact List.mem_cons_self)
  have hone := r.one
  rw [hR, List.map_cons, List.nodup_cons] at hone
  have l0 : Le0 W ((W.free R).push p) := (le0_R (W := W) (W' := W.free R) rfl rfl rfl).trans (lePush (W.free R) p).toLe0
  have at0 : ∀ {n : Nat}, n < σ.length → ((W.free R).push p).μ n = W.μ n := fun {n} hn => by
    rw [r.len] at hn
    show (if n = W.n then p else W.μ n) = W.μ n
    rw [if_neg (Nat.ne_of_lt hn)]
  have at1 : ((W.free R).push p).μ σ.length = p := by
    show (if σ.length = W.n then p else W.μ σ.length) = p
    rw [if_pos r.len]
  refine ⟨r.sub, by rw [List.length_append, List.length_singleton, r.len]; rfl, fun n c' e => ?_, fun n c' e nd => ?_, fun n m c1 c2 e1 e2 n1 n2 q => ?_, fun a u q => ?_, hone.2⟩
  · rcases get_snoc e with ⟨e, hn⟩ | ⟨rfl, rfl⟩
    · rw [at0 hn]; exact (r.cell n c' e).mono0 l0 fun _ z => z
    · rw [at1]; exact hc.mono0 l0 fun _ z => z
  · show W.F (((W.free R).push p).μ n) = none
    rcases get_snoc e with ⟨e, hn⟩ | ⟨rfl, rfl⟩
    · rw [at0 hn]; exact r.sep n c' e nd
    · rw [at1]; exact h2
  · rcases get_snoc e1 with ⟨f1, hn⟩ | ⟨f1, g1⟩ <;> rcases get_snoc e2 with ⟨f2, hm⟩ | ⟨f2, g2⟩
    · rw [at0 hn, at0 hm] at q; exact r.inj n m c1 c2 f1 f2 n1 n2 q
    · rw [at0 hn, f2, at1] at q; exact absurd q (h3 n c1 f1 n1)
    · rw [at0 hm, f1, at1] at q; exact absurd q.symm (h3 m c2 f2 n2)
    · exact f1.trans f2.symm
  · have q : (a, u) ∈ R := q
    have ne : a ≠ p := fun e => hone.1 (e ▸ List.mem_map_of_mem (f := (·.1)) q)
    obtain ⟨g1, g2, g3⟩ := r.res a u (by rw [hR]; exact List.mem_cons_of_mem _ q)
    refine ⟨g1, g2, fun n c' e nd => ?_⟩
    rcases get_snoc e with ⟨e, hn⟩ | ⟨rfl, rfl⟩
    · rw [at0 hn]; exact g3 n c' e nd
    · rw [at1]; exact Ne.symm ne
end
/-! ### the readings -/
/-- an exception: own class c with one attribute d -/
structure Exa where
  at_ : Nat → Option Addr
  fld : Nat → Option Str
section
variable (P : Program) (w : World) (K : PySem.W.Frag) (ea : Exa) (Wx : WX)
def ExcR (W : Wd) (c : Nat) (d : D) (cls : Value) (dx : Option Addr) (H : Hp) : Prop :=
  ∃ C, ea.at_ c = some C ∧ cls = .ref C ∧ match ea.fld c with
    | none => dx = none
    | some f => ∃ a v, dx = some a ∧ H a = some (.xd [(f, v)]) ∧ Rep P w K W d v
/-- what an evaluation's outcome asks -/
def Post (st : St) (W : Wd) (r : Res D) (Q : VK) : Prop := match r with
  | .ok d σ => ∀ W' v H, Le W W' → Rel P w K W' σ H → Rep P w K W' d v → Q v H
  | .exc c d σ => ∀ W' H cls dx, Le W W' → Rel P w K W' σ H → ExcR P w K ea W' c d cls dx H → Wx cls dx st H
  | .bad => False
def Posts (st : St) (W : Wd) (r : Res (List D)) (Q : List V → Hp → Prop) : Prop := match r with
  | .ok ds σ => ∀ W' vs H, Le W W' → Rel P w K W' σ H → Reps P w K W' ds vs → Q vs H
  | .exc c d σ => ∀ W' H cls dx, Le W W' → Rel P w K W' σ H → ExcR P w K ea W' c d cls dx H → Wx cls dx st H
  | .bad => False
/-- an expression's reading -/
def tE (f : Env → Store → Res D) : TE := fun st H Q => ∃ W ρ σ, EnvR P w K W ρ st ∧ Rel P w K W σ H ∧ Post P w K ea Wx st W (f ρ σ) Q
def tA (f : Env → Store → Res (List D)) : TA := fun st H Q => ∃ W ρ σ, EnvR P w K W ρ st ∧ Rel P w K W σ H ∧ Posts P w K ea Wx st W (f ρ σ) Q
/-- a test's: the truth of the value -/
def tT (f : Env → Store → Res D) : TT := fun st H Q => ∃ W ρ σ, EnvR P w K W ρ st ∧ Rel P w K W σ H ∧ match f ρ σ with
  | .ok d σ' => ∃ b, truthD (view σ' d) = some b ∧ ∀ W' H, Le W W' → Rel P w K W' σ' H → Q b H
  | .exc c d σ' => ∀ W' H cls dx, Le W W' → Rel P w K W' σ' H → ExcR P w K ea W' c d cls dx H → Wx cls dx st H
  | .bad => False
end
section
variable {P : Program} {w : World} {K : PySem.W.Frag} {ea : Exa} {Wx : WX} {st : St} {W W1 : Wd} {ρ : Env} {σ : Store} {H : Hp}
theorem Post.mono {r : Res D} {Q : VK} (le : Le W W1) (h : Post P w K ea Wx st W r Q) : Post P w K ea Wx st W1 r Q := by
  cases r with
  | ok d σ => exact fun W' v H l => h W' v H (le.trans l)
  | exc c d σ => exact fun W' H cls dx l => h W' H cls dx (le.trans l)
  | bad => exact h
theorem Posts.mono {r : Res (List D)} {Q : List V → Hp → Prop} (le : Le W W1) (h : Posts P w K ea Wx st W r Q) : Posts P w K ea Wx st W1 r Q := by
  cases r with
  | ok d σ => exact fun W' v H l => h W' v H (le.trans l)
  | exc c d σ => exact fun W' H cls dx l => h W' H cls dx (le.trans l)
  | bad => exact h
theorem EnvR.mono (le : Le W W1) (h : EnvR P w K W ρ st) : EnvR P w K W1 ρ st :=
  ⟨h.1, fun i d e => let ⟨v, a, b⟩ := h.2 i d e; ⟨v, a, b.mono le⟩⟩
theorem EnvR.set {d : D} {v : V} (h : EnvR P w K W ρ st) (r : Rep P w K W d v) (i : Nat) : EnvR P w K W (ρ.set i (some d)) (st.set i (some v)) := by
  refine ⟨by simp [h.1], fun j e q => ?_⟩
  rcases get_set q with ⟨rfl, z⟩ | ⟨hj, q⟩
  · cases z
    have hl : j < ρ.length := by
      have := (List.getElem?_eq_some_iff.mp q).1
      simpa using this
    exact ⟨v, by rw [List.getElem?_set_self (by rw [← h.1]; exact hl)], r⟩
  · obtain ⟨u, a, b⟩ := h.2 j e q
    exact ⟨u, by rw [List.getElem?_set_ne (Ne.symm hj)]; exact a, b⟩
/-- one part, then the rest -/
theorem tE.bind {f : Env → Store → Res D} {k : D → Store → Res D} {Q T : VK} (hρ : EnvR P w K W ρ st) (hσ : Rel P w K W σ H) (h : Post P w K ea Wx st W ((f ρ σ).bind k) Q)
    (c : ∀ d σ1 W1 v H1, Le W W1 → Rel P w K W1 σ1 H1 → Rep P w K W1 d v → Post P w K ea Wx st W1 (k d σ1) Q → T v H1) : tE P w K ea Wx f st H T := by
  refine ⟨W, ρ, σ, hρ, hσ, ?_⟩
  cases e : f ρ σ with
  | ok d σ1 => rw [e] at h; exact fun W1 v H1 le r q => c d σ1 W1 v H1 le r q (Post.mono le h)
  | exc c d σ1 => rw [e] at h; exact h
  | bad => rw [e] at h; exact h
theorem tE.bindA {f : Env → Store → Res D} {k : D → Store → Res (List D)} {Q : List V → Hp → Prop} {T : VK} (hρ : EnvR P w K W ρ st) (hσ : Rel P w K W σ H) (h : Posts P w K ea Wx st W ((f ρ σ).bind k) Q)
    (c : ∀ d σ1 W1 v H1, Le W W1 → Rel P w K W1 σ1 H1 → Rep P w K W1 d v → Posts P w K ea Wx st W1 (k d σ1) Q → T v H1) : tE P w K ea Wx f st H T := by
  refine ⟨W, ρ, σ, hρ, hσ, ?_⟩
  cases e : f ρ σ with
  | ok d σ1 => rw [e] at h; exact fun W1 v H1 le r q => c d σ1 W1 v H1 le r q (Posts.mono le h)
  | exc c d σ1 => rw [e] at h; exact h
  | bad => rw [e] at h; exact h
theorem tA.bind {f : Env → Store → Res (List D)} {k : List D → Store → Res D} {Q : VK} {T : List V → Hp → Prop} (hρ : EnvR P w K W ρ st) (hσ : Rel P w K W σ H) (h : Post P w K ea Wx st W ((f ρ σ).bind k) Q)
    (c : ∀ ds σ1 W1 vs H1, Le W W1 → Rel P w K W1 σ1 H1 → Reps P w K W1 ds vs → Post P w K ea Wx st W1 (k ds σ1) Q → T vs H1) : tA P w K ea Wx f st H T := by
  refine ⟨W, ρ, σ, hρ, hσ, ?_⟩
  cases e : f ρ σ with
  | ok d σ1 => rw [e] at h; exact fun W1 v H1 le r q => c d σ1 W1 v H1 le r q (Post.mono le h)
  | exc c d σ1 => rw [e] at h; exact h
  | bad => rw [e] at h; exact h
theorem tA.bindA {f : Env → Store → Res (List D)} {k : List D → Store → Res (List D)} {Q T : List V → Hp → Prop} (hρ : EnvR P w K W ρ st) (hσ : Rel P w K W σ H) (h : Posts P w K ea Wx st W ((f ρ σ).bind k) Q)
    (c : ∀ ds σ1 W1 vs H1, Le W W1 → Rel P w K W1 σ1 H1 → Reps P w K W1 ds vs → Posts P w K ea Wx st W1 (k ds σ1) Q → T vs H1) : tA P w K ea Wx f st H T := by
  refine ⟨W, ρ, σ, hρ, hσ, ?_⟩
  cases e : f ρ σ with
  | ok d σ1 => rw [e] at h; exact fun W1 v H1 le r q => c d σ1 W1 v H1 le r q (Posts.mono le h)
  | exc c d σ1 => rw [e] at h; exact h
  | bad => rw [e] at h; exact h
/-- the end: a value over the heap as it stands -/
theorem Post.here {d : D} {v : V} {Q : VK} (h : Post P w K ea Wx st W (.ok d σ) Q) (hσ : Rel P w K W σ H) (r : Rep P w K W d v) : Q v H := h W v H (Le.refl W) hσ r
/-- the end: a new tuple, list, dict -/
theorem Post.newT {xs : List D} {vs : List V} {Q : VK} (h : Post P w K ea Wx st W (newT xs σ) Q) (hσ : Rel P w K W σ H) (r : Reps P w K W xs vs) :
    vs.length ≤ sizeLine ∧ ∀ p (o : Obj), H p = none → o.dict = none → Q (.ref p) (upd H p (.frz o (.tup vs))) := by
  unfold Iv.newT at h
  split at h
  · rename_i hl
    refine ⟨by rw [← r.length]; exact hl, fun p o hp hd => h _ _ _ (hσ.leAdd hp) (hσ.add hp) ?_⟩
    simp only [Rep]
    exact ⟨p, vs, rfl, .inl ⟨o, upd_same, hd⟩, r.mono (hσ.leAdd hp)⟩
  · exact False.elim h
theorem Post.newL {mu : Bool} {xs : List D} {vs : List V} {Q : VK} (h : Post P w K ea Wx st W (newL mu xs σ) Q) (hσ : Rel P w K W σ H) (r : Reps P w K W xs vs) :
    vs.length ≤ sizeLine ∧ ∀ p, H p = none → Q (.ref p) (upd H p (.lst vs)) := by
  unfold Iv.newL at h
  split at h
  · rename_i hl
    refine ⟨by rw [← r.length]; exact hl, fun p hp => ?_⟩
    cases mu with
    | false =>
      refine h _ _ _ (hσ.leAdd hp) (hσ.add hp) ?_
      simp only [Rep]
      exact ⟨p, vs, rfl, upd_same, r.mono (hσ.leAdd hp)⟩
    | true =>
      refine h _ _ _ (lePush W p) (hσ.push hp ⟨vs, upd_same, r.mono (lePush W p)⟩) ?_
      simp only [Rep]
      refine ⟨by rw [hσ.len]; exact Nat.lt_succ_self _, ?_⟩
      show V.ref p = V.ref (if σ.length = W.n then p else W.μ σ.length)
      rw [if_pos hσ.len]
  · exact False.elim h
theorem Post.newD {mu : Bool} {ks : List Key} {xs : List D} {vs : List V} {Q : VK} (h : Post P w K ea Wx st W (newD mu ks xs σ) Q) (hσ : Rel P w K W σ H) (r : Reps P w K W xs vs) (hl : ks.length = vs.length) :
    ∀ p, H p = none → Q (.ref p) (upd H p (.dK (ks.zip vs))) := by
  unfold Iv.newD at h
  intro p hp
  cases mu with
  | false =>
    refine h _ _ _ (hσ.leAdd hp) (hσ.add hp) ?_
    simp only [Rep]
    exact ⟨p, vs, rfl, upd_same, hl, r.mono (hσ.leAdd hp)⟩
  | true =>
    refine h _ _ _ (lePush W p) (hσ.push hp ⟨vs, upd_same, hl, r.mono (lePush W p)⟩) ?_
    simp only [Rep]
    refine ⟨by rw [hσ.len]; exact Nat.lt_succ_self _, ?_⟩
    show V.ref p = V.ref (if σ.length = W.n then p else W.μ σ.length)
    rw [if_pos hσ.len]
/-! ### what a view shows -/
theorem Rel.ro {d : D} {v : V} {xs : List D} (hσ : Rel P w K W σ H) (r : Rep P w K W d v) (e : view σ d = .ro xs) : ∃ a vs, v = .ref a ∧ SqL K H a vs ∧ Reps P w K W xs vs := by
  cases d with
  | ro ys =>
    have e : D.ro ys = .ro xs := e
    cases e
    simp only [Rep] at r
    obtain ⟨a, vs, rfl, s, q⟩ := r
    exact ⟨a, vs, rfl, sqL_ext hσ.sub s, q⟩
  | ref n =>
    have e : (match σ[n]? with
      | some (.lst xs) => D.lst xs
      | some (.dic ks vs) => .dic ks vs
      | _ => .ref n) = .ro xs := e
    split at e <;> cases e
  | _ => cases e
theorem Rel.set {d : D} {v : V} {xs : List Str} (hσ : Rel P w K W σ H) (r : Rep P w K W d v) (e : view σ d = .set xs) : ∃ a, v = .ref a ∧ H a = some (SetHO P w a xs) := by
  cases d with
  | set ys =>
    have e : D.set ys = .set xs := e
    cases e
    simp only [Rep] at r
    obtain ⟨a, rfl, s⟩ := r
    exact ⟨a, rfl, hσ.sub _ _ s⟩
  | ref n =>
    have e : (match σ[n]? with
      | some (.lst xs) => D.lst xs
      | some (.dic ks vs) => .dic ks vs
      | _ => .ref n) = .set xs := e
    split at e <;> cases e
  | _ => cases e
theorem Rel.lst {d : D} {v : V} {xs : List D} (hσ : Rel P w K W σ H) (r : Rep P w K W d v) (e : view σ d = .lst xs) : ∃ a vs, v = .ref a ∧ H a = some (.lst vs) ∧ Reps P w K W xs vs := by
  cases d with
  | lst ys =>
    have e : D.lst ys = .lst xs := e
    cases e
    simp only [Rep] at r
    obtain ⟨a, vs, rfl, s, q⟩ := r
    exact ⟨a, vs, rfl, hσ.sub _ _ s, q⟩
  | ref n =>
    simp only [Rep] at r
    have e : (match σ[n]? with
      | some (.lst xs) => D.lst xs
      | some (.dic ks vs) => .dic ks vs
      | _ => .ref n) = .lst xs := e
    split at e
    · rename_i ys q
      cases e
      obtain ⟨vs, z, q⟩ := hσ.cell n _ q
      exact ⟨W.μ n, vs, r.2, z, q⟩
    · cases e
    · cases e
  | _ => cases e
theorem Rel.tupP {d : D} {v : V} {xs : List D} (hσ : Rel P w K W σ H) (r : Rep P w K W d v) (e : view σ d = .tup xs) : ∃ a vs, v = .ref a ∧ PlT K H a vs ∧ Reps P w K W xs vs := by
  cases d with
  | tup ys =>
    have e : D.tup ys = .tup xs := e
    cases e
    simp only [Rep] at r
    obtain ⟨a, vs, rfl, s, q⟩ := r
    exact ⟨a, vs, rfl, plT_ext hσ.sub s, q⟩
  | ref n =>
    have e : (match σ[n]? with
      | some (.lst xs) => D.lst xs
      | some (.dic ks vs) => .dic ks vs
      | _ => .ref n) = .tup xs := e
    split at e <;> cases e
  | _ => cases e
theorem Rel.tup {d : D} {v : V} {xs : List D} (hσ : Rel P w K W σ H) (r : Rep P w K W d v) (e : view σ d = .tup xs) : ∃ a vs, v = .ref a ∧ SqT K H a vs ∧ Reps P w K W xs vs := by
  obtain ⟨a, vs, h1, h2, h3⟩ := hσ.tupP r e
  exact ⟨a, vs, h1, h2.sq, h3⟩
theorem Rel.dic {d : D} {v : V} {ks : List Key} {xs : List D} (hσ : Rel P w K W σ H) (r : Rep P w K W d v) (e : view σ d = .dic ks xs) : ∃ a vs, v = .ref a ∧ H a = some (.dK (ks.zip vs)) ∧ ks.length = vs.length ∧ Reps P w K W xs vs := by
  cases d with
  | dic ks' ys =>
    have e : D.dic ks' ys = .dic ks xs := e
    cases e
    simp only [Rep] at r
    obtain ⟨a, vs, rfl, s, l, q⟩ := r
    exact ⟨a, vs, rfl, hσ.sub _ _ s, l, q⟩
  | ref n =>
    simp only [Rep] at r
    have e : (match σ[n]? with
      | some (.lst xs) => D.lst xs
      | some (.dic ks vs) => .dic ks vs
      | _ => .ref n) = .dic ks xs := e
    split at e
    · cases e
    · rename_i ks' ys q
      cases e
      obtain ⟨vs, z, l, q⟩ := hσ.cell n _ q
      exact ⟨W.μ n, vs, r.2, z, l, q⟩
    · cases e
  | _ => cases e
theorem Rep.scal {d e : D} {v : V} (r : Rep P w K W d v) (h : view σ d = e) : match e with
    | .non => v = .non
    | .bl b => v = .bl b
    | .int i => v = .int i
    | .str x => v = .str x
    | _ => True := by
  cases d with
  | ref n =>
    have h : (match σ[n]? with
      | some (.lst xs) => D.lst xs
      | some (.dic ks vs) => .dic ks vs
      | _ => .ref n) = e := h
    split at h <;> subst h <;> trivial
  | _ => cases h <;> first | trivial | (simp only [Rep] at r; exact r)
theorem Rep.int {d : D} {v : V} {i : Int} (r : Rep P w K W d v) (h : view σ d = .int i) : v = .int i := r.scal h
theorem Rep.str {d : D} {v : V} {x : Str} (r : Rep P w K W d v) (h : view σ d = .str x) : v = .str x := r.scal h
theorem Rep.bl {d : D} {v : V} {b : Bool} (r : Rep P w K W d v) (h : view σ d = .bl b) : v = .bl b := r.scal h
theorem Rep.non {d : D} {v : V} (r : Rep P w K W d v) (h : view σ d = .non) : v = .non := r.scal h
end
end Iv

set_option Elab.async false
set_option linter.all false
set_option maxHeartbeats 2000000
/-! tuples whose object has no dict of its own -/
namespace Iv
open PySem PySem.Spec L2
section
variable {X : Cx} {pins : List (Addr × Obj)} {σ : L2.St} {H : Hp} {s : Shared} {e : Expr} {es : List Expr} {t : TA} {pos : Pos}
/-- a new tuple: its object, laid -/
theorem Inv.tupNew {xs : List V} {its : List Value} (I : Inv X pins σ H s) (hz : xs.length ≤ sizeLine) (r : Vals xs its) :
    ∃ o : Obj, o.dict = none ∧ Inv X pins σ (upd H s.heap.objs.size (.frz o (.tup xs))) { s with heap := s.heap.push { cls := .type "tuple", data := .seq its.toArray } } :=
  ⟨_, rfl, I.laid (t' := s.toks) (fun b u e => Heap.get?_push_of_some _ e) (Nat.le_refl _) (show ObjOk X.prog X.w _ _ _ (.frz _ (.tup xs)) from
    ⟨Heap.get?_push_size _ rfl, hz, its, r, PyProof.Rows.IsTup.new _ _⟩)⟩
def tTupF (t : TA) : TE := fun σ H Q => t σ H fun xs H1 => xs.length ≤ sizeLine ∧ ∀ p o, H1 p = none → o.dict = none → Q (.ref p) (upd H1 p (.frz o (.tup xs)))
theorem pe_tupF {x1} (h : PA X es t) : PE X (.Tuple es x1 pos) (tTupF t) := by
  refine ⟨fun pins s σ H Q I hq => ?_⟩
  refine wpAny_Tuple_spliced (thn (h.run pos pins s σ H _ I hq) fun us s1 ⟨xs, H1, I1, r, z, q⟩ => ⟨by rw [← r.length]; exact z, ?_⟩)
  have hf : H1 s1.heap.objs.size = none := I1.hok.fresh (Nat.le_refl _)
  refine ⟨.ref s1.heap.objs.size, upd H1 s1.heap.objs.size (.frz { cls := .type "tuple", data := .seq us.toArray } (.tup xs)), I1.laid (t' := s1.toks) (fun b u e => Heap.get?_push_of_some _ e) (Nat.le_refl _) ?_, rfl, q _ _ hf rfl⟩
  exact ⟨Heap.get?_push_size _ rfl, z, us, r, ⟨_, Heap.get?_push_size _ rfl, rfl, _, rfl⟩⟩
theorem call_tuple_ofF : CallR X (.type "tuple") (fun xs H Q => ∃ p ys, xs = [.ref p] ∧ ((SqL X.K H p ys ∧ ∀ l o, H l = none → o.dict = none → Q (.ref l) (upd H l (.frz o (.tup ys)))) ∨ (SqT X.K H p ys ∧ Q (.ref p) H))) := by
  intro pins s σ H xs us Q I r h
  obtain ⟨p, ys, rfl, h⟩ := h
  obtain ⟨u, rfl, rx⟩ := vals1 r
  cases rx
  rcases h with ⟨hq, q⟩ | ⟨hq, q⟩
  · obtain ⟨its, r', pl, hz⟩ := I.list hq
    have hlen := r'.length
    refine call_tuple_list pl.isList (fun h' kp => ?_) (by simp only [List.size_toArray] <;> omega)
    have I1 : Inv X pins σ H { s with heap := h' } := I.kept (t' := s.toks) kp
    obtain ⟨o, ho, I2⟩ := Inv.tupNew I1 hz r'
    exact ⟨.ref h'.objs.size, _, I2, rfl, q _ o (I1.hok.fresh (Nat.le_refl _)) ho⟩
  · obtain ⟨its, r', pl, hz⟩ := I.tuple hq
    exact call_tuple_same pl ⟨.ref p, H, I, rfl, q⟩
def rCatF (K : PySem.W.Frag) : R2 := fun x y H Q => ∃ a b xs ys, x = .ref a ∧ y = .ref b ∧ SqT K H a xs ∧ SqT K H b ys ∧ xs.length + ys.length ≤ sizeLine ∧
  (xs = [] → Q (.ref b) H) ∧ (xs ≠ [] → ys = [] → Q (.ref a) H) ∧ (xs ≠ [] → ys ≠ [] → ∀ p o, H p = none → o.dict = none → Q (.ref p) (upd H p (.frz o (.tup (xs ++ ys)))))
theorem op_catF : OpR X (binaryOp .Add) (rCatF X.K) := by
  intro pins s σ H x y v u Q I rx ry h
  obtain ⟨a, b, xs, ys, rfl, rfl, ha, hb, hz, q0, q1, q2⟩ := h
  cases rx
  cases ry
  obtain ⟨its, r1, p1, _⟩ := I.tuple ha
  obtain ⟨its2, r2, p2, _⟩ := I.tuple hb
  by_cases hx : xs = []
  · subst hx
    cases r1
    exact cat_tup0 p1 p2 ⟨.ref b, H, I, rfl, q0 rfl⟩
  · refine HT.cat_tup p1 p2 (fun z => hx (r1.nil_iff.mp z)) (fun z => ⟨.ref a, H, I, rfl, q1 hx (r2.nil_iff.mp z)⟩) (fun z => ?_) (by rw [← r1.length, ← r2.length]; exact hz)
    refine ⟨.ref s.heap.objs.size, _, I.laid (t' := s.toks) (o := .frz { cls := .type "tuple", data := .seq (its ++ its2).toArray } (.tup (xs ++ ys))) (fun b ob q => Heap.get?_push_of_some _ q) (Nat.le_refl _) ?_, rfl, q2 hx (fun w => z (r2.nil_iff.mpr w)) _ _ (I.hok.fresh (Nat.le_refl _)) rfl⟩
    refine ⟨?_, by rw [List.length_append]; exact hz, _, r1.append r2, ?_⟩
    · refine (Heap.get?_push_size _ rfl).trans ?_
      simp
    · have := PyProof.Rows.IsTup.new s.heap (its.toArray ++ its2.toArray)
      simpa using this
def rSlF (K : PySem.W.Frag) : V → Option Int → Option Int → Hp → VK → Prop := fun x lo hi H Q => ∃ a xs, x = .ref a ∧ SqT K H a xs ∧
  (HT.sIx xs.length 0 lo = 0 ∧ HT.sIx xs.length xs.length hi = xs.length → Q (.ref a) H) ∧ (¬ (HT.sIx xs.length 0 lo = 0 ∧ HT.sIx xs.length xs.length hi = xs.length) → ∀ p o, H p = none → o.dict = none → Q (.ref p) (upd H p (.frz o (.tup (cutV xs lo hi)))))
theorem sl_tupF : SlR X (rSlF X.K) := by
  intro pins s σ H x v vl vu lo hi sl Q I rx hs pl pu h
  obtain ⟨a, xs, rfl, hx, q1, q2⟩ := h
  cases rx
  obtain ⟨its, r, ht, hz⟩ := I.tuple hx
  have hlen : its.toArray.size = xs.length := by rw [List.size_toArray]; exact r.length.symm
  by_cases hw : HT.sIx xs.length 0 lo = 0 ∧ HT.sIx xs.length xs.length hi = xs.length
  · refine ⟨"tuple", _, PyProof.Rows.slot_tuple_getitem.lookup, ht.typeIs, ?_⟩
    exact getItem_tuple_whole ht hs pl pu (by rw [hlen]; exact hw) ⟨.ref a, H, I, rfl, q1 hw⟩
  · refine ⟨"tuple", _, PyProof.Rows.slot_tuple_getitem.lookup, ht.typeIs, ?_⟩
    refine HT.getItem_tuple_cut ht hs pl pu (by rw [hlen]; exact hw) ?_ (by rw [hlen]; exact hz)
    rw [hlen]
    refine ⟨.ref s.heap.objs.size, _, I.laid (t' := s.toks) (o := .frz { cls := .type "tuple", data := .seq (List.take (HT.sIx xs.length xs.length hi - HT.sIx xs.length 0 lo) (List.drop (HT.sIx xs.length 0 lo) its.toArray.toList)).toArray } (.tup (cutV xs lo hi))) (fun b ob q => Heap.get?_push_of_some _ q) (Nat.le_refl _) ?_, rfl, q2 hw _ _ (I.hok.fresh (Nat.le_refl _)) rfl⟩
    exact ⟨Heap.get?_push_size _ rfl, Nat.le_trans (cutV_length xs lo hi) hz, _, (r.drop (HT.sIx xs.length 0 lo)).take (HT.sIx xs.length xs.length hi - HT.sIx xs.length 0 lo), PyProof.Rows.IsTup.new _ _⟩
end
end Iv

set_option Elab.async false
set_option linter.all false
set_option maxHeartbeats 2000000
/-! operators by values -/
namespace Iv
open PySem PySem.Spec L2

def BOp.py : BOp → Operator
  | .add => .Add | .sub => .Sub | .mul => .Mult | .fdiv => .FloorDiv | .mod => .Mod | .pow => .Pow
def COp.py : COp → CmpOp
  | .eq => .Eq | .ne => .NotEq | .lt => .Lt | .le => .LtE | .gt => .Gt | .ge => .GtE | .isin => .In | .notin => .NotIn | .is => .Is | .isnot => .IsNot
/-- what every place of the code has -/
structure Pl (X : Cx) : Prop where
  calm : X.calm = true
  units : X.A.units + 200 < cLine
  guards : X.A.guards = some []
section
variable {X : Cx} {ea : Exa} {Wx : WX} {st0 : L2.St}
def rBin (X : Cx) (ea : Exa) (Wx : WX) (st0 : L2.St) (op : BOp) : R2 := fun x y H Q => ∃ W σ a b, Rel X.prog X.w X.K W σ H ∧ Rep X.prog X.w X.K W a x ∧ Rep X.prog X.w X.K W b y ∧ Post X.prog X.w X.K ea Wx st0 W (binD op a b σ) Q
theorem lim_eq : lim = sizeLine := by rw [sizeLine_eq]; rfl
theorem op_bin (op : BOp) : OpR X (binaryOp op.py) (rBin X ea Wx st0 op) := by
  intro pins s σ0 H x y v u Q I rx ry h
  obtain ⟨W, σ, a, b, hσ, ra, rb, h⟩ := h
  unfold binD at h
  split at h
  · rename_i i j e1 e2
    have := ra.int e1; have := rb.int e2; subst x y
    exact op_add pins s σ0 H _ _ v u Q I rx ry ⟨i, j, rfl, rfl, h.here hσ (by simp only [Rep])⟩
  · rename_i i j e1 e2
    have := ra.int e1; have := rb.int e2; subst x y
    exact op_sub pins s σ0 H _ _ v u Q I rx ry ⟨i, j, rfl, rfl, h.here hσ (by simp only [Rep])⟩
  · rename_i i j e1 e2
    have := ra.int e1; have := rb.int e2; subst x y
    split at h
    · rename_i hm
      exact op_mul pins s σ0 H _ _ v u Q I rx ry ⟨i, j, rfl, rfl, of_decide_eq_true (p := (-(2 ^ 64) < i ∧ i < 2 ^ 64) ∨ (-(2 ^ 64) < j ∧ j < 2 ^ 64)) hm, h.here hσ (by simp only [Rep])⟩
    · exact False.elim h
  · rename_i i j e1 e2
    have := ra.int e1; have := rb.int e2; subst x y
    split at h
    · rename_i hm
      exact op_fdivN pins s σ0 H _ _ v u Q I rx ry ⟨i, j, rfl, rfl, hm, h.here hσ (by simp only [Rep])⟩
    · exact False.elim h
  · rename_i i j e1 e2
    have := ra.int e1; have := rb.int e2; subst x y
    split at h
    · rename_i hm
      exact op_modN pins s σ0 H _ _ v u Q I rx ry ⟨i, j, rfl, rfl, hm, h.here hσ (by simp only [Rep])⟩
    · exact False.elim h
  · rename_i i j e1 e2
    have := ra.int e1; have := rb.int e2; subst x y
    split at h
    · rename_i hm
      exact op_pow pins s σ0 H _ _ v u Q I rx ry ⟨i, j, rfl, rfl, hm, h.here hσ (by simp only [Rep])⟩
    · exact False.elim h
  · rename_i i j e1 e2
    have := ra.str e1; have := rb.str e2; subst x y
    split at h
    · rename_i hm
      exact op_add_str pins s σ0 H _ _ v u Q I rx ry ⟨i, j, rfl, rfl, by rw [← lim_eq]; exact hm, h.here hσ (by simp only [Rep])⟩
    · exact False.elim h
  · rename_i xs ys e1 e2
    obtain ⟨p, vs, rfl, h1, q1⟩ := hσ.lst ra e1
    obtain ⟨q, us, rfl, h2, q2⟩ := hσ.lst rb e2
    obtain ⟨hl, hn⟩ := h.newL hσ (q1.append q2)
    rw [List.length_append] at hl
    exact op_cat pins s σ0 H _ _ v u Q I rx ry ⟨p, q, vs, us, rfl, rfl, h1, h2, hl, hn⟩
  · rename_i xs ys e1 e2
    obtain ⟨p, vs, rfl, h1, q1⟩ := hσ.tup ra e1
    obtain ⟨q, us, rfl, h2, q2⟩ := hσ.tup rb e2
    obtain ⟨hl, hn⟩ := h.newT hσ (q1.append q2)
    rw [List.length_append] at hl
    have hh : ∀ {z : V}, Rep X.prog X.w X.K W (.tup (xs ++ ys)) z → Q z H := fun {z} rz => by
      unfold newT at h
      rw [if_pos (by rw [lim_eq, List.length_append, q1.length, q2.length]; exact hl)] at h
      exact h.here hσ rz
    refine op_catF pins s σ0 H _ _ v u Q I rx ry ⟨p, q, vs, us, rfl, rfl, h1, h2, hl, fun e => hh ?_, fun e e' => hh ?_, fun _ _ => hn⟩
    · subst e
      cases xs with
      | cons d ds => have := q1.length; simp at this
      | nil =>
        cases b with
        | tup zs =>
          have e2 : D.tup zs = .tup ys := e2
          cases e2
          simpa using rb
        | ref n =>
          have e2 : (match σ[n]? with
            | some (.lst xs) => D.lst xs
            | some (.dic ks vs) => .dic ks vs
            | _ => .ref n) = .tup ys := e2
          split at e2 <;> cases e2
        | _ => cases e2
    · subst e'
      cases ys with
      | cons d ds => have := q2.length; simp at this
      | nil =>
        cases a with
        | tup zs =>
          have e1 : D.tup zs = .tup xs := e1
          cases e1
          simpa using ra
        | ref n =>
          have e1 : (match σ[n]? with
            | some (.lst xs) => D.lst xs
            | some (.dic ks vs) => .dic ks vs
            | _ => .ref n) = .tup xs := e1
          split at e1 <;> cases e1
        | _ => cases e1
  · rename_i xs k e1 e2
    obtain ⟨p, vs, rfl, h1, q1⟩ := hσ.lst ra e1
    have := rb.int e2; subst y
    split at h
    · rename_i hm
      obtain ⟨hl, hn⟩ := h.newL hσ (q1.rep k.toNat)
      rw [PyProof.Rows.lm_len_rep_flat, Nat.mul_comm] at hl
      exact op_rep pins s σ0 H _ _ v u Q I rx ry ⟨p, k, vs, rfl, rfl, h1, hm.1, hm.2, hl, hn⟩
    · exact False.elim h
  · exact False.elim h

/-! ### data -/
mutual
theorem Rep.dp {W : Wd} {H : Hp} {K : PySem.W.Frag} {P : Program} {w : World} (sub : ∀ a o, W.F a = some o → H a = some o) : ∀ {d : D} {v : V}, Rep P w K W d v → d.pure = true → d.py.canLay0 = true → Dp K H v d.py
  | .non, _, r, _, _ => by simp only [Rep] at r; subst r; simp only [D.py]; exact .non
  | .bl _, _, r, _, _ => by simp only [Rep] at r; subst r; simp only [D.py]; exact .bl _
  | .int _, _, r, _, _ => by simp only [Rep] at r; subst r; simp only [D.py]; exact .int _
  | .str _, _, r, _, _ => by simp only [Rep] at r; subst r; simp only [D.py]; exact .str _
  | .tup ds, v, r, p, c => by
    simp only [Rep] at r
    simp only [D.pure] at p
    simp only [D.py, PyData.canLay0] at c ⊢
    obtain ⟨a, vs, rfl, s, q⟩ := r
    exact .tup (sqT_ext sub s.sq) (Reps.dp sub q p c)
  | .lst ds, v, r, p, c => by
    simp only [Rep] at r
    simp only [D.pure] at p
    simp only [D.py, PyData.canLay0] at c ⊢
    obtain ⟨a, vs, rfl, s, q⟩ := r
    exact .lst (SqL.of (sub _ _ s)) (Reps.dp sub q p c)
  | .ro ds, v, r, p, c => by
    simp only [Rep] at r
    simp only [D.pure] at p
    simp only [D.py, PyData.canLay0] at c ⊢
    obtain ⟨a, vs, rfl, s, q⟩ := r
    exact .lst (sqL_ext sub s) (Reps.dp sub q p c)
  | .dic _ _, _, _, _, c => by simp only [D.py, PyData.canLay0] at c; cases c
  | .it _, _, _, p, _ => by simp only [D.pure] at p; cases p
  | .rod _ _, _, _, p, _ => by simp only [D.pure] at p; cases p
  | .gv _, _, _, p, _ => by simp only [D.pure] at p; cases p
  | .set _, _, _, p, _ => by simp only [D.pure] at p; cases p
  | .ref _, _, _, p, _ => by simp only [D.pure] at p; cases p
theorem Reps.dp {W : Wd} {H : Hp} {K : PySem.W.Frag} {P : Program} {w : World} (sub : ∀ a o, W.F a = some o → H a = some o) : ∀ {ds : List D} {vs : List V}, Reps P w K W ds vs → D.pures ds = true → PyData.canLayAll0 (D.pys ds) = true → DpAll K H vs (D.pys ds)
  | [], vs, r, _, _ => by rw [Reps.nil_iff.mp r]; simp only [D.pys]; exact .nil
  | d :: ds, [], r, _, _ => by have := Reps.length r; simp at this
  | d :: ds, v :: vs, r, p, c => by
    simp only [D.pures, Bool.and_eq_true] at p
    simp only [D.pys, PyData.canLayAll0, Bool.and_eq_true] at c ⊢
    obtain ⟨r1, r2⟩ := Reps.cons_iff.mp r
    exact .cons (Rep.dp sub r1 p.1 c.1) (Reps.dp sub r2 p.2 c.2)
end
theorem Rel.dp {P : Program} {w : World} {K : PySem.W.Frag} {W : Wd} {σ : Store} {H : Hp} {d e : D} {v : V} (hσ : Rel P w K W σ H) (r : Rep P w K W d v) (he : view σ d = e) (p : e.pure = true) (c : e.py.canLay0 = true) : Dp K H v e.py := by
  cases d with
  | ref n =>
    cases e with
    | lst xs =>
      obtain ⟨a, vs, rfl, s, q⟩ := hσ.lst r he
      simp only [D.pure] at p
      simp only [D.py, PyData.canLay0] at c ⊢
      exact .lst (SqL.of s) (Reps.dp hσ.sub q p c)
    | dic ks xs => simp only [D.py, PyData.canLay0] at c; cases c
    | ref m => simp only [D.pure] at p; cases p
    | set _ => simp only [D.pure] at p; cases p
    | _ =>
      have he : (match σ[n]? with
        | some (.lst xs) => D.lst xs
        | some (.dic ks vs) => .dic ks vs
        | _ => .ref n) = _ := he
      split at he <;> cases he
  | _ => cases he; exact Rep.dp hσ.sub r p c
theorem cmpable_ok {d : D} (h : cmpable d = true) : d.pure = true ∧ d.py.canLay0 = true ∧ SeqAt.shaped d.py = true := by
  unfold cmpable at h
  simp only [Bool.and_eq_true, decide_eq_true_eq] at h
  exact ⟨h.1.1, h.1.2, by unfold SeqAt.shaped; simp only [Bool.and_eq_true, decide_eq_true_eq]; exact ⟨h.1.2, h.2⟩⟩
theorem depth_items {ds : List D} (h : cmpable (.tup ds) = true) : PyData.canLayAll0 (D.pys ds) = true := by
  have := (cmpable_ok h).2.1
  simpa only [D.py, PyData.canLay0] using this
theorem pys_map : ∀ ds : List D, D.pys ds = ds.map D.py
  | [] => by simp only [D.pys, List.map_nil]
  | d :: ds => by simp only [D.pys, List.map_cons, pys_map ds]
theorem any_pys (ds : List D) (f : PyData → Bool) : (D.pys ds).any f = ds.any fun d => f d.py := by rw [pys_map, List.any_map]; rfl
/-- dicts by data -/
theorem look_zip {P : Program} {w : World} {K : PySem.W.Frag} {W : Wd} (k : Key) : ∀ {ks : List Key} {xs : List D} {vs : List V}, ks.length = vs.length → Reps P w K W xs vs →
    (look ks xs k = none ∧ valV (ks.zip vs) k = none) ∨ ∃ d v, look ks xs k = some d ∧ valV (ks.zip vs) k = some v ∧ Rep P w K W d v
  | [], xs, vs, _, _ => .inl ⟨by simp [look], rfl⟩
  | _ :: _, _, [], l, _ => by simp at l
  | k' :: ks, [], v :: vs, l, r => by have := r.length; simp at this
  | k' :: ks, d :: ds, v :: vs, l, r => by
    obtain ⟨r1, r2⟩ := Reps.cons_iff.mp r
    by_cases e : k' = k
    · refine .inr ⟨d, v, ?_, ?_, r1⟩
      · simp [look, e]
      · rw [List.zip_cons_cons]; exact valV_pos e
    · rcases look_zip k (ks := ks) (by simpa using l) r2 with ⟨h1, h2⟩ | ⟨d', v', h1, h2, h3⟩
      · refine .inl ⟨?_, ?_⟩
        · simpa [look, e] using h1
        · rw [List.zip_cons_cons, valV_neg (p := (k', v)) e]; exact h2
      · refine .inr ⟨d', v', ?_, ?_, h3⟩
        · simpa [look, e] using h1
        · rw [List.zip_cons_cons, valV_neg (p := (k', v)) e]; exact h2
theorem look_some {P : Program} {w : World} {K : PySem.W.Frag} {W : Wd} {k : Key} {ks : List Key} {xs : List D} {vs : List V} (l : ks.length = vs.length) (r : Reps P w K W xs vs) : (look ks xs k).isSome = (valV (ks.zip vs) k).isSome := by
  rcases look_zip k l r with ⟨h1, h2⟩ | ⟨d, v, h1, h2, _⟩ <;> rw [h1, h2] <;> rfl

theorem Rel.rod {P : Program} {w : World} {K : PySem.W.Frag} {W : Wd} {σ : Store} {d : D} {v : V} {ks : List Str} {xs : List D} (r : Rep P w K W d v) (e : view σ d = .rod ks xs) : ∃ a vs, v = .ref a ∧ RodAt K w a ks vs ∧ ks.length = vs.length ∧ Reps P w K W xs vs := by
  cases d with
  | rod ks' ys =>
    have e : D.rod ks' ys = .rod ks xs := e
    cases e
    simp only [Rep] at r
    exact r
  | ref n =>
    have e : (match σ[n]? with
      | some (.lst xs) => D.lst xs
      | some (.dic ks vs) => .dic ks vs
      | _ => .ref n) = .rod ks xs := e
    split at e <;> cases e
  | _ => cases e
theorem lookV_cons {k z : Str} {ks : List Str} {v : V} {vs : List V} : lookV (k :: ks) (v :: vs) z = if k = z then some v else lookV ks vs z := by
  unfold lookV
  rw [List.zip_cons_cons, List.find?_cons]
  by_cases h : k = z <;> simp [h]
theorem lookR_cons {k z : Str} {ks : List Key} {v : D} {vs : List D} : look (Sum.inr k :: ks) (v :: vs) (.inr z) = if k = z then some v else look ks vs (.inr z) := by
  unfold look
  rw [List.zip_cons_cons, List.find?_cons]
  by_cases h : k = z
  · subst h; simp
  · have : ¬ (Sum.inr k : Key) = .inr z := fun e => h (Sum.inr.inj e)
    simp [h, this]
theorem look_rod {P : Program} {w : World} {K : PySem.W.Frag} {W : Wd} (z : Str) : ∀ {ks : List Str} {ds : List D} {vs : List V}, ks.length = vs.length → Reps P w K W ds vs →
    (look (ks.map .inr) ds (.inr z) = none ∧ lookV ks vs z = none) ∨ ∃ d v, look (ks.map .inr) ds (.inr z) = some d ∧ lookV ks vs z = some v ∧ Rep P w K W d v
  | [], _, _, _, _ => .inl ⟨rfl, rfl⟩
  | _ :: _, _, [], l, _ => by simp at l
  | _ :: _, [], _ :: _, _, r => by have := Reps.length r; simp at this
  | k :: ks, d :: ds, v :: vs, l, r => by
    obtain ⟨r1, r2⟩ := Reps.cons_iff.mp r
    rw [List.map_cons, lookR_cons, lookV_cons]
    by_cases e : k = z
    · rw [if_pos e, if_pos e]; exact .inr ⟨d, v, rfl, rfl, r1⟩
    · rw [if_neg e, if_neg e]; exact look_rod z (by simpa using l) r2
/-- what stands at a key of such a dict -/
theorem RodAt.get {P : Program} {w : World} {K : PySem.W.Frag} {W : Wd} {a : Addr} {ks : List Str} {ds : List D} {vs : List V} (R : RodAt K w a ks vs) (l : ks.length = vs.length) (r : Reps P w K W ds vs) (z : Str) :
    ∃ q, PySem.W.nsIn K a z = some q ∧ ((look (ks.map .inr) ds (.inr z) = none ∧ q = none) ∨ ∃ d v u, look (ks.map .inr) ds (.inr z) = some d ∧ q = some u ∧ RelV v u ∧ Rep P w K W d v) := by
  obtain ⟨q, h1, h2⟩ := R.val z
  refine ⟨q, h1, ?_⟩
  rcases look_rod z l r with ⟨g1, g2⟩ | ⟨d, v, g1, g2, g3⟩
  · rw [g2] at h2; exact .inl ⟨g1, RelO.none_of h2⟩
  · rw [g2] at h2
    obtain ⟨u, rfl, ru⟩ := RelO.some_of h2
    exact .inr ⟨d, v, u, g1, rfl, ru, g3⟩
def rCmp (X : Cx) (ea : Exa) (Wx : WX) (st0 : L2.St) (op : COp) : R2 := fun x y H Q => ∃ W σ a b, Rel X.prog X.w X.K W σ H ∧ Rep X.prog X.w X.K W a x ∧ Rep X.prog X.w X.K W b y ∧ Post X.prog X.w X.K ea Wx st0 W (cmpD op a b σ) Q
theorem pair_ok {a b : D} (h : (cmpable a && cmpable b) = true) : cmpable a = true ∧ cmpable b = true := Bool.and_eq_true_iff.mp h
theorem dIn {W : Wd} {σ : Store} {pins : List (Addr × Obj)} {s : Shared} {σ0 : L2.St} {H : Hp} {b : D} {x y : V} {v u : Value} {Q : VK} {k : Key} {ks : List Key} {vs : List D} (pl : Pl X) (I : Inv X pins σ0 H s) (rx : RelV x v) (ry : RelV y u) (hσ : Rel X.prog X.w X.K W σ H)
    (ex : x = kV k) (rb : Rep X.prog X.w X.K W b y) (e2 : view σ b = .dic ks vs) (h : Q (.bl (look ks vs k).isSome) H) : wpAny (model X.prog X.w) X.A (compareOp .In v u) (EP X pins σ0 Q) X.xe s := by
  obtain ⟨a, us, rfl, h1, hl, q⟩ := hσ.dic rb e2
  subst ex
  cases ry
  refine d_in (by have := pl.units; omega) I (DGet.k h1) rx fun s' I' => ⟨.bl _, H, I', rfl, ?_⟩
  rw [← look_some hl q]; exact h
theorem dNotIn {W : Wd} {σ : Store} {pins : List (Addr × Obj)} {s : Shared} {σ0 : L2.St} {H : Hp} {b : D} {x y : V} {v u : Value} {Q : VK} {k : Key} {ks : List Key} {vs : List D} (pl : Pl X) (I : Inv X pins σ0 H s) (rx : RelV x v) (ry : RelV y u) (hσ : Rel X.prog X.w X.K W σ H)
    (ex : x = kV k) (rb : Rep X.prog X.w X.K W b y) (e2 : view σ b = .dic ks vs) (h : Q (.bl (!(look ks vs k).isSome)) H) : wpAny (model X.prog X.w) X.A (compareOp .NotIn v u) (EP X pins σ0 Q) X.xe s := by
  obtain ⟨a, us, rfl, h1, hl, q⟩ := hσ.dic rb e2
  subst ex
  cases ry
  refine d_notIn (by have := pl.units; omega) I (DGet.k h1) rx fun s' I' => ⟨.bl _, H, I', rfl, ?_⟩
  rw [← look_some hl q]; exact h
theorem key_view {P : Program} {w : World} {K : PySem.W.Frag} {W : Wd} {σ : Store} {d e : D} {v : V} {k : Key} (r : Rep P w K W d v) (he : view σ d = e) (hk : dKey e = some k) : v = kV k := by
  cases e with
  | int i => simp only [dKey, Option.some.injEq] at hk; subst hk; exact r.int he
  | str i => simp only [dKey, Option.some.injEq] at hk; subst hk; exact r.str he
  | _ => cases hk
theorem isNon_eq {P : Program} {w : World} {K : PySem.W.Frag} {W : Wd} {σ : Store} {d : D} {v : V} (r : Rep P w K W d v) : decide (v = .non) = isNonD (view σ d) := by
  cases d with
  | non => simp only [Rep] at r; subst r; rfl
  | bl b => simp only [Rep] at r; subst r; rfl
  | int b => simp only [Rep] at r; subst r; rfl
  | str b => simp only [Rep] at r; subst r; rfl
  | tup b => simp only [Rep] at r; obtain ⟨a, vs, rfl, _⟩ := r; rfl
  | lst b => simp only [Rep] at r; obtain ⟨a, vs, rfl, _⟩ := r; rfl
  | it b => simp only [Rep] at r; obtain ⟨a, vs, rfl, _⟩ := r; rfl
  | ro b => simp only [Rep] at r; obtain ⟨a, vs, rfl, _⟩ := r; rfl
  | dic ks b => simp only [Rep] at r; obtain ⟨a, vs, rfl, _⟩ := r; rfl
  | set b => simp only [Rep] at r; obtain ⟨a, rfl, _⟩ := r; rfl
  | rod ks b => simp only [Rep] at r; obtain ⟨a, vs, rfl, _⟩ := r; rfl
  | gv x => simp only [Rep] at r; subst r; rfl
  | ref n =>
    simp only [Rep] at r
    obtain ⟨_, rfl⟩ := r
    have : ∀ z, view σ (.ref n) = z → isNonD z = false := by
      intro z e
      have e : (match σ[n]? with
        | some (.lst xs) => D.lst xs
        | some (.dic ks vs) => .dic ks vs
        | _ => .ref n) = z := e
      split at e <;> subst e <;> rfl
    rw [this _ rfl]; rfl
theorem op_cmp (pl : Pl X) (op : COp) : OpR X (compareOp op.py) (rCmp X ea Wx st0 op) := by
  intro pins s σ0 H x y v u Q I rx ry h
  obtain ⟨W, σ, a, b, hσ, ra, rb, h⟩ := h
  have hu : X.A.units + 64 < cLine := by have := pl.units; omega
  have hu2 : X.A.units + 65 < cLine := by have := pl.units; omega
  unfold cmpD at h
  split at h
  · rename_i i j e1 e2
    have := ra.int e1; have := rb.int e2; subst x y
    exact op_eq pins s σ0 H _ _ v u Q I rx ry ⟨rfl, h.here hσ (by simp only [Rep, V.int.injEq])⟩
  · rename_i i j e1 e2
    have := ra.str e1; have := rb.str e2; subst x y
    exact op_eq pins s σ0 H _ _ v u Q I rx ry ⟨rfl, h.here hσ (by simp only [Rep, V.str.injEq])⟩
  · rename_i i j e1 e2
    have := ra.int e1; have := rb.int e2; subst x y
    exact op_ne pins s σ0 H _ _ v u Q I rx ry ⟨rfl, h.here hσ (by simp only [Rep, V.int.injEq])⟩
  · rename_i i j e1 e2
    have := ra.str e1; have := rb.str e2; subst x y
    exact op_ne pins s σ0 H _ _ v u Q I rx ry ⟨rfl, h.here hσ (by simp only [Rep, V.str.injEq])⟩
  · rename_i e1 e2
    split at h
    · rename_i hc
      obtain ⟨c1, c2⟩ := pair_ok hc
      obtain ⟨p1, l1, s1⟩ := cmpable_ok c1
      obtain ⟨p2, l2, s2⟩ := cmpable_ok c2
      exact op_eqD hu pins s σ0 H _ _ v u Q I rx ry ⟨_, _, hσ.dp ra rfl p1 l1, hσ.dp rb rfl p2 l2, s1, s2, h.here hσ (by simp only [Rep])⟩
    · exact False.elim h
  · split at h
    · rename_i hc
      obtain ⟨c1, c2⟩ := pair_ok hc
      obtain ⟨p1, l1, s1⟩ := cmpable_ok c1
      obtain ⟨p2, l2, s2⟩ := cmpable_ok c2
      exact op_neD hu pins s σ0 H _ _ v u Q I rx ry ⟨_, _, hσ.dp ra rfl p1 l1, hσ.dp rb rfl p2 l2, s1, s2, h.here hσ (by simp only [Rep])⟩
    · exact False.elim h
  · rename_i i j e1 e2
    have := ra.int e1; have := rb.int e2; subst x y
    exact op_lt pins s σ0 H _ _ v u Q I rx ry ⟨i, j, rfl, rfl, h.here hσ (by simp only [Rep])⟩
  · rename_i i j e1 e2
    have := ra.int e1; have := rb.int e2; subst x y
    exact op_le pins s σ0 H _ _ v u Q I rx ry ⟨i, j, rfl, rfl, h.here hσ (by simp only [Rep])⟩
  · rename_i i j e1 e2
    have := ra.int e1; have := rb.int e2; subst x y
    exact op_gt pins s σ0 H _ _ v u Q I rx ry ⟨i, j, rfl, rfl, h.here hσ (by simp only [Rep])⟩
  · rename_i i j e1 e2
    have := ra.int e1; have := rb.int e2; subst x y
    exact op_ge pins s σ0 H _ _ v u Q I rx ry ⟨i, j, rfl, rfl, h.here hσ (by simp only [Rep])⟩
  · rename_i i j e1 e2
    have := ra.str e1; have := rb.str e2; subst x y
    exact op_lt_str pins s σ0 H _ _ v u Q I rx ry ⟨i, j, rfl, rfl, h.here hσ (by simp only [Rep]; rfl)⟩
  · rename_i i j e1 e2
    have := ra.str e1; have := rb.str e2; subst x y
    exact op_le_str pins s σ0 H _ _ v u Q I rx ry ⟨i, j, rfl, rfl, h.here hσ (by simp only [Rep]; rfl)⟩
  · rename_i i j e1 e2
    have := ra.str e1; have := rb.str e2; subst x y
    exact op_gt_str pins s σ0 H _ _ v u Q I rx ry ⟨i, j, rfl, rfl, h.here hσ (by simp only [Rep]; rfl)⟩
  · rename_i i j e1 e2
    have := ra.str e1; have := rb.str e2; subst x y
    exact op_ge_str pins s σ0 H _ _ v u Q I rx ry ⟨i, j, rfl, rfl, h.here hσ (by simp only [Rep]; rfl)⟩
  · rename_i i j e1 e2
    have := ra.str e1; have := rb.str e2; subst x y
    exact op_in_str pins s σ0 H _ _ v u Q I rx ry ⟨i, j, rfl, rfl, h.here hσ (by simp only [Rep])⟩
  · rename_i i j e1 e2
    have := ra.str e1; have := rb.str e2; subst x y
    exact op_notin_str pins s σ0 H _ _ v u Q I rx ry ⟨i, j, rfl, rfl, h.here hσ (by simp only [Rep])⟩
  · rename_i ks vs e1 e2
    split at h
    · rename_i k hk
      exact dIn pl I rx ry hσ (key_view ra rfl hk) rb e2 (h.here hσ (by simp only [Rep]))
    · exact False.elim h
  · rename_i ks vs e1 e2
    split at h
    · rename_i k hk
      exact dNotIn pl I rx ry hσ (key_view ra rfl hk) rb e2 (h.here hσ (by simp only [Rep]))
    · exact False.elim h
  · rename_i x0 ks vs e1 e2
    have := ra.str e1; subst x
    obtain ⟨ad, us, rfl, R, hl, q⟩ := Rel.rod rb e2
    obtain ⟨es, n, kd⟩ := R.at_
    obtain ⟨q1, g1, g2⟩ := R.get hl q x0
    refine op_in_kd kd pins s σ0 H _ _ v u Q I rx ry ⟨x0, q1, rfl, rfl, g1, ?_⟩
    have : q1.isSome = (look (ks.map Sum.inr) vs (.inr x0)).isSome := by
      rcases g2 with ⟨a1, rfl⟩ | ⟨d, v, u, a1, rfl, _, _⟩ <;> rw [a1] <;> rfl
    rw [this]
    exact h.here hσ (by simp only [Rep])
  · rename_i x0 ks vs e1 e2
    have := ra.str e1; subst x
    obtain ⟨ad, us, rfl, R, hl, q⟩ := Rel.rod rb e2
    obtain ⟨es, n, kd⟩ := R.at_
    obtain ⟨q1, g1, g2⟩ := R.get hl q x0
    refine op_notIn_kd kd pins s σ0 H _ _ v u Q I rx ry ⟨x0, q1, rfl, rfl, g1, ?_⟩
    have : q1.isSome = (look (ks.map Sum.inr) vs (.inr x0)).isSome := by
      rcases g2 with ⟨a1, rfl⟩ | ⟨d, v, u, a1, rfl, _, _⟩ <;> rw [a1] <;> rfl
    rw [this]
    exact h.here hσ (by simp only [Rep])
  · rename_i ys e1 e2
    split at h
    · rename_i hc
      obtain ⟨c1, c2⟩ := pair_ok hc
      obtain ⟨p1, l1, s1⟩ := cmpable_ok c1
      obtain ⟨p2, l2, s2⟩ := cmpable_ok c2
      have := hσ.dp rb e2 p2 l2
      simp only [D.py] at this s2
      refine op_inD hu2 pins s σ0 H _ _ v u Q I rx ry ⟨_, _, hσ.dp ra rfl p1 l1, this, s1, s2, ?_⟩
      rw [any_pys]; exact h.here hσ (by simp only [Rep])
    · exact False.elim h
  · rename_i ys e1 e2
    split at h
    · rename_i hc
      obtain ⟨c1, c2⟩ := pair_ok hc
      obtain ⟨p1, l1, s1⟩ := cmpable_ok c1
      obtain ⟨p2, l2, s2⟩ := cmpable_ok c2
      have := hσ.dp rb e2 p2 l2
      simp only [D.py] at this s2
      refine op_notInD hu2 pins s σ0 H _ _ v u Q I rx ry ⟨_, _, hσ.dp ra rfl p1 l1, this, s1, s2, ?_⟩
      rw [any_pys]; exact h.here hσ (by simp only [Rep])
    · exact False.elim h
  · rename_i ys e1 e2
    split at h
    · rename_i hc
      obtain ⟨c1, c2⟩ := pair_ok hc
      obtain ⟨p1, l1, s1⟩ := cmpable_ok c1
      obtain ⟨p2, l2, s2⟩ := cmpable_ok c2
      have h2 := hσ.dp rb e2 p2 l2
      simp only [D.py] at h2 s2
      obtain ⟨as, r1⟩ := Dp.reads I _ x v (hσ.dp ra rfl p1 l1) rx
      obtain ⟨bs, r2⟩ := Dp.reads I _ y u h2 ry
      refine SeqAt.in_tuple_reads r2 r1 (depth_items c2) l1 (PyProof.Rows.room_in_shaped s1 hu2) ⟨.bl _, H, I, rfl, ?_⟩
      rw [any_pys]; exact h.here hσ (by simp only [Rep])
    · exact False.elim h
  · rename_i ys e1 e2
    split at h
    · rename_i hc
      obtain ⟨c1, c2⟩ := pair_ok hc
      obtain ⟨p1, l1, s1⟩ := cmpable_ok c1
      obtain ⟨p2, l2, s2⟩ := cmpable_ok c2
      have h2 := hσ.dp rb e2 p2 l2
      simp only [D.py] at h2 s2
      obtain ⟨as, r1⟩ := Dp.reads I _ x v (hσ.dp ra rfl p1 l1) rx
      obtain ⟨bs, r2⟩ := Dp.reads I _ y u h2 ry
      refine SeqAt.notIn_tuple_reads r2 r1 (depth_items c2) l1 (PyProof.Rows.room_in_shaped s1 hu2) ⟨.bl _, H, I, rfl, ?_⟩
      rw [any_pys]; exact h.here hσ (by simp only [Rep])
    · exact False.elim h
  · rename_i e2
    have := rb.non e2; subst y
    refine op_isN pins s σ0 H _ _ v u Q I rx ry ⟨rfl, ?_⟩
    rw [isNon_eq (σ := σ) ra]
    exact h.here hσ (by simp only [Rep])
  · rename_i e2
    have := rb.non e2; subst y
    refine op_notN pins s σ0 H _ _ v u Q I rx ry ⟨rfl, ?_⟩
    rw [isNon_eq (σ := σ) ra]
    exact h.here hσ (by simp only [Rep])
  · exact False.elim h
end
end Iv

set_option Elab.async false
set_option linter.all false
set_option maxHeartbeats 2000000
/-! truth, items, slices, repr, built-ins, methods -/
namespace Iv
open PySem PySem.Spec L2
section
variable {X : Cx} {ea : Exa} {Wx : WX} {st0 : L2.St}

/-! ### truth -/
theorem view_ref {σ : Store} {n : Nat} {e : D} (h : view σ (.ref n) = e) : (∃ xs, e = .lst xs) ∨ (∃ ks xs, e = .dic ks xs) ∨ ∃ m, e = .ref m := by
  have h : (match σ[n]? with
    | some (.lst xs) => D.lst xs
    | some (.dic ks vs) => .dic ks vs
    | _ => .ref n) = e := h
  split at h <;> subst h
  · exact .inl ⟨_, rfl⟩
  · exact .inr (.inl ⟨_, _, rfl⟩)
  · exact .inr (.inr ⟨_, rfl⟩)
theorem isEmpty_len {α β : Type} {xs : List α} {ys : List β} (h : xs.length = ys.length) : xs.isEmpty = ys.isEmpty := by
  cases xs <;> cases ys <;> first | rfl | simp at h
theorem Rel.tru {P : Program} {w : World} {K : PySem.W.Frag} {W : Wd} {σ : Store} {H : Hp} {d e : D} {v : V} {b : Bool} (hσ : Rel P w K W σ H) (r : Rep P w K W d v) (he : view σ d = e) (h : truthD e = some b) : TruV K v H b := by
  cases e with
  | non => rw [r.non he]; simp only [truthD, Option.some.injEq] at h; exact h.symm
  | bl k => rw [r.bl he]; simp only [truthD, Option.some.injEq] at h; exact h.symm
  | int i => rw [r.int he]; simp only [truthD, Option.some.injEq] at h; exact h.symm
  | str x =>
    rw [r.str he]
    simp only [truthD] at h
    split at h
    · rename_i hl
      simp only [Option.some.injEq] at h
      refine ⟨by rw [← lim_eq]; exact hl, ?_⟩
      rw [← h]
      have : ((x.length : Int) != 0) = (x.length != 0) := by
        rw [Bool.eq_iff_iff]; simp
      exact this.symm
    · cases h
  | tup xs =>
    obtain ⟨a, vs, rfl, s, q⟩ := hσ.tup r he
    simp only [truthD, Option.some.injEq] at h
    exact .inr (.inl ⟨vs, s, by rw [← h, isEmpty_len q.length]⟩)
  | lst xs =>
    obtain ⟨a, vs, rfl, s, q⟩ := hσ.lst r he
    simp only [truthD, Option.some.injEq] at h
    exact .inl ⟨vs, SqL.of s, by rw [← h, isEmpty_len q.length]⟩
  | ro xs =>
    obtain ⟨a, vs, rfl, s, q⟩ := hσ.ro r he
    simp only [truthD, Option.some.injEq] at h
    exact .inl ⟨vs, s, by rw [← h, isEmpty_len q.length]⟩
  | dic ks xs =>
    obtain ⟨a, vs, rfl, s, l, q⟩ := hσ.dic r he
    simp only [truthD, Option.some.injEq] at h
    refine .inr (.inr ⟨_, s, ?_⟩)
    rw [← h, isEmpty_len (ys := ks.zip vs) (by rw [List.length_zip, l]; omega)]
  | it _ => cases h
  | set _ => cases h
  | rod _ _ => cases h
  | gv _ => cases h
  | ref _ => cases h

/-! ### items -/
def rIdx (X : Cx) (ea : Exa) (Wx : WX) (st0 : L2.St) : R2 := fun x y H Q => ∃ W σ a b, Rel X.prog X.w X.K W σ H ∧ Rep X.prog X.w X.K W a x ∧ Rep X.prog X.w X.K W b y ∧ Post X.prog X.w X.K ea Wx st0 W (idxD a b σ) Q
theorem atI_reps {P : Program} {w : World} {K : PySem.W.Frag} {W : Wd} {ds : List D} {vs : List V} {i : Int} {d : D} (q : Reps P w K W ds vs) (h : atI ds i = some d) : ∃ v, atI vs i = some v ∧ Rep P w K W d v := by
  unfold atI at h ⊢
  rw [← q.length]
  cases e : ixN ds.length i with
  | none => rw [e] at h; cases h
  | some j => rw [e] at h; exact q.get h
theorem ix_all (pl : Pl X) : IxR X (rIdx X ea Wx st0) := by
  intro value slice pins s σ0 H x y v u Q I rx ry h hs
  obtain ⟨W, σ, a, b, hσ, ra, rb, h⟩ := h
  unfold idxD at h
  split at h
  · rename_i xs i e1
    simp only [Rep] at rb; subst y
    split at h
    · rename_i d hd
      obtain ⟨p, vs, rfl, s1, q⟩ := hσ.ro ra e1
      obtain ⟨z, hz, rz⟩ := atI_reps q hd
      exact ix_list value slice pins s σ0 H _ _ v u Q I rx ry ⟨p, vs, i, z, rfl, rfl, s1, hz, h.here hσ rz⟩ hs
    · exact False.elim h
  · rename_i xs i e1
    simp only [Rep] at rb; subst y
    split at h
    · rename_i d hd
      obtain ⟨p, vs, rfl, s1, q⟩ := hσ.lst ra e1
      obtain ⟨z, hz, rz⟩ := atI_reps q hd
      exact ix_list value slice pins s σ0 H _ _ v u Q I rx ry ⟨p, vs, i, z, rfl, rfl, SqL.of s1, hz, h.here hσ rz⟩ hs
    · exact False.elim h
  · rename_i xs i e1
    simp only [Rep] at rb; subst y
    split at h
    · rename_i d hd
      obtain ⟨p, vs, rfl, s1, q⟩ := hσ.tup ra e1
      obtain ⟨z, hz, rz⟩ := atI_reps q hd
      exact ix_tup value slice pins s σ0 H _ _ v u Q I rx ry ⟨p, vs, i, z, rfl, rfl, s1, hz, h.here hσ rz⟩ hs
    · exact False.elim h
  · rename_i z i e1
    simp only [Rep] at rb; subst y
    split at h
    · rename_i hl
      split at h
      · rename_i c hc
        have := ra.str e1; subst x
        exact ix_str value slice pins s σ0 H _ _ v u Q I rx ry ⟨z, i, c, rfl, rfl, by rw [← lim_eq]; exact hl, hc, h.here hσ (by simp only [Rep])⟩ hs
      · exact False.elim h
    · exact False.elim h
  · rename_i ks vs e1
    split at h
    · rename_i k hk
      split at h
      · rename_i d hd
        obtain ⟨p, us, rfl, s1, l, q⟩ := hσ.dic ra e1
        have := Rep.key rb hk; subst y
        rcases look_zip k l q with ⟨h1, _⟩ | ⟨d', z, h1, h2, rz⟩
        · rw [hd] at h1; cases h1
        · rw [hd] at h1; cases h1
          cases rx
          have g : DGet H p (kV k) (some z) := by rw [← h2]; exact DGet.k s1
          exact PyProof.Rows.tail_any (dict_typeIs I g) PySem.F.slot_dict_getitem.lookup (d_getItem (by have := pl.units; omega) I g ry fun w' s3 I3 rw' => ⟨z, H, I3, rw', h.here hσ rz⟩) hs
      · exact False.elim h
    · exact False.elim h
  · rename_i ks vs x0 e1
    simp only [Rep] at rb; subst y
    split at h
    · rename_i d hd
      obtain ⟨p, us, rfl, R, l, q⟩ := Rel.rod ra e1
      obtain ⟨es, n, kd⟩ := R.at_
      obtain ⟨q1, g1, g2⟩ := R.get l q x0
      rcases g2 with ⟨a1, _⟩ | ⟨d', v', u', a1, rfl, ru, rd⟩
      · rw [hd] at a1; cases a1
      · rw [hd] at a1; cases a1
        exact ix_kdict value slice pins s σ0 H _ _ v u Q I rx ry ⟨p, x0, v', rfl, rfl, ⟨es, n, u', kd.at_, kd.lit, g1, ru⟩, h.here hσ rd⟩ hs
    · exact False.elim h
  · exact False.elim h

/-! ### slices -/
theorem cut_reps {P : Program} {w : World} {K : PySem.W.Frag} {W : Wd} {ds : List D} {vs : List V} (q : Reps P w K W ds vs) (lo hi : Option Int) : Reps P w K W (cutL ds lo hi) (cutV vs lo hi) := by
  unfold cutL cutV
  rw [q.length]
  exact (q.drop _).take _
def rSlice (X : Cx) (ea : Exa) (Wx : WX) (st0 : L2.St) (mu : Bool) : V → Option Int → Option Int → Hp → VK → Prop := fun x lo hi H Q => ∃ W σ a l h, Rel X.prog X.w X.K W σ H ∧ Rep X.prog X.w X.K W a x ∧ optI l = some lo ∧ optI h = some hi ∧ Post X.prog X.w X.K ea Wx st0 W (sliceD mu a l h σ) Q
theorem cut_whole {α : Type} {xs : List α} {lo hi : Option Int} (h : HT.sIx xs.length 0 lo = 0 ∧ HT.sIx xs.length xs.length hi = xs.length) : cutL xs lo hi = xs := by
  unfold cutL; rw [h.1, h.2]; simp
theorem view_tup {σ : Store} {d : D} {xs : List D} (h : view σ d = .tup xs) : d = .tup xs := by
  cases d with
  | ref n => rcases view_ref h with ⟨_, e⟩ | ⟨_, _, e⟩ | ⟨_, e⟩ <;> cases e
  | _ => cases h <;> rfl
theorem sl_all {mu : Bool} : SlR X (rSlice X ea Wx st0 mu) := by
  intro pins s σ0 H x v vl vu lo hi sl Q I rx hs pl pu h
  obtain ⟨W, σ, a, l, u, hσ, ra, hl, hh, h⟩ := h
  unfold sliceD at h
  split at h
  · rename_i xs l' h' e1 e2 e3
    rw [hl] at e2; rw [hh] at e3; cases e2; cases e3
    obtain ⟨p, vs, rfl, s1, q⟩ := hσ.lst ra e1
    exact sl_list pins s σ0 H _ v vl vu lo hi sl Q I rx hs pl pu ⟨p, vs, rfl, SqL.of s1, (h.newL hσ (cut_reps q lo hi)).2⟩
  · rename_i xs l' h' e1 e2 e3
    rw [hl] at e2; rw [hh] at e3; cases e2; cases e3
    obtain ⟨p, vs, rfl, s1, q⟩ := hσ.ro ra e1
    exact sl_list pins s σ0 H _ v vl vu lo hi sl Q I rx hs pl pu ⟨p, vs, rfl, s1, (h.newL hσ (cut_reps q lo hi)).2⟩
  · rename_i xs l' h' e1 e2 e3
    rw [hl] at e2; rw [hh] at e3; cases e2; cases e3
    obtain ⟨p, vs, rfl, s1, q⟩ := hσ.tup ra e1
    refine sl_tupF pins s σ0 H _ v vl vu lo hi sl Q I rx hs pl pu ⟨p, vs, rfl, s1, fun e => ?_, fun _ => (h.newT hσ (cut_reps q lo hi)).2⟩
    rw [← q.length] at e
    rw [cut_whole e] at h
    unfold newT at h
    split at h
    · rw [view_tup e1] at ra
      exact h.here hσ ra
    · exact False.elim h
  · rename_i z l' h' e1 e2 e3
    rw [hl] at e2; rw [hh] at e3; cases e2; cases e3
    split at h
    · rename_i hz
      have := ra.str e1; subst x
      refine sl_str pins s σ0 H _ v vl vu lo hi sl Q I rx hs pl pu ⟨z, rfl, by rw [← lim_eq]; exact hz, h.here hσ ?_⟩
      simp only [Rep]
      unfold cutS cutL
      have : z.cps.toList.length = z.length := by rw [Array.length_toList]; rfl
      rw [this]
    · exact False.elim h
  · exact False.elim h

/-! ### repr -/
/-- the module table is none of the tracked lists -/
structure Sys (X : Cx) : Prop where
  at_ : ∃ o, X.base.get? sysModules = some o ∧ o.cls ≠ .type "list"
theorem keys_reads {P : Program} {w : World} {h : Heap} : ∀ {es : List DictEntry} {kvs : List (Key × Value)}, Pairs (mixKind P w) es kvs → ReadsAll h (es.map (·.key)) (kvs.map fun kv => keyP kv.1) []
  | _, _, .nil => .nil
  | _, _, .cons (e := e) (kv := kv) h1 _ h3 => by
    have r : Reads h e.key (keyP kv.1) [] := by
      rcases keyIs_shape h1 with ⟨i, t, e1, e2⟩ | ⟨x, t, e1, e2⟩
      · rw [e1, e2]; exact .int i t
      · rw [e1, e2]; exact .str x t
    exact .cons (as := []) (bs := []) r (keys_reads h3)
theorem vals_pairs {P : Program} {w : World} : ∀ {es : List DictEntry} {kvs : List (Key × Value)}, Pairs (mixKind P w) es kvs → es.map (·.val) = kvs.map (·.2)
  | _, _, .nil => rfl
  | _, _, .cons h1 h2 h3 => by simp only [List.map_cons, h2, vals_pairs h3]
theorem kv_split {kvs : List (Key × V)} {us : List (Key × Value)} (h : KV kvs us) : us.map (·.1) = kvs.map (·.1) ∧ Vals (kvs.map (·.2)) (us.map (·.2)) := by
  induction h with
  | nil => exact ⟨rfl, .nil⟩
  | cons a b ih => exact ⟨by rw [List.map_cons, List.map_cons, ih.1, a.1], .cons a.2 ih.2⟩
section
variable {pins : List (Addr × Obj)} {σ0 : L2.St} {H : Hp} {s : Shared} {W : Wd}
mutual
theorem Rep.reads (sy : Sys X) (I : Inv X pins σ0 H s) (sub : ∀ a o, W.F a = some o → H a = some o) : ∀ {d : D} {v : V} {u : Value}, Rep X.prog X.w X.K W d v → RelV v u → d.pure = true → ∃ as, Reads s.heap u d.py as ∧ sysModules ∉ as
  | .non, _, _, r, q, _ => by simp only [Rep] at r; subst r; cases q; simp only [D.py]; exact ⟨[], .none, by simp⟩
  | .bl b, _, _, r, q, _ => by simp only [Rep] at r; subst r; cases q; simp only [D.py]; exact ⟨[], .bool b, by simp⟩
  | .int i, _, _, r, q, _ => by simp only [Rep] at r; subst r; obtain ⟨t, rfl⟩ := q; simp only [D.py]; exact ⟨[], .int i t, by simp⟩
  | .str x, _, _, r, q, _ => by simp only [Rep] at r; subst r; obtain ⟨t, rfl⟩ := q; simp only [D.py]; exact ⟨[], .str x t, by simp⟩
  | .tup ds, _, _, r, q, p => by
    simp only [Rep] at r
    simp only [D.pure] at p
    simp only [D.py]
    obtain ⟨a, vs, rfl, h1, h2⟩ := r
    cases q
    obtain ⟨its, rv, ⟨o, ho, hc, n, hd⟩, _⟩ := I.tuple (sqT_ext sub h1.sq)
    obtain ⟨as, r1, r2⟩ := Reps.reads sy I sub h2 rv p
    exact ⟨as, .tuple ho hc hd r1, r2⟩
  | .lst ds, _, _, r, q, p => by
    simp only [Rep] at r
    simp only [D.pure] at p
    simp only [D.py]
    obtain ⟨a, vs, rfl, h1, h2⟩ := r
    cases q
    obtain ⟨its, rv, ⟨o, n, ho, hc, _, hd⟩, _⟩ := I.list (SqL.of (sub _ _ h1))
    obtain ⟨as, r1, r2⟩ := Reps.reads sy I sub h2 rv p
    refine ⟨a :: as, .list ho hc hd r1, fun hm => ?_⟩
    rcases List.mem_cons.mp hm with e | hm
    · obtain ⟨ob, hb, _⟩ := sy.at_
      have := (I.bs _ _ hb).2
      rw [e, sub _ _ h1] at this; cases this
    · exact r2 hm
  | .ro ds, _, _, r, q, p => by
    simp only [Rep] at r
    simp only [D.pure] at p
    simp only [D.py]
    obtain ⟨a, vs, rfl, h1, h2⟩ := r
    cases q
    obtain ⟨its, rv, ⟨o, n, ho, hc, _, hd⟩, _⟩ := I.list (sqL_ext sub h1)
    obtain ⟨as, r1, r2⟩ := Reps.reads sy I sub h2 rv p
    refine ⟨a :: as, .list ho hc hd r1, fun hm => ?_⟩
    rcases List.mem_cons.mp hm with e | hm
    · obtain ⟨ob, hb, hcl⟩ := sy.at_
      have h3 := (I.bs _ _ hb).1
      rw [e, ho] at h3
      cases h3
      exact hcl hc
    · exact r2 hm
  | .dic ks ds, _, _, r, q, p => by
    simp only [Rep] at r
    simp only [D.pure, Bool.and_eq_true, decide_eq_true_eq] at p
    simp only [D.py]
    obtain ⟨a, vs, rfl, h1, hl, h2⟩ := r
    cases q
    obtain ⟨_, hsy, us, rel, o, es, ep, ho, hx, hd, _, hp, _⟩ := dk_of I.hok (sub _ _ h1)
    obtain ⟨k1, k2⟩ := kv_split rel
    have e2 : (ks.zip vs).map (·.2) = vs := by rw [List.map_snd_zip]; omega
    have e1 : (ks.zip vs).map (·.1) = ks := by rw [List.map_fst_zip]; omega
    rw [e2] at k2
    rw [e1] at k1
    obtain ⟨as, r1, r2⟩ := Reps.reads sy I sub h2 k2 p.2
    have lk : (D.pys ds).length = ks.length := by rw [pys_map, List.length_map]; exact p.1.symm
    refine ⟨a :: [] ++ as, .dict (kvs := (ks.map keyP).zip (D.pys ds)) (as := []) ho hx.1 hd ?_ ?_, fun hm => ?_⟩
    · have := keys_reads (h := s.heap) hp
      rw [List.map_fst_zip (by rw [List.length_map]; omega)]
      have e : us.map (fun kv => keyP kv.1) = ks.map keyP := by rw [← k1, List.map_map]; rfl
      rw [← e]; exact this
    · rw [List.map_snd_zip (by rw [List.length_map]; omega), vals_pairs hp]; exact r1
    · rcases List.mem_cons.mp (show sysModules ∈ a :: as from hm) with e | hm
      · rw [← e] at hsy; simp at hsy
      · exact r2 hm
  | .it _, _, _, _, _, p => by simp only [D.pure] at p; cases p
  | .rod _ _, _, _, _, _, p => by simp only [D.pure] at p; cases p
  | .gv _, _, _, _, _, p => by simp only [D.pure] at p; cases p
  | .set _, _, _, _, _, p => by simp only [D.pure] at p; cases p
  | .ref _, _, _, _, _, p => by simp only [D.pure] at p; cases p
theorem Reps.reads (sy : Sys X) (I : Inv X pins σ0 H s) (sub : ∀ a o, W.F a = some o → H a = some o) : ∀ {ds : List D} {vs : List V} {us : List Value}, Reps X.prog X.w X.K W ds vs → Vals vs us → D.pures ds = true → ∃ as, ReadsAll s.heap us (D.pys ds) as ∧ sysModules ∉ as
  | [], _, _, r, q, _ => by rw [Reps.nil_iff.mp r] at q; cases q; simp only [D.pys]; exact ⟨[], .nil, by simp⟩
  | d :: ds, [], _, r, _, _ => by have := Reps.length r; simp at this
  | d :: ds, v :: vs, _, r, q, p => by
    obtain ⟨h1, h2⟩ := Reps.cons_iff.mp r
    simp only [D.pures, Bool.and_eq_true] at p
    simp only [D.pys]
    cases q with
    | cons q1 q2 =>
      obtain ⟨as, a1, a2⟩ := Rep.reads sy I sub h1 q1 p.1
      obtain ⟨bs, b1, b2⟩ := Reps.reads sy I sub h2 q2 p.2
      exact ⟨as ++ bs, .cons a1 b1, fun hm => (List.mem_append.mp hm).elim a2 b2⟩
end
end
end
end Iv

set_option Elab.async false
set_option linter.all false
set_option maxHeartbeats 2000000
/-! built-in functions, methods, stores -/
namespace Iv
open PySem PySem.Spec L2
section
variable {X : Cx} {ea : Exa} {Wx : WX} {st0 : L2.St}
def Bi.val : Bi → Value
  | .len => .builtin "len" | .list => .type "list" | .tuple => .type "tuple" | .int => .type "int" | .str => .type "str" | .repr => .builtin "repr" | .all => .builtin "all" | .any => .builtin "any"
  | .sum => .builtin "sum" | .sorted => .builtin "sorted" | .set => .type "set" | .dict => .type "dict" | .abs => .builtin "abs"
def rBi (X : Cx) (ea : Exa) (Wx : WX) (st0 : L2.St) (b : Bi) (mu : Bool) : List V → Hp → VK → Prop := fun xs H Q => ∃ W σ a x, xs = [x] ∧ Rel X.prog X.w X.K W σ H ∧ Rep X.prog X.w X.K W a x ∧ Post X.prog X.w X.K ea Wx st0 W (biD b mu a σ) Q

/-! repr -/
theorem py_atom {d e : D} {σ : Store} (he : view σ d = e) (h : (∃ b, e = .bl b) ∨ (∃ i, e = .int i) ∨ (∃ x, e = .str x) ∨ e = .non) : d = e := by
  cases d with
  | ref n => rcases view_ref he with ⟨_, q⟩ | ⟨_, _, q⟩ | ⟨_, q⟩ <;> subst q <;> simp at h
  | _ => exact he
theorem reads_view {pins : List (Addr × Obj)} {σ0 : L2.St} {H : Hp} {s : Shared} {W : Wd} {σ : Store} {d e : D} {v : V} {u : Value} (sy : Sys X) (I : Inv X pins σ0 H s) (hσ : Rel X.prog X.w X.K W σ H) (r : Rep X.prog X.w X.K W d v) (q : RelV v u)
    (he : view σ d = e) (p : e.pure = true) : ∃ as, Reads s.heap u e.py as ∧ sysModules ∉ as := by
  cases d with
  | ref n =>
    rcases view_ref he with ⟨xs, z⟩ | ⟨ks, xs, z⟩ | ⟨_, z⟩
    · subst z
      obtain ⟨a, vs, rfl, h1, h2⟩ := hσ.lst r he
      simp only [D.pure] at p
      simp only [D.py]
      cases q
      obtain ⟨its, rv, ⟨o, n, ho, hc, _, hd⟩, _⟩ := I.list (SqL.of h1)
      obtain ⟨as, r1, r2⟩ := Reps.reads sy I hσ.sub h2 rv p
      refine ⟨a :: as, .list ho hc hd r1, fun hm => ?_⟩
      rcases List.mem_cons.mp hm with e | hm
      · obtain ⟨ob, hb, _⟩ := sy.at_
        have := (I.bs _ _ hb).2
        rw [e, h1] at this; cases this
      · exact r2 hm
    · -- a dict cell: frozen it would read alike
      subst z
      obtain ⟨a, vs, rfl, h1, l, h2⟩ := hσ.dic r he
      simp only [D.pure, Bool.and_eq_true, decide_eq_true_eq] at p
      simp only [D.py]
      cases q
      obtain ⟨_, hsy, us, rel, o, es, ep, ho, hx, hd, _, hp, _⟩ := dk_of I.hok h1
      obtain ⟨k1, k2⟩ := kv_split rel
      have e2 : (ks.zip vs).map (·.2) = vs := by rw [List.map_snd_zip]; omega
      have e1 : (ks.zip vs).map (·.1) = ks := by rw [List.map_fst_zip]; omega
      rw [e2] at k2
      rw [e1] at k1
      obtain ⟨as, r1, r2⟩ := Reps.reads sy I hσ.sub h2 k2 p.2
      have lk : (D.pys xs).length = ks.length := by rw [pys_map, List.length_map]; exact p.1.symm
      refine ⟨a :: [] ++ as, .dict (kvs := (ks.map keyP).zip (D.pys xs)) (as := []) ho hx.1 hd ?_ ?_, fun hm => ?_⟩
      · have := keys_reads (h := s.heap) hp
        rw [List.map_fst_zip (by rw [List.length_map]; omega)]
        have e : us.map (fun kv => keyP kv.1) = ks.map keyP := by rw [← k1, List.map_map]; rfl
        rw [← e]; exact this
      · rw [List.map_snd_zip (by rw [List.length_map]; omega), vals_pairs hp]; exact r1
      · rcases List.mem_cons.mp (show sysModules ∈ a :: as from hm) with e | hm
        · rw [← e] at hsy; simp at hsy
        · exact r2 hm
    · subst z; simp only [D.pure] at p; cases p
  | _ => cases he; exact Rep.reads sy I hσ.sub r q p
theorem call_repr (pl : Pl X) (sy : Sys X) : CallR X (.builtin "repr") (fun xs H Q => ∃ W σ a x, xs = [x] ∧ Rel X.prog X.w X.K W σ H ∧ Rep X.prog X.w X.K W a x ∧ reprOk (view σ a) = true ∧ Q (.str (view σ a).py.shown) H) := by
  intro pins s σ0 H xs us Q I r h
  obtain ⟨W, σ, a, x, rfl, hσ, ra, hr, q⟩ := h
  obtain ⟨u, rfl, rx⟩ := vals1 r
  obtain ⟨e, he⟩ : ∃ e, view σ a = e := ⟨_, rfl⟩
  rw [he] at hr q
  unfold reprOk at hr
  simp only [Bool.and_eq_true, decide_eq_true_eq] at hr
  obtain ⟨⟨⟨h1, h2⟩, h3⟩, h4⟩ := hr
  obtain ⟨as, r1, r2⟩ := reads_view sy I hσ ra rx he h1
  have hsz : e.py.shown.length ≤ sizeLine := by rw [← lim_eq]; exact h3
  cases u with
  | ref p =>
    refine repr_of_reads' r1 h2 (fun _ => r2) pl.guards (by have := pl.units; omega) (fun _ _ z => z) (fun h' u tk k => ?_) hsz
    exact ⟨.str _, H, I.kept k, ⟨_, rfl⟩, q⟩
  | none =>
    have := r1
    generalize e.py = z at *
    cases r1
    simp only [PyData.shown] at q
    exact PySem.P.repr_of_none ⟨.str _, H, I.tok _, ⟨_, rfl⟩, q⟩
  | bool b =>
    generalize e.py = z at *
    cases r1
    simp only [PyData.shown] at q
    exact PySem.P.repr_of_bool ⟨.str _, H, I.tok _, ⟨_, rfl⟩, by cases b <;> exact q⟩
  | int i t =>
    generalize e.py = z at *
    cases r1
    simp only [PyData.shown] at q
    simp only [PyData.showable, decide_eq_true_eq] at h2
    exact PySem.P.repr_of_int h2 ⟨.str _, H, I.tok _, ⟨_, rfl⟩, q⟩
  | str y t =>
    generalize e.py = z at *
    cases r1
    simp only [PyData.shown] at q hsz
    exact PySem.P.repr_of_str ⟨.str _, H, I.tok _, ⟨_, rfl⟩, q⟩ hsz
  | _ => generalize e.py = z at *; cases r1
/-! sorted -/
theorem sortS_perm (xs : List Str) : (sortS xs).Perm xs := List.mergeSort_perm _ _
def sLe (a b : Str) : Bool := !strLt b a
theorem sLe_iff {a b : Str} : sLe a b = true ↔ a.cps.toList ≤ b.cps.toList := by
  unfold sLe strLt
  rw [Bool.not_eq_true', decide_eq_false_iff_not]
  exact List.not_lt
theorem sLe_trans (a b c : Str) (h1 : sLe a b = true) (h2 : sLe b c = true) : sLe a c = true := sLe_iff.mpr (List.le_trans (sLe_iff.mp h1) (sLe_iff.mp h2))
theorem sLe_total (a b : Str) : (sLe a b || sLe b a) = true := by
  rw [Bool.or_eq_true]
  rcases List.le_total a.cps.toList b.cps.toList with h | h
  · exact .inl (sLe_iff.mpr h)
  · exact .inr (sLe_iff.mpr h)
theorem sLe_anti {a b : Str} (h1 : sLe a b = true) (h2 : sLe b a = true) : a = b := by
  have := List.le_antisymm (sLe_iff.mp h1) (sLe_iff.mp h2)
  cases a; cases b
  simp only [PySem.Str.mk.injEq]
  exact Array.toList_inj.mp this
theorem rising_pw : ∀ {xs : List Str} {p : Str}, PyProof.Rows.risingS p xs = true → (p :: xs).Pairwise fun a b => sLe a b = true
  | [], p, _ => List.pairwise_singleton _ _
  | x :: r, p, h => by
    rw [PyProof.Rows.risingS, Bool.and_eq_true] at h
    have h2 := rising_pw h.2
    have h1 : sLe p x = true := by
      unfold sLe strLt
      rw [← PyProof.Rows.ltCps_eq]
      exact h.1
    refine List.pairwise_cons.mpr ⟨fun y hy => ?_, h2⟩
    rcases List.mem_cons.mp hy with e | hy
    · rw [e]; exact h1
    · exact sLe_trans _ _ _ h1 ((List.pairwise_cons.mp h2).1 y hy)
theorem sorted_pw : ∀ {xs : List Str}, PyProof.Rows.sortedS xs = true → xs.Pairwise fun a b => sLe a b = true
  | [], _ => List.Pairwise.nil
  | x :: r, h => rising_pw h
theorem sort_eq {ys xs : List Str} (p : ys.Perm xs) (h : PyProof.Rows.sortedS ys = true) : ys = sortS xs :=
  List.Perm.eq_of_pairwise (le := fun a b => sLe a b = true) (fun _ _ _ _ => sLe_anti) (sorted_pw h) (List.pairwise_mergeSort sLe_trans sLe_total xs) (p.trans (sortS_perm xs).symm)
theorem sortS_length (xs : List Str) : (sortS xs).length = xs.length := (sortS_perm xs).length_eq
theorem call_sortedL : CallR X (.builtin "sorted") (fun vs H Q => ∃ (a : Addr) (xs : List Str), vs = [V.ref a] ∧ SqL X.K H a (xs.map V.str) ∧ ∀ p, H p = none → Q (.ref p) (upd H p (.lst ((sortS xs).map V.str)))) := by
  intro pins s σ H vs us Q I r h
  obtain ⟨a, xs, rfl, hs, q⟩ := h
  obtain ⟨its, rv, hl, hz⟩ := I.list hs
  obtain ⟨u, rfl, rx⟩ := vals1 r
  cases rx
  have hlen0 := rv.length
  rw [List.length_map] at hlen0 hz
  refine PyProof.Rows.sorted_strsAny hl.isList rv.strs (by rw [← hlen0]; exact hz) fun out ys h1 h2 h3 => ?_
  have e := sort_eq h2 h3
  subst e
  obtain ⟨ep, he'⟩ := PyProof.Rows.sortedAll_at s.heap its out
  have hlen : ((sortS xs).map V.str).length ≤ sizeLine := by rw [List.length_map, sortS_length]; exact hz
  exact ⟨.ref _, upd H (s.heap.objs.size + 1) (.lst ((sortS xs).map V.str)), I.laid (t' := s.toks) (fun _ _ => PyProof.Rows.sortedAll_old) (Nat.le_succ _) ⟨hlen, out.toList, ep, vals_of_strs h1, he'⟩, rfl, q _ (I.hok.fresh (Nat.le_succ _))⟩
theorem call_sortedDk (hcalm : X.calm = true) : CallR X (.builtin "sorted") (fun xs H Q => ∃ (a : Addr) (kvs : List (Key × V)) (ks : List Str), xs = [.ref a] ∧ H a = some (.dK kvs) ∧ kvs.map (·.1) = ks.map Sum.inr ∧
    ∀ p, H p = none → Q (.ref p) (upd H p (.lst ((sortS ks).map V.str)))) := by
  intro pins s σ H xs us Q I r q
  obtain ⟨a, kvs, ks, ex, hd, hks, q⟩ := q
  subst ex
  obtain ⟨u, eu, rx⟩ := vals1 r
  subst eu
  cases rx
  obtain ⟨z, lo, vs, rel, dd⟩ := dk_rd I.hok (.inl hd)
  obtain ⟨ep, hat⟩ := dd.dictAt
  have hkeys : vs.map (·.1) = ks.map Sum.inr := rel.keys.symm.trans hks
  have hl : vs.length = ks.length := by simpa using congrArg List.length hkeys
  have h16 : vs.length ≤ sizeLine := by rw [← rel.length]; exact z
  refine Calls.call_function_entry PyProof.Rows.kind_sorted PyProof.Rows.plain_sorted PyProof.Rows.entry_sorted (PyProof.Rows.args_sorted1 _) ?_
  unfold Builtin.«sorted»
  refine wpAny_bind (m := checkCount "sorted" 1 1 _) (wpAny_pure ?_)
  refine wpAny_bind (PySem.W.kdu_collect (A := X.A.in1) (PySem.W.kdl_dict (knd := mixKind X.prog X.w) (kvs := vs) (ep := ep) lo) (I.ok.hd hcalm) hat h16 fun h' tk acc hk hacc => ?_)
  have hal : acc.toList.length = ks.length := by rw [Array.length_toList, hacc.1, hl]
  have hS : PyProof.Rows.StrsAre acc.toList ks := L2.strs_at hal fun j v e => by
    obtain ⟨k, x, e1, e2⟩ := hacc.2 j v (by rw [← Array.getElem?_toList]; exact e)
    have e3 : (vs.map (·.1))[j]? = some k := by rw [List.getElem?_map, e1]; all_goals rfl
    rw [hkeys, List.getElem?_map] at e3
    cases e4 : ks[j]? with
    | none => rw [e4] at e3; cases e3
    | some y =>
      rw [e4] at e3
      obtain rfl : Sum.inr y = k := Option.some.inj e3
      obtain ⟨t, ev⟩ := Value.isStrOf_shape (x := y) (v := v) e2
      exact ⟨y, t, rfl, ev⟩
  have I1 : Inv X pins σ H { s with heap := h', toks := tk } := I.kept hk
  refine wpAny_bind (wpAny_newList ?_ (by rw [hal, ← hl]; exact h16))
  have hoL : (h'.push (PyProof.Rows.seqObj "list" acc.toList.toArray 0)).get? h'.objs.size = some (PyProof.Rows.seqObj "list" acc.toList.toArray 0) := Heap.get?_push_size _ rfl
  show wpAny _ _ _ _ _ { s with heap := h'.push (PyProof.Rows.seqObj "list" acc.toList.toArray 0), toks := tk }
  refine wpAny_bind (wpAny_holding (wpAny_call_entry PyProof.Rows.slot_list_sort ⟨_, hoL, rfl⟩ PyProof.Rows.entry_list_sort
    (PyProof.Rows.list_sort_treeKAny PyProof.Rows.strKind_oneLt (s := { s with heap := h'.push (PyProof.Rows.seqObj "list" acc.toList.toArray 0), toks := tk }) hoL hS.keysOf (fun v₁ v₂ rest e => PyProof.Rows.keyKind_strs (by rw [← e]; exact hS)) (by rw [hal, ← hl]; exact h16) fun st' hp hs => ⟨_, rfl, ?_⟩)
    (PyProof.Rows.args_list_sort _)))
  obtain ⟨ys, g1, g2, g3⟩ := PyProof.Rows.sorted_out_str hS hp hs
  have e := sort_eq g2 g3
  subst e
  obtain ⟨e', he'⟩ := PyProof.Rows.sortedHeap_at (vs := acc.toList) (out := (PyProof.Rows.arrOf st').map (·.2)) hoL
  have hlen : ((sortS ks).map V.str).length ≤ sizeLine := by rw [List.length_map, sortS_length, ← hl]; exact h16
  refine wpAny_pure ⟨_, rfl, .ref h'.objs.size, upd H h'.objs.size (.lst ((sortS ks).map V.str)), I1.laid (t' := tk) (fun b u e => ?_) (Nat.le_refl _)
    (show ObjOk X.prog X.w _ _ _ (.lst ((sortS ks).map V.str)) from ⟨hlen, ((PyProof.Rows.arrOf st').map (·.2)).toList, e', vals_of_strs g1, by rw [Array.toArray_toList]; exact he'⟩), rfl, q _ (I1.hok.fresh (Nat.le_refl _))⟩
  have hb : b < h'.objs.size := Heap.lt_size e
  rw [PyProof.Rows.sortedHeap_old (Nat.ne_of_lt hb) (by rw [PyProof.Rows.size_push']; exact Nat.lt_succ_of_lt hb)]
  exact Heap.get?_push_of_some _ e
end
end Iv

set_option Elab.async false
set_option linter.all false
set_option maxHeartbeats 4000000
/-! sorted of tuples whose first items are unlike texts -/
namespace Iv
open PySem PySem.Spec L2 PyProof.Rows Srt
section
variable {prog : Program} {w : World} {A : Around} {E : Value → Shared → Prop} {s : Shared}
/-- v is a tuple whose first item is the text k -/
def FstIs (h : Heap) (v : Value) (k : Str) : Prop := ∃ (a : Addr) (o : Obj) (t : Tok) (r : List Value) (n : Nat), v = .ref a ∧ h.get? a = some o ∧ o.cls = .type "tuple" ∧ o.data = .seq (Value.str k t :: r).toArray n
theorem FstIs.keeps {h h' : Heap} {v : Value} {k : Str} (p : FstIs h v k) (q : ∀ b o, h.get? b = some o → o.cls = .type "tuple" → h'.get? b = some o) : FstIs h' v k := by
  obtain ⟨a, o, t, r, n, e, ho, hc, hd⟩ := p
  exact ⟨a, o, t, r, n, e, q _ _ ho hc, hc, hd⟩
theorem kat_same {Q : Bool → Shared → Prop} (hq : Q false s) : ∀ (l : List Value) (i : Nat), PySem.W.KatLex prog w A true false Q (l.zip l) i s
  | [], i => PySem.W.kat_nil hq
  | v :: r, i => by
    rw [List.zip_cons_cons]
    exact PySem.W.kat_cons (SeqAt.EqAt.same v prog w _ _ (PySem.W.kat_yes (kat_same hq r (i + 1))))
theorem strLt_iff {x y : Str} : strLt x y = decide (x.cps.toList < y.cps.toList) := rfl
theorem strLt_irr (x : Str) : strLt x x = false := by rw [strLt_iff]; exact decide_eq_false (List.lt_irrefl _)
theorem tupT_cmp {vs : List Value} {k : Value → Str} (hp : ∀ v ∈ vs, FstIs s.heap v (k v)) (inj : ∀ v ∈ vs, ∀ u ∈ vs, k v = k u → v = u) : SrtO.Cmp prog w A s (tuples' true) (fun p => p.1 ∈ vs) (SrtO.lt2 fun v u => strLt (k v) (k u)) := by
  intro p q hm hm'
  have h1 := hp _ hm
  have h2 := hp _ hm'
  show wpAny (model prog w) A (keyLt' (tuples' true) p.1 q.1) (fun r s' => s' = s ∧ r = strLt (k p.1) (k q.1)) (fun _ _ => False) s
  by_cases e : k p.1 = k q.1
  · have e2 := inj _ hm _ hm' e
    rw [← e2, strLt_irr]
    obtain ⟨a, o, t, r, n, e, ho, hc, hd⟩ := h1
    rw [e]
    refine PySem.W.kat_lt ho hd ho hd ?_
    rw [decide_eq_false (Nat.lt_irrefl _)]
    exact kat_same ⟨rfl, rfl⟩ _ 0
  · generalize k p.1 = x at h1 e ⊢
    generalize k q.1 = y at h2 e ⊢
    obtain ⟨a, o, t, r, n, ea, ho, hc, hd⟩ := h1
    obtain ⟨a', o', t', r', n', ea', ho', hc', hd'⟩ := h2
    rw [ea, ea']
    refine PySem.W.kat_lt ho hd ho' hd' ?_
    rw [List.toList_toArray, List.toList_toArray, List.zip_cons_cons]
    refine PySem.W.kat_cons (SeqAt.EqAt.str_str x t y t' prog w _ _ ?_)
    have : (x == y) = false := by simpa using e
    rw [this]
    exact PySem.W.kat_no (oneLt_str ⟨rfl, rfl⟩)
theorem firstsT_of {h : Heap} : ∀ {vs : List Value}, (∀ v ∈ vs, ∃ k, FstIs h v k) → ∃ fs : List Value, PySem.W.KatTups h vs fs ∧ fs.length = vs.length ∧ ∀ f ∈ fs, ∃ x t, f = Value.str x t
  | [], _ => ⟨[], PySem.W.KatTups.nil, rfl, fun _ hm => by simp at hm⟩
  | v :: vs, hp => by
    obtain ⟨fs, h1, h2, h3⟩ := firstsT_of (vs := vs) fun v' hm => hp v' (List.mem_cons_of_mem _ hm)
    obtain ⟨k, a, o, t, r, n, e, ho, hc, hd⟩ := hp v (List.mem_cons_self ..)
    subst e
    refine ⟨.str k t :: fs, PySem.W.KatTups.cons ho hc hd rfl h1, by rw [List.length_cons, List.length_cons, h2], fun f hm => ?_⟩
    rcases List.mem_cons.mp hm with rfl | hm
    · exact ⟨k, t, rfl⟩
    · exact h3 f hm
theorem tupT_sortable {a : Addr} {vs : List Value} {k : Value → Str} (h0 : 0 < vs.length) (hp : ∀ v ∈ vs, FstIs s.heap v (k v)) (inj : ∀ v ∈ vs, ∀ u ∈ vs, k v = k u → v = u) (ha : ∀ o, s.heap.get? a = some o → o.cls ≠ .type "tuple") : SrtO.SortableO prog w A s a vs fun v u => strLt (k v) (k u) := by
  intro h' keep
  have hp' : ∀ v ∈ vs, FstIs h' v (k v) := fun v hm => (hp v hm).keeps fun b o e c => keep b o (fun z => by subst z; exact ha o e c) e
  obtain ⟨fs, h1, h2, h3⟩ := firstsT_of (h := h') fun v hm => ⟨_, hp' v hm⟩
  refine ⟨tuples' true, fun Q E hq => ?_, tupT_cmp (s := { s with heap := h' }) hp' inj⟩
  refine PySem.W.kat_kind (T := .type "str") h1 (by omega) (fun f hm => ?_) (by rfl) ?_
  · obtain ⟨x, t, rfl⟩ := h3 f hm
    exact PySem.W.Looks.now
  · have e : (Value.type "str" != Value.type "tuple") = true := by first | decide +kernel | rfl | decide
    rw [e]
    exact hq
theorem strLt_asym {x y : Str} (h : strLt x y = true) : strLt y x = false := by
  rw [strLt_iff, decide_eq_true_eq] at h
  rw [strLt_iff]
  exact decide_eq_false fun q => List.lt_irrefl _ (List.lt_trans h q)
theorem strLt_swo {α : Type} (k : α → Str) : SrtO.Swo fun v u => strLt (k v) (k u) := by
  refine ⟨fun x y h => strLt_asym h, fun x y z h1 h2 => ?_⟩
  have a : sLe (k x) (k y) = true := by unfold sLe; rw [h1]; rfl
  have b : sLe (k y) (k z) = true := by unfold sLe; rw [h2]; rfl
  have c := sLe_trans _ _ _ a b
  unfold sLe at c
  cases q : strLt (k z) (k x) with
  | false => rfl
  | true => rw [q] at c; cases c
theorem sorted_tupT {l : Addr} {vs : List Value} {k : Value → Str} {Q : Value → Shared → Prop} (hl : s.heap.IsList l vs.toArray) (hz : vs.length ≤ sizeLine) (hp : ∀ v ∈ vs, FstIs s.heap v (k v)) (inj : ∀ v ∈ vs, ∀ u ∈ vs, k v = k u → v = u)
    (h : ∀ (h' : Heap) (d : Addr) (out : List Value), SrtO.Srtd (fun v u => strLt (k v) (k u)) out → out.Perm vs → (∀ b o, s.heap.get? b = some o → h'.get? b = some o) → s.heap.objs.size ≤ d → (∃ n, h'.get? d = some (seqObj "list" out.toArray n)) → Q (.ref d) { s with heap := h' }) :
    wpAny (model prog w) A (call (.builtin "sorted") [.ref l]) Q E s := by
  refine SrtO.sorted_ord (strLt_swo k) hl hz (fun h2 h₁ a ha kk => ?_) fun out hs hb => ?_
  · refine tupT_sortable (s := { s with heap := h₁ }) (by omega) (fun v hm => (hp v hm).keeps fun b o e _ => (kk b o e).2) inj fun o e => ?_
    have e' : some o = some (seqObj "list" vs.toArray 0) := e.symm.trans ha
    cases e'
    intro c
    exact absurd (Value.type.inj c) (by decide)
  · exact h _ _ out hs hb.perm (fun b o e => sortedAll_old e) (Nat.le_succ _) (sortedAll_at s.heap vs out.toArray)
end
theorem nodup_of_map {α β : Type} {f : α → β} {l : List α} (h : (l.map f).Nodup) : l.Nodup := (List.pairwise_map.mp h).imp fun h e => h (by rw [e])
/-- the same as a rule: L, the tuples with their first items -/
theorem call_sortedT {X : Cx} : CallR X (.builtin "sorted") (fun vs H Q => ∃ (a : Addr) (L : List (Str × V)), vs = [V.ref a] ∧ SqL X.K H a (L.map (·.2)) ∧ (L.map (·.1)).Nodup ∧ (∀ q ∈ L, ∃ t rest, q.2 = .ref t ∧ SqT X.K H t (.str q.1 :: rest)) ∧
    ∀ (L' : List (Str × V)) (p : Addr), L'.Perm L → L'.Pairwise (fun x y => sLe x.1 y.1 = true) → H p = none → Q (.ref p) (upd H p (.lst (L'.map (·.2))))) := by
  intro pins s σ H vs us Q I r h
  obtain ⟨a, L, rfl, hs, nd, hx, q⟩ := h
  obtain ⟨its, rv, hl, hz⟩ := I.list hs
  obtain ⟨u, rfl, ru⟩ := vals1 r
  obtain rfl : u = Value.ref a := ru
  obtain ⟨e1, e2⟩ := refs_back rv fun x m => by
    obtain ⟨q, hq, rfl⟩ := List.mem_map.mp m
    obtain ⟨t, rest, e, _⟩ := hx q hq
    exact ⟨t, e⟩
  -- a tuple's key
  have key : ∀ v ∈ its, ∃ k, (k, backV v) ∈ L ∧ FstIs s.heap v k := fun v hv => by
    have hm : backV v ∈ L.map (·.2) := by rw [e1]; exact List.mem_map.mpr ⟨_, hv, rfl⟩
    obtain ⟨⟨k, x⟩, hq, e⟩ := List.mem_map.mp hm
    have e : x = backV v := e
    subst e
    refine ⟨k, hq, ?_⟩
    obtain ⟨t, rfl⟩ := e2 v hv
    obtain ⟨t', rest, e3, ht⟩ := hx _ hq
    have e3 : V.ref t = V.ref t' := e3
    cases e3
    obtain ⟨its2, r2, ⟨o, ho, hc, n, hd⟩, _⟩ := I.tuple ht
    cases r2 with
    | cons rk rr =>
      obtain ⟨tk, rfl⟩ := rk
      exact ⟨t, o, tk, _, n, rfl, ho, hc, hd⟩
  have uniq : ∀ {v : Value} {k k' : Str}, FstIs s.heap v k → FstIs s.heap v k' → k = k' := by
    rintro v k k' ⟨a1, o1, t1, r1, n1, e1, h1, c1, d1⟩ ⟨a2, o2, t2, r2, n2, e2, h2, c2, d2⟩
    rw [e1] at e2
    cases e2
    rw [h1] at h2
    cases h2
    rw [d1] at d2
    injection d2 with d2 _
    have := congrArg Array.toList d2
    simp at this
    exact this.1.1
  classical
  let kv : Value → Str := fun v => if h : ∃ k, (k, backV v) ∈ L ∧ FstIs s.heap v k then Classical.choose h else ""
  have hkv : ∀ v ∈ its, (kv v, backV v) ∈ L ∧ FstIs s.heap v (kv v) := fun v hv => by
    have h := key v hv
    have : kv v = Classical.choose h := dif_pos h
    rw [this]
    exact Classical.choose_spec h
  have inj : ∀ v ∈ its, ∀ u ∈ its, kv v = kv u → v = u := fun v hv u hu e => by
    obtain ⟨a1, _⟩ := hkv v hv
    obtain ⟨b1, _⟩ := hkv u hu
    rw [e] at a1
    have : backV v = backV u := by
      have pw : L.Pairwise (fun x y => x.1 ≠ y.1) := List.pairwise_map.mp nd
      have : ∀ {l : List (Str × V)} {k : Str} {x y : V}, l.Pairwise (fun x y => x.1 ≠ y.1) → (k, x) ∈ l → (k, y) ∈ l → x = y := by
        intro l
        induction l with
        | nil => intro k x y _ h; cases h
        | cons z r ih =>
          intro k x y pw hx hy
          rw [List.pairwise_cons] at pw
          rcases List.mem_cons.mp hx with hx | hx <;> rcases List.mem_cons.mp hy with hy | hy
          · rw [← hx] at hy; cases hy; rfl
          · exact absurd (by rw [← hx]) (pw.1 _ hy)
          · exact absurd (by rw [← hy]) (pw.1 _ hx)
          · exact ih pw.2 hx hy
      exact this pw a1 b1
    obtain ⟨x, rfl⟩ := e2 v hv
    obtain ⟨y, rfl⟩ := e2 u hu
    have this : V.ref x = V.ref y := this
    cases this
    rfl
  have eL : L.Perm (its.map fun v => (kv v, backV v)) := by
    have n1 : L.Nodup := nodup_of_map nd
    have nI : its.Nodup := by
      have : (its.map backV).Nodup := by
        rw [← e1]
        refine List.pairwise_map.mpr ?_
        have pw : L.Pairwise (fun x y => x.1 ≠ y.1) := List.pairwise_map.mp nd
        refine pw.imp_of_mem fun {x y} hx' hy' hne e => hne ?_
        obtain ⟨t, rest, ex, hT⟩ := hx x hx'
        obtain ⟨t', rest', ey, hT'⟩ := hx y hy'
        rw [ex, ey] at e
        cases e
        have := I.tuple_inj hT hT'
        injection this with this
        injection this
      exact nodup_of_map this
    refine (List.perm_ext_iff_of_nodup n1 ?_).mpr fun q => ⟨fun hq => ?_, fun hq => ?_⟩
    · refine List.pairwise_map.mpr (nI.imp_of_mem fun {x y} hx' hy' hne e => hne ?_)
      have e := congrArg Prod.snd e
      obtain ⟨x1, rfl⟩ := e2 x hx'
      obtain ⟨y1, rfl⟩ := e2 y hy'
      have e : V.ref x1 = V.ref y1 := e
      cases e; rfl
    · have hm : q.2 ∈ L.map (·.2) := List.mem_map_of_mem hq
      rw [e1] at hm
      obtain ⟨v, hv, ev⟩ := List.mem_map.mp hm
      refine List.mem_map.mpr ⟨v, hv, ?_⟩
      obtain ⟨a1, f1⟩ := hkv v hv
      obtain ⟨k, a2, f2⟩ := key v hv
      have : q.1 = kv v := by
        obtain ⟨t, rest, ex, hT⟩ := hx q hq
        obtain ⟨t', rest', ey, hT'⟩ := hx _ a1
        have ey : backV v = .ref t' := ey
        rw [← ev, ey] at ex
        cases ex
        have := I.tuple_inj hT hT'
        injection this with this
        injection this
      exact Prod.ext this.symm ev
    · obtain ⟨v, hv, rfl⟩ := List.mem_map.mp hq
      exact (hkv v hv).1
  refine sorted_tupT (k := kv) hl.isList (by rw [← rv.length]; exact hz) (fun v hv => (hkv v hv).2) inj fun h' d out h1 h2 kp hd hn => ?_
  have h3 : ∀ u ∈ out, ∃ a, u = Value.ref a := fun u hu => e2 u (h2.mem_iff.mp hu)
  obtain ⟨n, hn⟩ := hn
  have e4 : out.map backV = (out.map fun v => (kv v, backV v)).map (·.2) := by rw [List.map_map]; rfl
  refine ⟨.ref d, upd H d (.lst (out.map backV)), I.laid (t' := s.toks) kp hd ⟨?_, out, n, vals_back h3, hn⟩, rfl, ?_⟩
  · rw [List.length_map, h2.length_eq, ← rv.length]; exact hz
  · rw [e4]
    refine q _ d ((h2.map _).trans eL.symm) ?_ (I.hok.fresh hd)
    refine List.pairwise_map.mpr (h1.imp fun {x y} h => ?_)
    unfold sLe
    have h : strLt (kv y) (kv x) = false := h
    rw [h]; rfl
end Iv

set_option Elab.async false
set_option linter.all false
set_option maxHeartbeats 2000000
/-! built-in functions, methods, stores: all of them -/
namespace Iv
open PySem PySem.Spec L2
section
variable {X : Cx} {ea : Exa} {Wx : WX} {st0 : L2.St}
/-! dicts put and merged -/
abbrev KR (P : Program) (w : World) (K : PySem.W.Frag) (W : Wd) : List (Key × D) → List (Key × V) → Prop := Paired fun a b => a.1 = b.1 ∧ Rep P w K W a.2 b.2
section
variable {P : Program} {w : World} {K : PySem.W.Frag} {W : Wd}
theorem KR.zip : ∀ {ks : List Key} {ds : List D} {vs : List V}, ks.length = vs.length → Reps P w K W ds vs → KR P w K W (ks.zip ds) (ks.zip vs)
  | [], _, _, _, _ => by simp only [List.zip_nil_left]; exact .nil
  | k :: ks, _, [], l, _ => by simp at l
  | k :: ks, [], v :: vs, _, r => by have := r.length; simp at this
  | k :: ks, d :: ds, v :: vs, l, r => by
    obtain ⟨r1, r2⟩ := Reps.cons_iff.mp r
    exact .cons ⟨rfl, r1⟩ (KR.zip (by simpa using l) r2)
theorem KR.any {k : Key} {a : List (Key × D)} {b : List (Key × V)} (h : KR P w K W a b) : (a.any fun kv => decide (kv.1 = k)) = b.any fun kv => decide (kv.1 = k) := by
  induction h with
  | nil => rfl
  | cons h _ ih => rw [List.any_cons, List.any_cons, ih, h.1]
theorem KR.sets {k : Key} {d : D} {v : V} (r : Rep P w K W d v) {a : List (Key × D)} {b : List (Key × V)} (h : KR P w K W a b) : KR P w K W (a.map fun kv => if kv.1 = k then (kv.1, d) else kv) (b.map fun kv => if kv.1 = k then (kv.1, v) else kv) := by
  induction h with
  | nil => exact .nil
  | @cons x y _ _ h _ ih =>
    rw [List.map_cons, List.map_cons]
    refine .cons ?_ ih
    by_cases e : x.1 = k
    · rw [if_pos e, if_pos (h.1 ▸ e)]; exact ⟨h.1, r⟩
    · rw [if_neg e, if_neg fun z => e (h.1.trans z)]; exact h
theorem KR.put {k : Key} {d : D} {v : V} (r : Rep P w K W d v) {a : List (Key × D)} {b : List (Key × V)} (h : KR P w K W a b) : KR P w K W (putD a k d) (putK b k v) := by
  unfold putD putK
  rw [h.any (k := k)]
  split
  · exact h.sets r
  · exact h.snoc ⟨rfl, r⟩
theorem KR.merge {m : List (Key × D)} {n : List (Key × V)} (h : KR P w K W m n) : ∀ {a : List (Key × D)} {b : List (Key × V)}, KR P w K W a b → KR P w K W (mergeD a m) (mergeK b n) := by
  induction h with
  | nil => intro a b q; exact q
  | @cons x y _ _ h _ ih =>
    intro a b q
    have := ih (q.put (k := x.1) h.2)
    unfold mergeD mergeK at *
    rw [List.foldl_cons, List.foldl_cons, ← h.1]
    exact this
theorem KR.parts {a : List (Key × D)} {b : List (Key × V)} (h : KR P w K W a b) : b = (a.map (·.1)).zip (b.map (·.2)) ∧ (a.map (·.1)).length = (b.map (·.2)).length ∧ Reps P w K W (a.map (·.2)) (b.map (·.2)) := by
  induction h with
  | nil => exact ⟨rfl, rfl, Reps.nil⟩
  | @cons x y _ _ h _ ih =>
    obtain ⟨e1, e2, e3⟩ := ih
    simp only [List.map_cons, List.zip_cons_cons, List.length_cons, ← e1, e2, h.1, true_and]
    exact Reps.cons h.2 e3
/-- a list of pairs, as dict(..) takes it -/
theorem pairs_reps {H : Hp} (sub : ∀ a o, W.F a = some o → H a = some o) : ∀ {xs : List D} {vs : List V} {kvs : List (Key × D)}, Reps P w K W xs vs → pairsOf xs = some kvs →
    ∃ (ps : List Addr) (us : List (Key × V)), vs = ps.map V.ref ∧ Paired (fun p kv => SqT K H p [kV kv.1, kv.2]) ps us ∧ KR P w K W kvs us
  | [], vs, kvs, r, e => by
    simp only [pairsOf, Option.some.injEq] at e
    subst e
    rw [Reps.nil_iff.mp r]
    exact ⟨[], [], rfl, .nil, .nil⟩
  | _ :: _, [], _, r, _ => by have := r.length; simp at this
  | d :: ds, v :: vs, kvs, r, e => by
    obtain ⟨r1, r2⟩ := Reps.cons_iff.mp r
    unfold pairsOf at e
    split at e
    · rename_i eq; cases eq
    · rename_i kd x rest eq
      cases eq
      split at e
      · rename_i k hk
        rw [Option.map_eq_some_iff] at e
        obtain ⟨tl, e, rfl⟩ := e
        obtain ⟨ps, us, e1, e2, e3⟩ := pairs_reps sub r2 e
        simp only [Rep] at r1
        obtain ⟨a, zs, rfl, s, q⟩ := r1
        match zs, q with
        | [], q => have := q.length; simp at this
        | [_], q => have := q.length; simp at this
        | z1 :: z2 :: z3 :: _, q => have := q.length; simp at this
        | [z1, z2], q =>
          obtain ⟨q1, q2⟩ := Reps.cons_iff.mp q
          obtain ⟨q2, _⟩ := Reps.cons_iff.mp q2
          have hz := Rep.key q1 hk
          subst hz
          exact ⟨a :: ps, (k, z2) :: us, by rw [e1]; rfl, .cons (sqT_ext sub s.sq) e2, .cons ⟨rfl, q2⟩ e3⟩
      · cases e
    · rename_i kd x rest eq
      cases eq
      split at e
      · rename_i k hk
        rw [Option.map_eq_some_iff] at e
        obtain ⟨tl, e, rfl⟩ := e
        obtain ⟨ps, us, e1, e2, e3⟩ := pairs_reps sub r2 e
        simp only [Rep] at r1
        obtain ⟨a, zs, rfl, s, q⟩ := r1
        match zs, q with
        | [], q => have := q.length; simp at this
        | [_], q => have := q.length; simp at this
        | z1 :: z2 :: z3 :: _, q => have := q.length; simp at this
        | [z1, z2], q =>
          obtain ⟨q1, q2⟩ := Reps.cons_iff.mp q
          obtain ⟨q2, _⟩ := Reps.cons_iff.mp q2
          have hz := Rep.key q1 hk
          subst hz
          exact ⟨a :: ps, (k, z2) :: us, by rw [e1]; rfl, .cons (sqT_ext sub s) e2, .cons ⟨rfl, q2⟩ e3⟩
      · cases e
    · cases e
end
theorem strs_keys : ∀ {ks : List Key} {ss : List Str}, strsOf (ks.map keyD) = some ss → ks = ss.map Sum.inr
  | [], ss, e => by simp only [List.map_nil, strsOf, Option.some.injEq] at e; subst e; rfl
  | .inl i :: ks, ss, e => by simp only [List.map_cons, keyD, strsOf, reduceCtorEq] at e
  | .inr x :: ks, ss, e => by
    simp only [List.map_cons, keyD, strsOf, Option.map_eq_some_iff] at e
    obtain ⟨t, e, rfl⟩ := e
    rw [strs_keys e]; rfl
theorem nodup_dups : ∀ (n : Nat) (l : List Str), l.length ≤ n → l.eraseDups.Nodup
  | 0, l, h => by cases l with | nil => simp | cons => simp at h
  | n + 1, [], h => by simp
  | n + 1, x :: r, h => by
    rw [List.eraseDups_cons, List.nodup_cons]
    refine ⟨fun hm => ?_, nodup_dups n _ (by have := List.length_filter_le (fun b => !b == x) r; simp at h; omega)⟩
    rw [List.mem_eraseDups, List.mem_filter] at hm
    simp at hm
theorem call_set (pl : Pl X) : CallR X (.type "set") (fun xs H Q => ∃ (a : Addr) (ss : List Str), xs = [V.ref a] ∧ SqL X.K H a (ss.map V.str) ∧ ss.length < 1000 ∧ ∀ p, H p = none → Q (.ref p) (upd H p (SetHO X.prog X.w p ss.eraseDups))) := by
  intro pins s σ H xs us Q I r h
  obtain ⟨a, ss, rfl, hs, h64, q⟩ := h
  obtain ⟨its, rv, hl, hz⟩ := I.list hs
  obtain ⟨u, rfl, rx⟩ := vals1 r
  cases rx
  refine call_set_texts (I.ok.hd pl.calm) hl.isList (by rw [List.toList_toArray]; exact rv.strs) (by unfold PySem.scanBound; omega) fun h' tk hS hk => ?_
  have hS2 : SetS X.w h' s.heap.objs.size (fun y => decide (y ∈ ss.eraseDups)) ss.eraseDups.length := hS.congr fun y => by simp [List.mem_eraseDups]
  have ho : ∃ o, h'.get? s.heap.objs.size = some o := let ⟨o, _, _, _, ho, _⟩ := hS2; ⟨o, ho⟩
  exact ⟨.ref _, upd H s.heap.objs.size (SetHO X.prog X.w s.heap.objs.size ss.eraseDups), I.laid (t' := tk) hk (Nat.le_refl _)
    (show ObjOk X.prog X.w _ h' _ (SetHO X.prog X.w s.heap.objs.size ss.eraseDups) from ⟨⟨nodup_dups _ _ (Nat.le_refl _), hS2⟩, ho, fun h1 h2 p k => ⟨p.1, p.2.at k⟩⟩), rfl, q _ (I.hok.fresh (Nat.le_refl _))⟩
theorem call_sortedS (pl : Pl X) : CallR X (.builtin "sorted") (fun xs H Q => ∃ (a : Addr) (ss : List Str), xs = [V.ref a] ∧ H a = some (SetHO X.prog X.w a ss) ∧ ∀ p, H p = none → Q (.ref p) (upd H p (.lst ((sortS ss).map V.str)))) := by
  intro pins s σ H xs us Q I r h
  obtain ⟨a, ss, rfl, ha, q⟩ := h
  obtain ⟨u, rfl, rx⟩ := vals1 r
  cases rx
  obtain ⟨⟨nd, hS⟩, _, _⟩ := (show ObjOk X.prog X.w H s.heap a (SetHO X.prog X.w a ss) from I.hok a _ ha)
  refine sorted_setS hS (I.ok.hd pl.calm) fun s' p out c zs ys k g o hp hout h1 h2 h3 h4 h5 h6 => ?_
  have e : ys = sortS ss := sort_eq (h2.trans ((List.perm_ext_iff_of_nodup h4 nd).mpr fun k => by rw [h5, decide_eq_true_eq])) h3
  subst e
  have hlen : ((sortS ss).map V.str).length ≤ sizeLine := by rw [List.length_map]; exact h6
  have hn : H p = none := I.hok.fresh hp
  obtain ⟨hh, gg, dd, tt, oo⟩ := s'
  have g : gg = s.gens := g
  have o : oo = s.os := o
  subst g o
  have I1 : Inv X pins σ (upd H p (.lst ((sortS ss).map V.str))) { s with heap := hh, gens := s.gens, drawn := dd, toks := tt } :=
    I.call (ch := []) (Un.laid k hp hn) (I.hok.laid k hp ⟨hlen, out.toList, c, vals_of_strs h1, hout⟩) I.bare (fun _ z => nomatch z)
  exact ⟨.ref p, _, I1, rfl, q _ (I.hok.fresh hp)⟩
theorem pairs_of2 {pins : List (Addr × Obj)} {σ : L2.St} {H : Hp} {s : Shared} (I : Inv X pins σ H s) : ∀ {ps : List Addr} {kvs : List (Key × V)}, Paired (fun p kv => SqT X.K H p [kV kv.1, kv.2]) ps kvs →
    ∃ (prs : List (Key × Value)) (vps : List (Value × Value)), KV kvs prs ∧ prs.length = ps.length ∧ vps.length = ps.length ∧ ∀ (j : Nat) (k v : Value), vps[j]? = some (k, v) → ∃ (b : Addr) (key : Key), ps[j]? = some b ∧ PyProof.Rows.IsTup s.heap b #[k, v] ∧ prs[j]? = some (key, v) ∧ keyIs key k = true
  | _, _, .nil => ⟨[], [], .nil, rfl, rfl, fun j k v e => by simp at e⟩
  | _, _, .cons (a := p) (b := kv) h t => by
    obtain ⟨prs, vps, r, hl, hl2, hp⟩ := pairs_of2 I t
    obtain ⟨its, rv, ht, _⟩ := I.tuple h
    obtain ⟨u, y, ei, ru, ry⟩ := vals2 rv
    subst ei
    refine ⟨(kv.1, y) :: prs, (u, y) :: vps, .cons ⟨rfl, ry⟩ r, by rw [List.length_cons, List.length_cons, hl], by rw [List.length_cons, List.length_cons, hl2], fun j k v e => ?_⟩
    cases j with
    | zero =>
      have e' : (u, y) = (k, v) := Option.some.inj e
      cases e'
      exact ⟨p, kv.1, rfl, ht, rfl, kV_is (P := X.prog) (w := X.w) ru⟩
    | succ j =>
      obtain ⟨b, key, e1, e2, e3, e4⟩ := hp j k v (by simpa using e)
      exact ⟨b, key, by simpa using e1, e2, by simpa using e3, e4⟩
/-- dict(t), t a tuple of pairs -/
theorem call_dictT (hcalm : X.calm = true) : CallR X (.type "dict") (fun xs H Q => ∃ (a : Addr) (ps : List Addr) (kvs : List (Key × V)), xs = [V.ref a] ∧ PlT X.K H a (ps.map V.ref) ∧ Paired (fun p kv => SqT X.K H p [kV kv.1, kv.2]) ps kvs ∧
    ∀ p, H p = none → Q (.ref p) (upd H p (.dK (mergeK [] kvs)))) := by
  intro pins s σ H xs us Q I r q
  obtain ⟨a, ps, kvs, ex, hq, hp, q⟩ := q
  subst ex
  obtain ⟨u, eu, rx⟩ := vals1 r
  subst eu
  cases rx
  obtain ⟨its, rv, pl, hz⟩ : ∃ its : List Value, Vals (ps.map V.ref) its ∧ PlainSeq "tuple" s.heap a its.toArray ∧ (ps.map V.ref).length ≤ sizeLine := by
    rcases hq with ⟨o, hq, hd⟩ | ⟨o, its, n, hk, hc, hd, hs, hz, rv⟩
    · obtain ⟨ho, hz, its, rv, o', ho', hc, n, hs⟩ := I.hok a _ hq
      rw [ho] at ho'
      cases ho'
      exact ⟨its, rv, ⟨o, n, ho, hc, hd, hs⟩, hz⟩
    · refine ⟨its.toList, rv, ⟨o, n, I.kIn a o hk, hc, hd, by simpa using hs⟩, ?_⟩
      have e := rv.length
      simp only [Array.length_toList] at e
      omega
  have ei := refs_at rv
  subst ei
  rw [List.length_map] at hz
  obtain ⟨prs, vps, rel, hl, hl2, hpr⟩ := pairs_of2 I hp
  have ok : PlainSeq "tuple" s.heap a (ps.map Value.ref).toArray ∧ PairItems s.heap (ps.map Value.ref).toArray (fun j => ps.getD j 0) vps := by
    refine ⟨pl, by simp [hl2], fun j k v e => ?_⟩
    obtain ⟨b, key, e1, e2, e3, e4⟩ := hpr j k v e
    have e5 : ps.getD j 0 = b := by rw [List.getD_eq_getElem?_getD, e1]; rfl
    dsimp only
    rw [e5]
    exact ⟨by simp [e1], .inl e2⟩
  refine PySem.call_dict_pairs (knd := mixKind X.prog X.w) (kvs := prs) (PairArg.tuple a (ps.map Value.ref).toArray (fun j => ps.getD j 0) vps) (I.ok.hd hcalm) ok ⟨by rw [hl, hl2], fun i key v e => ?_⟩ (by rw [hl2]; exact hz) fun h' tk hd' k => ?_
  · obtain ⟨b, ky, e1, e2, e3, e4⟩ := hpr i key v e
    exact ⟨ky, e3, e4⟩
  · have hm : (s.heap.objs.size == sysModules) = false := beq_eq_false_iff_ne.mpr (Nat.ne_of_gt I.big)
    have hlen : (mergeK [] kvs).length ≤ sizeLine := by
      refine Nat.le_trans (length_mergeK kvs []) ?_
      rw [List.length_nil, Nat.zero_add, rel.length, hl]
      exact hz
    exact ⟨.ref s.heap.objs.size, upd H s.heap.objs.size (.dK (mergeK [] kvs)), I.laid (t' := tk) (fun b o e => k b o (by simp) e) (Nat.le_refl _) (show ObjOk X.prog X.w _ _ _ (.dK (mergeK [] kvs)) from ⟨hlen, hm, merged [] prs, KV.merge rel .nil, hd'⟩), rfl, q _ (I.hok.fresh (Nat.le_refl _))⟩
theorem fsts_reps {P : Program} {w : World} {K : PySem.W.Frag} {W : Wd} {H : Hp} (sub : ∀ a o, W.F a = some o → H a = some o) : ∀ {xs : List D} {vs : List V} {fs : List Str}, Reps P w K W xs vs → fstsOf xs = some fs → fs.length = xs.length ∧ ∀ q ∈ fs.zip vs, ∃ t rest, q.2 = .ref t ∧ SqT K H t (.str q.1 :: rest)
  | [], vs, fs, r, e => by
    simp only [fstsOf, Option.some.injEq] at e
    subst e
    exact ⟨rfl, fun q h => by simp at h⟩
  | _ :: _, [], _, r, _ => by have := r.length; simp at this
  | d :: ds, v :: vs, fs, r, e => by
    obtain ⟨r1, r2⟩ := Reps.cons_iff.mp r
    unfold fstsOf at e
    split at e
    · rename_i eq; cases eq
    · rename_i x ys rest eq
      cases eq
      rw [Option.map_eq_some_iff] at e
      obtain ⟨tl, e, rfl⟩ := e
      obtain ⟨h1, h2⟩ := fsts_reps sub r2 e
      refine ⟨by simp [h1], fun q hq => ?_⟩
      rw [List.zip_cons_cons] at hq
      rcases List.mem_cons.mp hq with rfl | hq
      · simp only [Rep] at r1
        obtain ⟨a, zs, rfl, s, qq⟩ := r1
        cases zs with
        | nil => have := qq.length; simp at this
        | cons z zr =>
          obtain ⟨q1, _⟩ := Reps.cons_iff.mp qq
          have : z = .str x := by simpa only [Rep] using q1
          subst this
          exact ⟨a, zr, rfl, sqT_ext sub s.sq⟩
      · exact h2 q hq
    · cases e
theorem reps_mem {P : Program} {w : World} {K : PySem.W.Frag} {W : Wd} : ∀ {xs : List D} {vs : List V}, Reps P w K W xs vs → ∀ q ∈ xs.zip vs, Rep P w K W q.1 q.2
  | [], _, _, q, h => by simp at h
  | _ :: _, [], r, _, _ => by have := r.length; simp at this
  | d :: ds, v :: vs, r, q, h => by
    obtain ⟨r1, r2⟩ := Reps.cons_iff.mp r
    rw [List.zip_cons_cons] at h
    rcases List.mem_cons.mp h with rfl | h
    · exact r1
    · exact reps_mem r2 q h
theorem reps_of_mem {P : Program} {w : World} {K : PySem.W.Frag} {W : Wd} : ∀ {l : List (D × V)}, (∀ q ∈ l, Rep P w K W q.1 q.2) → Reps P w K W (l.map (·.1)) (l.map (·.2))
  | [], _ => Reps.nil
  | q :: r, h => Reps.cons (h q List.mem_cons_self) (reps_of_mem fun z hz => h z (List.mem_cons_of_mem _ hz))
theorem sortT_reps {P : Program} {w : World} {K : PySem.W.Frag} {W : Wd} {xs : List D} {vs : List V} {fs : List Str} {L' : List (Str × V)} (q : Reps P w K W xs vs) (l2 : fs.length = xs.length) (nd : fs.Nodup) (pm : L'.Perm (fs.zip vs)) (so : L'.Pairwise fun x y => sLe x.1 y.1 = true) :
    Reps P w K W (sortT fs xs) (L'.map (·.2)) ∧ True := by
  refine ⟨?_, trivial⟩
  have l1 := q.length
  have hle : ∀ {α : Type} (a b c : Str × α), sLe a.1 b.1 = true → sLe b.1 c.1 = true → sLe a.1 c.1 = true := fun a b c h1 h2 => sLe_trans _ _ _ h1 h2
  -- both, side by side
  let Z := fs.zip (xs.zip vs)
  let M := Z.mergeSort fun a b => sLe a.1 b.1
  have m1 : M.map (fun z => (z.1, z.2.1)) = (fs.zip xs).mergeSort fun a b => sLe a.1 b.1 := by
    show (Z.mergeSort _).map _ = _
    rw [List.map_mergeSort (r := fun a b => sLe a.1 b.1) (s := fun (a b : Str × D) => sLe a.1 b.1) (f := fun z : Str × D × V => (z.1, z.2.1)) fun a _ b _ => rfl]
    congr 1
    show (fs.zip (xs.zip vs)).map _ = _
    apply List.ext_getElem
    · simp; omega
    · intro i h1 h2; simp
  have m2 : M.map (fun z => (z.1, z.2.2)) = (fs.zip vs).mergeSort fun a b => sLe a.1 b.1 := by
    show (Z.mergeSort _).map _ = _
    rw [List.map_mergeSort (r := fun a b => sLe a.1 b.1) (s := fun (a b : Str × V) => sLe a.1 b.1) (f := fun z : Str × D × V => (z.1, z.2.2)) fun a _ b _ => rfl]
    congr 1
    show (fs.zip (xs.zip vs)).map _ = _
    apply List.ext_getElem
    · simp; omega
    · intro i h1 h2; simp
  have e1 : sortT fs xs = (M.map (·.2)).map (·.1) := by
    unfold sortT
    have : (fun a b : Str × D => !strLt b.1 a.1) = fun a b => sLe a.1 b.1 := rfl
    rw [this, ← m1, List.map_map, List.map_map]; rfl
  have e2 : L' = (fs.zip vs).mergeSort fun a b => sLe a.1 b.1 := by
    have nd2 : ((fs.zip vs).map (·.1)).Nodup := by rw [List.map_fst_zip (by omega)]; exact nd
    refine List.Perm.eq_of_pairwise (le := fun a b => sLe a.1 b.1 = true) (fun a b ha hb h1 h2 => ?_) so (List.pairwise_mergeSort (le := fun a b : Str × V => sLe a.1 b.1) (fun a b c => sLe_trans a.1 b.1 c.1) (fun a b => sLe_total a.1 b.1) _) (pm.trans (List.mergeSort_perm _ _).symm)
    have e := sLe_anti h1 h2
    have ha := pm.mem_iff.mp ha
    have hb := (List.mergeSort_perm _ _).mem_iff.mp hb
    have pw : (fs.zip vs).Pairwise (fun x y => x.1 ≠ y.1) := List.pairwise_map.mp nd2
    have : ∀ {l : List (Str × V)} {x y : Str × V}, l.Pairwise (fun x y => x.1 ≠ y.1) → x ∈ l → y ∈ l → x.1 = y.1 → x = y := by
      intro l
      induction l with
      | nil => intro x y _ h; cases h
      | cons z r ih =>
        intro x y pw hx hy e
        rw [List.pairwise_cons] at pw
        rcases List.mem_cons.mp hx with hx | hx <;> rcases List.mem_cons.mp hy with hy | hy
        · rw [hx, hy]
        · exact absurd (by rw [← hx]; exact e) (pw.1 _ hy)
        · exact absurd (by rw [← hy]; exact e.symm) (pw.1 _ hx)
        · exact ih pw.2 hx hy e
    exact this pw ha hb e
  have e3 : L'.map (·.2) = (M.map (·.2)).map (·.2) := by
    rw [e2, ← m2, List.map_map, List.map_map]; rfl
  rw [e1, e3]
  refine reps_of_mem fun z hz => ?_
  obtain ⟨m, hm, rfl⟩ := List.mem_map.mp hz
  have hm : m ∈ Z := (List.mergeSort_perm _ _).mem_iff.mp hm
  exact reps_mem q _ (List.of_mem_zip hm).2
set_option maxHeartbeats 8000000 in
theorem call_bi (pl : Pl X) (sy : Sys X) (b : Bi) (mu : Bool) : CallR X b.val (rBi X ea Wx st0 b mu) := by
  intro pins s σ0 H xs us Q I r h
  obtain ⟨W, σ, a, x, rfl, hσ, ra, h⟩ := h
  have hc := pl.calm
  unfold biD at h
  split at h
  · rename_i ys e1
    obtain ⟨p, vs, rfl, s1, q⟩ := hσ.lst ra e1
    exact call_len pins s σ0 H _ us Q I r ⟨_, vs.length, rfl, .inl ⟨vs, SqL.of s1, rfl⟩, h.here hσ (by simp only [Rep, q.length])⟩
  · rename_i ys e1
    obtain ⟨p, vs, rfl, s1, q⟩ := hσ.ro ra e1
    exact call_len pins s σ0 H _ us Q I r ⟨_, vs.length, rfl, .inl ⟨vs, s1, rfl⟩, h.here hσ (by simp only [Rep, q.length])⟩
  · rename_i ys e1
    obtain ⟨p, vs, rfl, s1, q⟩ := hσ.tup ra e1
    exact call_len pins s σ0 H _ us Q I r ⟨_, vs.length, rfl, .inr ⟨vs, s1, rfl⟩, h.here hσ (by simp only [Rep, q.length])⟩
  · rename_i z e1
    have := ra.str e1; subst x
    split at h
    · rename_i hl
      exact call_len pins s σ0 H _ us Q I r ⟨_, z.length, rfl, ⟨by rw [← lim_eq]; exact hl, rfl⟩, h.here hσ (by simp only [Rep])⟩
    · exact False.elim h
  · rename_i ks ys e1
    obtain ⟨p, vs, rfl, s1, l, q⟩ := hσ.dic ra e1
    refine call_lenD pins s σ0 H _ us Q I r ⟨p, _, rfl, s1, h.here hσ (by simp only [Rep, List.length_zip, V.int.injEq]; omega)⟩
  · rename_i ys e1
    obtain ⟨p, vs, rfl, s1, q⟩ := hσ.lst ra e1
    exact call_list_of pins s σ0 H _ us Q I r ⟨p, vs, rfl, .inl (SqL.of s1), (h.newL hσ q).2⟩
  · rename_i ys e1
    obtain ⟨p, vs, rfl, s1, q⟩ := hσ.ro ra e1
    exact call_list_of pins s σ0 H _ us Q I r ⟨p, vs, rfl, .inl s1, (h.newL hσ q).2⟩
  · rename_i ys e1
    obtain ⟨p, vs, rfl, s1, q⟩ := hσ.tup ra e1
    exact call_list_of pins s σ0 H _ us Q I r ⟨p, vs, rfl, .inr s1, (h.newL hσ q).2⟩
  · rename_i ks ys e1
    obtain ⟨p, vs, rfl, s1, l, q⟩ := hσ.dic ra e1
    refine call_list_dK hc pins s σ0 H _ us Q I r ⟨p, _, rfl, s1, ?_⟩
    have e : ((ks.zip vs).map fun kv => kV kv.1) = ks.map kV := by
      have : ((ks.zip vs).map fun kv => kV kv.1) = ((ks.zip vs).map (·.1)).map kV := by rw [List.map_map]; rfl
      rw [this, List.map_fst_zip (by omega)]
    rw [e]
    exact (h.newL hσ (Reps.ofKeys ks)).2
  · rename_i ys e1
    obtain ⟨p, vs, rfl, s1, q⟩ := hσ.lst ra e1
    exact call_tuple_ofF pins s σ0 H _ us Q I r ⟨p, vs, rfl, .inl ⟨SqL.of s1, (h.newT hσ q).2⟩⟩
  · rename_i ys e1
    obtain ⟨p, vs, rfl, s1, q⟩ := hσ.ro ra e1
    exact call_tuple_ofF pins s σ0 H _ us Q I r ⟨p, vs, rfl, .inl ⟨s1, (h.newT hσ q).2⟩⟩
  · rename_i ys e1
    have ra' := ra
    obtain ⟨p, vs, rfl, s1, q⟩ := hσ.tup ra e1
    rw [view_tup e1] at ra'
    exact call_tuple_ofF pins s σ0 H _ us Q I r ⟨p, vs, rfl, .inr ⟨s1, h.here hσ ra'⟩⟩
  · rename_i i e1
    have := ra.int e1; subst x
    exact call_int1 pins s σ0 H _ us Q I r (.inl ⟨i, rfl, h.here hσ (by simp only [Rep])⟩)
  · rename_i k e1
    have := ra.bl e1; subst x
    exact call_int1 pins s σ0 H _ us Q I r (.inr ⟨k, rfl, h.here hσ (by simp only [Rep])⟩)
  · rename_i i e1
    have := ra.int e1; subst x
    exact call_abs pins s σ0 H _ us Q I r ⟨i, rfl, h.here hσ (by simp only [Rep])⟩
  · rename_i i e1
    have := ra.int e1; subst x
    split at h
    · rename_i hl
      exact call_str_int pins s σ0 H _ us Q I r ⟨i, rfl, hl, h.here hσ (by simp only [Rep])⟩
    · exact False.elim h
  · split at h
    · rename_i hl
      exact call_repr pl sy pins s σ0 H _ us Q I r ⟨W, σ, a, x, rfl, hσ, ra, hl, h.here hσ (by simp only [Rep])⟩
    · exact False.elim h
  · rename_i ys e1
    split at h
    · rename_i bs hb
      obtain ⟨p, vs, rfl, s1, q⟩ := hσ.lst ra e1
      rw [q.bls hb] at s1
      exact cr_all hc pins s σ0 H _ us Q I r ⟨p, bs, rfl, SqL.of s1, h.here hσ (by simp only [Rep])⟩
    · exact False.elim h
  · rename_i ys e1
    split at h
    · rename_i bs hb
      obtain ⟨p, vs, rfl, s1, q⟩ := hσ.lst ra e1
      rw [q.bls hb] at s1
      exact cr_any hc pins s σ0 H _ us Q I r ⟨p, bs, rfl, SqL.of s1, h.here hσ (by simp only [Rep])⟩
    · exact False.elim h
  · rename_i ys e1
    split at h
    · rename_i bs hb
      obtain ⟨p, vs, rfl, s1, q⟩ := hσ.lst ra e1
      rw [q.ints hb] at s1
      exact cr_sum hc pins s σ0 H _ us Q I r ⟨p, bs, rfl, SqL.of s1, h.here hσ (by simp only [Rep])⟩
    · exact False.elim h
  · rename_i ys e1
    split at h
    · rename_i ss hb
      obtain ⟨p, vs, rfl, s1, q⟩ := hσ.lst ra e1
      rw [q.strs hb] at s1
      exact call_sortedL pins s σ0 H _ us Q I r ⟨p, ss, rfl, SqL.of s1, (h.newL hσ (Reps.ofStrs _)).2⟩
    · split at h
      · rename_i fs hf
        split at h
        · rename_i nd
          obtain ⟨p, vs, rfl, s1, q⟩ := hσ.lst ra e1
          have l1 := q.length
          obtain ⟨l2, hT⟩ := fsts_reps hσ.sub q hf
          have e2 : (fs.zip vs).map (·.2) = vs := List.map_snd_zip (by omega)
          have e3 : (fs.zip vs).map (·.1) = fs := List.map_fst_zip (by omega)
          refine call_sortedT pins s σ0 H _ us Q I r ⟨p, fs.zip vs, rfl, by rw [e2]; exact SqL.of s1, by rw [e3]; exact nd, hT, fun L' p' pm so hp => ?_⟩
          obtain ⟨z1, z2⟩ := sortT_reps (fs := fs) q l2 nd pm so
          exact (h.newL hσ z1).2 p' hp
        · exact False.elim h
      · exact False.elim h
  · rename_i ks ys e1
    split at h
    · rename_i ss hb
      obtain ⟨p, vs, rfl, s1, l, q⟩ := hσ.dic ra e1
      refine call_sortedDk hc pins s σ0 H _ us Q I r ⟨p, _, ss, rfl, s1, ?_, (h.newL hσ (Reps.ofStrs _)).2⟩
      rw [List.map_fst_zip (by omega), strs_keys hb]
    · exact False.elim h
  · rename_i ss e1
    obtain ⟨p, rfl, s1⟩ := hσ.set ra e1
    exact call_sortedS pl pins s σ0 H _ us Q I r ⟨p, ss, rfl, s1, (h.newL hσ (Reps.ofStrs _)).2⟩
  · rename_i ys e1
    split at h
    · rename_i ss hb
      split at h
      · rename_i hl
        obtain ⟨p, vs, rfl, s1, q⟩ := hσ.lst ra e1
        rw [q.strs hb] at s1
        refine call_set pl pins s σ0 H _ us Q I r ⟨p, ss, rfl, SqL.of s1, hl, fun p hp => h _ _ _ (hσ.leAdd hp) (hσ.add hp) ?_⟩
        simp only [Rep]
        exact ⟨p, rfl, upd_same⟩
      · exact False.elim h
    · exact False.elim h
  · rename_i ys e1
    split at h
    · rename_i kvs hb
      obtain ⟨p, vs, rfl, s1, q⟩ := hσ.lst ra e1
      obtain ⟨ps, us', e2, e3, e4⟩ := pairs_reps hσ.sub q hb
      subst e2
      obtain ⟨f1, f2, f3⟩ := (e4.merge (a := []) (b := []) .nil).parts
      refine call_dictP hc pins s σ0 H _ us Q I r ⟨p, ps, us', rfl, SqL.of s1, e3, ?_⟩
      rw [f1]
      exact h.newD hσ f3 f2
    · exact False.elim h
  · rename_i ys e1
    split at h
    · rename_i kvs hb
      obtain ⟨p, vs, rfl, s1, q⟩ := hσ.tupP ra e1
      obtain ⟨ps, us', e2, e3, e4⟩ := pairs_reps hσ.sub q hb
      subst e2
      obtain ⟨f1, f2, f3⟩ := (e4.merge (a := []) (b := []) .nil).parts
      refine call_dictT hc pins s σ0 H _ us Q I r ⟨p, ps, us', rfl, s1, e3, ?_⟩
      rw [f1]
      exact h.newD hσ f3 f2
    · exact False.elim h
  · exact False.elim h
end
end Iv

set_option Elab.async false
set_option linter.all false
set_option maxHeartbeats 2000000
/-! isinstance, methods, stores -/
namespace Iv
open PySem PySem.Spec L2
def Ty.name : Ty → String
  | .str => "str" | .tup => "tuple" | .int => "int" | .bool => "bool" | .list => "list" | .dict => "dict"
def tyN : D → Option String
  | .non => some "NoneType" | .bl _ => some "bool" | .int _ => some "int" | .str _ => some "str" | .tup _ => some "tuple" | .lst _ => some "list" | .ro _ => some "list" | .dic _ _ => some "dict" | _ => none
theorem tyN_kit {d : D} {n : String} (h : tyN d = some n) (t : Ty) : kitB n t.name = some (isTy t d) := by
  cases d <;> simp only [tyN, Option.some.injEq, reduceCtorEq] at h <;> subst h <;> cases t <;> simp only [isTy, Ty.name] <;> decide +kernel
theorem kitAny_tys {K : PySem.W.Frag} {d : D} {n : String} (h : tyN d = some n) : ∀ ts : List Ty, PySem.W.kitAny K (.type n) (ts.map fun t => Value.type t.name) = some (ts.any fun t => isTy t d)
  | [] => rfl
  | t :: ts => by
    refine kitAny_cons (kit_ty (tyN_kit h t)) (fun e => ?_) (fun e => ?_)
    · rw [List.any_cons, e, Bool.false_or]; exact kitAny_tys h ts
    · rw [List.any_cons, e, Bool.true_or]
section
variable {X : Cx} {ea : Exa} {Wx : WX} {st0 : L2.St}
theorem tyX_seqL {K : PySem.W.Frag} {H : Hp} {a : Addr} {vs : List V} (h : SqL K H a vs) : TyX K H (.ref a) (.type "list") := by
  rcases h with (h | ⟨o, h⟩) | ⟨o, _, _, h, c, _⟩
  · exact .base (.lst h)
  · exact .base (.frz h)
  · exact .kList h c
theorem tyX_seqT {K : PySem.W.Frag} {H : Hp} {a : Addr} {vs : List V} (h : SqT K H a vs) : TyX K H (.ref a) (.type "tuple") := by
  rcases h with (h | ⟨o, h⟩) | ⟨o, _, _, h, c, _⟩
  · exact .base (.tup h)
  · exact .fTuple h
  · exact .kTuple h c
theorem ty_of {P : Program} {w : World} {K : PySem.W.Frag} {W : Wd} {σ : Store} {H : Hp} {a : D} {v : V} {n : String} (hσ : Rel P w K W σ H) (r : Rep P w K W a v) (h : tyN (view σ a) = some n) : TyX K H v (.type n) := by
  obtain ⟨e, he⟩ : ∃ e, view σ a = e := ⟨_, rfl⟩
  rw [he] at h
  cases e with
  | non => cases h; have := r.non he; subst this; exact .base .non
  | bl b => cases h; have := r.bl he; subst this; exact .base (.bl b)
  | int b => cases h; have := r.int he; subst this; exact .base (.int b)
  | str b => cases h; have := r.str he; subst this; exact .base (.str b)
  | tup xs => cases h; obtain ⟨p, vs, rfl, s, q⟩ := hσ.tup r he; exact tyX_seqT s
  | lst xs => cases h; obtain ⟨p, vs, rfl, s, q⟩ := hσ.lst r he; exact .base (.lst s)
  | ro xs => cases h; obtain ⟨p, vs, rfl, s, q⟩ := hσ.ro r he; exact tyX_seqL s
  | dic ks xs => cases h; obtain ⟨p, vs, rfl, s, l, q⟩ := hσ.dic r he; exact .base (.dK s)
  | _ => cases h
theorem isiD_ok {ts : List Ty} {x : D} {σ : Store} {Q : VK} {W : Wd} (h : Post X.prog X.w X.K ea Wx st0 W (isiD ts x σ) Q) : ∃ n, tyN (view σ x) = some n ∧ isiD ts x σ = .ok (.bl (ts.any fun t => isTy t (view σ x))) σ := by
  unfold isiD at h ⊢
  cases e : view σ x with
  | set _ => rw [e] at h; exact False.elim h
  | it _ => rw [e] at h; exact False.elim h
  | rod _ _ => rw [e] at h; exact False.elim h
  | gv _ => rw [e] at h; exact False.elim h
  | ref _ => rw [e] at h; exact False.elim h
  | _ => exact ⟨_, rfl, rfl⟩
/-- isinstance(x, T) and isinstance(x, (T1, ..)) -/
theorem call_is1 (t : Ty) : CallR X (.builtin "isinstance") (fun xs H Q => ∃ W σ a x, xs = [x, .ty t.name] ∧ Rel X.prog X.w X.K W σ H ∧ Rep X.prog X.w X.K W a x ∧ Post X.prog X.w X.K ea Wx st0 W (isiD [t] a σ) Q) := by
  intro pins s σ0 H xs us Q I r h
  obtain ⟨W, σ, a, x, rfl, hσ, ra, h⟩ := h
  obtain ⟨n, hn, e⟩ := isiD_ok h
  rw [e] at h
  refine call_isi pins s σ0 H _ us Q I r ⟨x, _, _, _, _, rfl, .ty _, ty_of hσ ra hn, kit_ty (tyN_kit hn t), ?_⟩
  have := h.here hσ (v := .bl (isTy t (view σ a))) (by simp only [Rep, List.any_cons, List.any_nil, Bool.or_false])
  exact this
theorem cls_pair : ∀ ts : List Ty, Paired ClsV (ts.map fun t => V.ty t.name) (ts.map fun t => Value.type t.name)
  | [] => .nil
  | t :: ts => .cons (.ty _) (cls_pair ts)
theorem call_isN (ts : List Ty) : CallR X (.builtin "isinstance") (fun xs H Q => ∃ W σ a x tp, xs = [x, .ref tp] ∧ H tp = some (.tup (ts.map fun t => V.ty t.name)) ∧ Rel X.prog X.w X.K W σ H ∧ Rep X.prog X.w X.K W a x ∧ Post X.prog X.w X.K ea Wx st0 W (isiD ts a σ) Q) := by
  intro pins s σ0 H xs us Q I r h
  obtain ⟨W, σ, a, x, tp, rfl, hT, hσ, ra, h⟩ := h
  obtain ⟨n, hn, e⟩ := isiD_ok h
  rw [e] at h
  refine call_isiT pins s σ0 H _ us Q I r ⟨x, tp, _, _, _, _, rfl, hT, cls_pair ts, ty_of hσ ra hn, kitAny_tys hn ts, h.here hσ (by simp only [Rep])⟩
/-! methods -/
def Me.id : Me → String
  | .append => "list.append" | .pop => "list.pop" | .extend => "list.extend" | .get => "dict.get" | .join => "str.join" | .split => "str.split"
def Me.T : Me → String
  | .append => "list" | .pop => "list" | .extend => "list" | .get => "dict" | .join => "str" | .split => "str"
def Me.name : Me → Str
  | .append => "append" | .pop => "pop" | .extend => "extend" | .get => "get" | .join => "join" | .split => "split"
def rMe (X : Cx) (ea : Exa) (Wx : WX) (st0 : L2.St) (m : Me) : V → List V → Hp → VK → Prop := fun x xs H Q => ∃ W σ o ds, Rel X.prog X.w X.K W σ H ∧ Rep X.prog X.w X.K W o x ∧ Reps X.prog X.w X.K W ds xs ∧ Post X.prog X.w X.K ea Wx st0 W (meD m o ds σ) Q
theorem one_reps {P : Program} {w : World} {K : PySem.W.Frag} {W : Wd} {d : D} {xs : List V} (r : Reps P w K W [d] xs) : ∃ x, xs = [x] ∧ Rep P w K W d x := by
  match xs, r with
  | [], r => have := r.length; simp at this
  | _ :: _ :: _, r => have := r.length; simp at this
  | [x], r => exact ⟨x, rfl, (Reps.cons_iff.mp r).1⟩
theorem two_reps {P : Program} {w : World} {K : PySem.W.Frag} {W : Wd} {d e : D} {xs : List V} (r : Reps P w K W [d, e] xs) : ∃ x y, xs = [x, y] ∧ Rep P w K W d x ∧ Rep P w K W e y := by
  match xs, r with
  | [], r => have := r.length; simp at this
  | [_], r => have := r.length; simp at this
  | _ :: _ :: _ :: _, r => have := r.length; simp at this
  | [x, y], r => exact ⟨x, y, rfl, (Reps.cons_iff.mp r).1, (Reps.cons_iff.mp (Reps.cons_iff.mp r).2).1⟩
theorem zero_reps {P : Program} {w : World} {K : PySem.W.Frag} {W : Wd} {xs : List V} (r : Reps P w K W [] xs) : xs = [] := Reps.nil_iff.mp r
theorem get_value {P : Program} {w : World} {K : PySem.W.Frag} {W : Wd} {k : Key} {ks : List Key} {xs : List D} {vs : List V} {d : D} {v : V} (l : ks.length = vs.length) (r : Reps P w K W xs vs) (rd : Rep P w K W d v) : Rep P w K W ((look ks xs k).getD d) ((valV (ks.zip vs) k).getD v) := by
  rcases look_zip k l r with ⟨h1, h2⟩ | ⟨d', v', h1, h2, h3⟩
  · rw [h1, h2]; exact rd
  · rw [h1, h2]; exact h3
theorem pop_ix {i : Int} {n : Nat} (h : 0 ≤ i) (hl : i.toNat < n) : seqIndex? i n = some i.toNat := by
  have e1 : ¬ i < 0 := by omega
  have e2 : i < (n : Int) := by omega
  unfold seqIndex?
  simp [e1, e2, h]
theorem mt_all (pl : Pl X) (m : Me) : MtR X m.id (rMe X ea Wx st0 m) := by
  intro pins s σ0 H x xs v us Q I rx rxs h
  obtain ⟨W, σ, o, ds, hσ, ro, rs, h⟩ := h
  have hu : X.A.units + 1 < cLine := by have := pl.units; omega
  unfold meD at h
  split at h
  · -- append
    rename_i n d
    obtain ⟨y, rfl, rd⟩ := one_reps rs
    simp only [Rep] at ro
    obtain ⟨_, rfl⟩ := ro
    split at h
    · rename_i zs hz
      split at h
      · rename_i hl
        obtain ⟨vs, hv, q⟩ := hσ.cell n _ hz
        refine mt_append pins s σ0 H _ _ v us Q I rx rxs ⟨W.μ n, vs, y, rfl, rfl, hv, by rw [← lim_eq, ← q.length]; exact hl, h W _ _ (Le.refl W) (hσ.put hz (by simp) ⟨_, upd_same, q.append (Reps.one rd)⟩ (by simp)) (by simp only [Rep])⟩
      · exact False.elim h
    · exact False.elim h
  · rename_i n
    have := zero_reps rs; subst this
    simp only [Rep] at ro
    obtain ⟨_, rfl⟩ := ro
    split at h
    · rename_i zs hz
      split at h
      · rename_i d hd
        obtain ⟨vs, hv, q⟩ := hσ.cell n _ hz
        obtain ⟨y, hy, ry⟩ := q.get hd
        rw [q.length] at hy
        exact mt_pop pins s σ0 H _ _ v us Q I rx rxs ⟨W.μ n, vs, y, rfl, rfl, hv, hy, h W _ _ (Le.refl W) (hσ.put hz (by simp) ⟨_, upd_same, q.dropLast⟩ (by simp)) ry⟩
      · exact False.elim h
    · exact False.elim h
  · rename_i n i
    obtain ⟨y, rfl, rd⟩ := one_reps rs
    simp only [Rep] at ro rd
    obtain ⟨_, rfl⟩ := ro
    subst rd
    split at h
    · rename_i zs hz
      split at h
      · rename_i hi
        split at h
        · rename_i d hd
          obtain ⟨vs, hv, q⟩ := hσ.cell n _ hz
          obtain ⟨y, hy, ry⟩ := q.get hd
          have hlt := (List.getElem?_eq_some_iff.mp hy).1
          exact mt_popAt pins s σ0 H _ _ v us Q I rx rxs ⟨W.μ n, vs, i, i.toNat, y, rfl, rfl, hv, by omega, by omega, pop_ix hi.1 hlt, hy, h W _ _ (Le.refl W) (hσ.put hz (by simp) ⟨_, upd_same, q.eraseIdx i.toNat⟩ (by simp)) ry⟩
        · exact False.elim h
      · exact False.elim h
    · exact False.elim h
  · rename_i x y
    obtain ⟨u, rfl, rd⟩ := one_reps rs
    simp only [Rep] at ro rd
    subst ro rd
    split at h
    · rename_i hl
      exact mt_split pins s σ0 H _ _ v us Q I rx rxs ⟨x, y, rfl, rfl, by simpa using hl.1, by rw [← lim_eq]; exact hl.2, (h.newL hσ (Reps.ofStrs _)).2⟩
    · exact False.elim h
  · rename_i n d
    obtain ⟨y, rfl, rd⟩ := one_reps rs
    simp only [Rep] at ro
    obtain ⟨_, rfl⟩ := ro
    split at h
    · rename_i zs ys hz hy
      split at h
      · rename_i hl
        obtain ⟨vs, hv, q⟩ := hσ.cell n _ hz
        obtain ⟨p, us', rfl, hp, q2⟩ := hσ.lst rd hy
        exact mt_extend pins s σ0 H _ _ v us Q I rx rxs ⟨W.μ n, p, vs, us', rfl, rfl, hv, hp, by rw [← lim_eq, ← q.length, ← q2.length]; exact hl, h W _ _ (Le.refl W) (hσ.put hz (by simp) ⟨_, upd_same, q.append q2⟩ (by simp)) (by simp only [Rep])⟩
      · exact False.elim h
    · exact False.elim h
  · rename_i k
    obtain ⟨y, rfl, rd⟩ := one_reps rs
    split at h
    · rename_i ks zs key e1 e2
      obtain ⟨p, vs, rfl, s1, l, q⟩ := hσ.dic ro e1
      have := Rep.key rd e2; subst this
      cases rx
      obtain ⟨u, rfl, ru⟩ := vals1 rxs
      exact d_get1 hu I (DGet.k s1) ru fun w' s' I' rw' => ⟨_, H, I', rw', h.here hσ (get_value l q (by simp only [Rep]))⟩
    · rename_i ks zs key e1 e2
      obtain ⟨p, vs, rfl, R, l, q⟩ := Rel.rod ro e1
      have := Rep.key rd e2; subst this
      cases rx
      obtain ⟨u, rfl, ru⟩ := vals1 rxs
      obtain ⟨t, rfl⟩ := ru
      obtain ⟨es, n, kd⟩ := R.at_
      obtain ⟨q1, g1, g2⟩ := R.get l q key
      have hm := PySem.W.mapOf_K (prog := X.prog) (w := X.w) I.kIn kd.at_ kd.lit
      refine call_meetsIn PySem.F.slot_dict_get hm.typeIs PySem.F.entry_dict_get (PySem.F.args_dict_get_2 _ _) (PySem.meets_dict_get (PySem.strKind X.prog X.w) p (PySem.strKind_is X.prog X.w key t) kd.low) ⟨_, hm, ?_⟩
      rw [PySem.W.find_K kd.at_ g1]
      rcases g2 with ⟨a1, rfl⟩ | ⟨d, v, u, a1, rfl, ru, rd2⟩
      · rw [a1] at h
        exact ⟨.non, H, I.tok _, rfl, h.here hσ (by simp only [Rep, Option.getD_none])⟩
      · rw [a1] at h
        exact ⟨v, H, I.tok _, ru, h.here hσ rd2⟩
    · exact False.elim h
  · rename_i k d
    obtain ⟨y, z, rfl, rd, rz⟩ := two_reps rs
    split at h
    · rename_i ks zs key e1 e2
      obtain ⟨p, vs, rfl, s1, l, q⟩ := hσ.dic ro e1
      have := Rep.key rd e2; subst this
      cases rx
      obtain ⟨u, u2, rfl, ru, ru2⟩ := vals2 rxs
      exact d_get2 hu I (DGet.k s1) ru ru2 fun w' s' I' rw' => ⟨_, H, I', rw', h.here hσ (get_value l q rz)⟩
    · exact False.elim h
  · rename_i z d
    obtain ⟨y, rfl, rd⟩ := one_reps rs
    simp only [Rep] at ro
    subst x
    split at h
    · rename_i ys e1
      split at h
      · rename_i ss hs
        split at h
        · rename_i hl
          obtain ⟨p, vs, rfl, s1, q⟩ := hσ.lst rd e1
          rw [q.strs hs] at s1
          exact mt_join pins s σ0 H _ _ v us Q I rx rxs ⟨z, p, ss, rfl, rfl, .inl (SqL.of s1), hl, h.here hσ (by simp only [Rep])⟩
        · exact False.elim h
      · exact False.elim h
    · exact False.elim h
  · exact False.elim h
/-- as tyV, dicts of the top too -/
def tyV2 (K : PySem.W.Frag) (T : String) (x : V) (H : Hp) : Prop := tyV K T x H ∨ (T = "dict" ∧ ∃ (a : Addr) (es : Array DictEntry) (n : Nat), x = .ref a ∧ K.lookup a = some ⟨.type "dict", none, .dict es n, #[]⟩)
theorem tyV2_is {pins : List (Addr × Obj)} {σ : L2.St} {H : Hp} {s : Shared} {T : String} {x : V} {v : Value} (I : Inv X pins σ H s) (r : RelV x v) (ty : tyV2 X.K T x H) :
    s.TypeIs v T ∧ ∀ a, v = .ref a → ∃ ob, s.heap.get? a = some ob ∧ ob.dict = none := by
  rcases ty with ty | ⟨rfl, a, es, n, rfl, hk⟩
  · exact tyV_is I r ty
  · cases r
    refine ⟨⟨_, I.kIn a _ hk, rfl⟩, fun b e => ?_⟩
    cases e
    exact ⟨_, I.kIn a _ hk, rfl⟩
def tBM02 (K : PySem.W.Frag) (T : String) (r : V → List V → Hp → VK → Prop) (to : TE) : TE := fun σ H Q => to σ H fun x H1 => tyV2 K T x H1 ∧ r x [] H1 Q
def tBM2 (K : PySem.W.Frag) (T : String) (r : V → List V → Hp → VK → Prop) (to : TE) (t : TA) : TE := fun σ H Q => to σ H fun x H1 => tyV2 K T x H1 ∧ t σ H1 fun xs H2 => r x xs H2 Q
section
variable {o e : Expr} {es : List Expr} {to : TE} {t : TA} {name : Str} {apos cpos : Pos} {T id : String} {r : V → List V → Hp → VK → Prop}
theorem pe_bm02 (pa : PlainAttrs T) (slot : Slot T name id) (hty : typeOf (.builtin id) = pure (.type "method_descriptor")) (hm : MtR X id r) (ho : PE X o to)
    (hbase : attributeBase o name X.env (eval o X.env) = eval o X.env := by rfl) (hline : (apos.endLine == cpos.line) = true := by rfl) : PE X (.Call (.Attribute o name apos) [] [] cpos) (tBM02 X.K T r to) := by
  refine ⟨fun pins s σ H Q I h => ?_⟩
  refine wpAny_Call_method0_late hbase hline (thn (ho.run pins s σ H _ I h) fun v s1 ⟨x, H1, I1, r1, ty, q1⟩ => ?_)
  obtain ⟨h1, h2⟩ := tyV2_is I1 r1 ty
  exact ⟨T, id, pa, slot, hty, h1, h2, Calls.callWith_builtin rfl (PySem.evalArgs_none (hm pins s1 σ H1 x [] v [] Q I1 r1 .nil q1))⟩
theorem pe_bm2 (pa : PlainAttrs T) (slot : Slot T name id) (hty : typeOf (.builtin id) = pure (.type "method_descriptor")) (hm : MtR X id r) (ho : PE X o to) (ha : PA X (e :: es) t)
    (hbase : attributeBase o name X.env (eval o X.env) = eval o X.env := by rfl)
    (hfew : ((backTo cpos (starEach (e :: es) X.env)).all (fun x => !x.1) && (backToKw cpos (keywordEach [] X.env)).all (fun x => x.1.isSome)
      && decide ((e :: es).length + ([] : List Keyword).length + (if ([] : List Keyword).isEmpty then 0 else 1) < 30)) = true := by rfl)
    (hline : (apos.endLine == cpos.line) = true := by rfl) (hs : starEach (e :: es) X.env = (false, eval e X.env) :: starEach es X.env := by rfl) (hplain : (backTo cpos (starEach es X.env)).any (·.1) = false := by rfl) :
    PE X (.Call (.Attribute o name apos) (e :: es) [] cpos) (tBM2 X.K T r to t) := by
  refine ⟨fun pins s σ H Q I h => ?_⟩
  refine wpAny_Call_method_late hbase hfew hline rfl (thn (ho.run pins s σ H _ I h) fun v s1 ⟨x, H1, I1, r1, ty, q1⟩ => ?_)
  obtain ⟨h1, h2⟩ := tyV2_is I1 r1 ty
  refine ⟨T, id, pa, slot, hty, h1, h2, ?_⟩
  have hA := ha.run cpos pins s1 σ H1 _ I1 q1
  rw [hs] at hA ⊢
  refine Calls.callWith_builtin (by show (false || (backTo cpos (starEach es X.env)).any (·.1)) = false; rw [hplain] <;> rfl) (Calls.evalArgs_plain ?_)
  exact thn hA fun us s2 ⟨vs, H2, I2, r2, q2⟩ => hm pins s2 σ H2 x vs v us Q I2 r1 r2 q2
end
theorem meOk_ty {P : Program} {w : World} {K : PySem.W.Frag} {W : Wd} {σ : Store} {H : Hp} {a : D} {v : V} {m : Me} (hσ : Rel P w K W σ H) (r : Rep P w K W a v) (h : meOk m (view σ a) = true) : tyV2 K m.T v H := by
  obtain ⟨e, he⟩ : ∃ e, view σ a = e := ⟨_, rfl⟩
  rw [he] at h
  cases e with
  | lst xs =>
    cases m <;> simp only [meOk, Bool.false_eq_true] at h
    all_goals (obtain ⟨p, vs, rfl, s, q⟩ := hσ.lst r he; exact .inl (.inl ⟨rfl, vs, SqL.of s⟩))
  | dic ks xs =>
    cases m <;> simp only [meOk, Bool.false_eq_true] at h
    all_goals (obtain ⟨p, vs, rfl, s, l, q⟩ := hσ.dic r he; exact .inl (.inr (.inr (.inl ⟨rfl, .inl ⟨_, s⟩⟩))))
  | rod ks xs =>
    cases m <;> simp only [meOk, Bool.false_eq_true] at h
    all_goals (obtain ⟨p, vs, hv, R, l, q⟩ := Rel.rod r he; obtain ⟨es, n, kd⟩ := R.at_; exact .inr ⟨rfl, p, es, n, hv, kd.at_⟩)
  | str x =>
    cases m <;> simp only [meOk, Bool.false_eq_true] at h
    all_goals (have := r.str he; subst this; exact .inl rfl)
  | _ => cases m <;> simp only [meOk, Bool.false_eq_true] at h
/-! stores -/
def rPut (X : Cx) : V → V → V → Hp → (Hp → Prop) → Prop := fun o i v H Q => ∃ W σ a k d, Rel X.prog X.w X.K W σ H ∧ Rep X.prog X.w X.K W a o ∧ Rep X.prog X.w X.K W k i ∧ Rep X.prog X.w X.K W d v ∧
  ∃ σ', putAt a k d σ = some σ' ∧ ∀ H', Rel X.prog X.w X.K W σ' H' → Q H'
theorem put_all (pl : Pl X) : PSet X (rPut X) := by
  intro pins s σ0 H o i v ov iv u Q I ro ri rv h
  obtain ⟨W, σ, a, k, d, hσ, ra, rk, rd, σ', e, h⟩ := h
  have hu : X.A.units + 1 < cLine := by have := pl.units; omega
  unfold putAt at e
  split at e
  · rename_i n
    simp only [Rep] at ra
    obtain ⟨_, rfl⟩ := ra
    split at e
    · rename_i xs hz
      split at e
      · rename_i ix
        simp only [Rep] at rk
        subst i
        split at e
        · rename_i j hj
          cases e
          obtain ⟨vs, hv, q⟩ := hσ.cell n _ hz
          exact set_list pins s σ0 H _ _ v ov iv u Q I ro ri rv ⟨W.μ n, vs, ix, j, rfl, rfl, hv, by rw [← q.length]; exact hj, h _ (hσ.put hz (by simp) ⟨_, upd_same, q.set rd j⟩ (by simp))⟩
        · cases e
      · cases e
    · rename_i ks xs hz
      split at e
      · rename_i key hk
        split at e
        · rename_i hl
          cases e
          obtain ⟨vs, hv, l, q⟩ := hσ.cell n _ hz
          have := Rep.key rk hk; subst this
          cases ro
          have hkr := (KR.zip l q).put (k := key) rd
          obtain ⟨f1, f2, f3⟩ := hkr.parts
          refine d_setItem hu I (DPut.k hv (by rw [List.length_zip, ← lim_eq]; omega)) ri rv fun s' I' => ⟨_, I', h _ (hσ.put hz (by simp) ⟨_, ?_, f2, f3⟩ (by simp))⟩
          rw [upd_same, ← f1]
        · cases e
      · cases e
    · cases e
  · cases e
end
end Iv

set_option Elab.async false
set_option linter.all false
/-! the text against the mini-AST -/
namespace Iv
open PySem PySem.Spec L2
/-- how a def may be called: so many positional arguments, these keywords, these defaults behind them, in this order -/
structure Shp where
  np : Nat
  ks : List Str
  ds : List D
  pm : List Nat
/-- further facts of classes -/
inductive Fc where
  /-- the method m of the class c, bound -/
  | bm (c m : Str)
  deriving DecidableEq
def fcB (K : PySem.W.Frag) : Fc → Bool
  | .bm c m => He.eqO (PySem.W.findIn K (.ref (He.ga K c)) m) (some (some (.ref (He.ma K (He.ga K c) m)))) && (He.eqO (PySem.W.specialIn K (.ref (He.ma K (He.ga K c) m)) "__get__") (some (some (.builtin "function.__get__"))) &&
    (decide (PySem.W.takesIn K (.ref (He.ma K (He.ga K c) m)) = some false) && (!PySem.W.copiedNames.contains m && PySem.W.fnIn K (He.ma K (He.ga K c) m))))
/-- the global names: defs (with their number), data -/
structure Sg where
  fns : List (Str × Nat × List Shp)
  glo : List (Str × D)
  /-- methods of own classes: (class, name), the def's number -/
  mes : List ((Str × Str) × Nat × List Shp)
  /-- own classes of which instances are made -/
  mks : List Str
  /-- attributes that are stored -/
  flds : List (Str × Str)
  fcs : List Fc
def visC (sc : Scope) (x : Str) : Bool := match sc.names.lookup x with
  | some .local => true
  | some .cell => true
  | some .free => true
  | _ => false
def locC (sc : Scope) (x : Str) : Bool := match sc.names.lookup x with
  | some .local => true
  | some .cell => true
  | _ => false
def gloC (sc : Scope) (x : Str) : Bool := match sc.names.lookup x with
  | some .globalImplicit => true
  | _ => false
def nameOk (x : Str) : Bool := !(x == ("__debug__" : Str)) && !(x == ("__classdict__" : Str))
def Bi.name : Bi → Str
  | .len => "len" | .list => "list" | .tuple => "tuple" | .int => "int" | .str => "str" | .repr => "repr" | .all => "all" | .any => "any" | .sum => "sum" | .sorted => "sorted" | .set => "set" | .dict => "dict" | .abs => "abs"
/-- the built-in names that a text may use -/
def bltNames : List Str := ["len", "list", "tuple", "int", "str", "repr", "all", "any", "sum", "sorted", "set", "dict", "isinstance", "range", "bool", "zip", "abs", "enumerate"]
def Ty.nm : Ty → Str
  | .str => "str" | .tup => "tuple" | .int => "int" | .bool => "bool" | .list => "list" | .dict => "dict"
/-- no slice, no star -/
def plainIx : Expr → Bool
  | .Slice .. => false
  | _ => true
def noStar : List Expr → Bool
  | [] => true
  | .Starred _ _ :: _ => false
  | _ :: r => noStar r
def ownP (N : List Str) (own : List Nat) : List (Str × Nat) := own.map fun i => (N.getD i "", i)
def baseOk : Expr → Bool
  | .Call (.Name x _) [] [] _ => !(x == ("super" : Str))
  | _ => true
def tyNames (sc : Scope) : List Expr → List Ty → Bool
  | [], [] => true
  | .Name x _ :: es, t :: ts => decide (x = t.nm) && gloC sc x && tyNames sc es ts
  | _, _ => false
def tgIn (own : List Nat) : Tg → Bool
  | .nm i => decide (i ∈ own)
  | .tup is => is.all fun i => decide (i ∈ own)
def chkTs (N : List Str) (sc : Scope) : List Expr → List Nat → Bool
  | [], [] => true
  | .Name x _ :: es, i :: is => decide (N[i]? = some x) && locC sc x && chkTs N sc es is
  | _, _ => false
/-- targets: a name; a tuple of names -/
def chkT (N : List Str) (sc : Scope) : Expr → Tg → Bool
  | .Name x _, .nm i => decide (N[i]? = some x) && locC sc x
  | .Tuple es _ _, .tup is => chkTs N sc es is
  | _, _ => false
def isMinus1 : Option Expr → Bool
  | some (.UnaryOp .USub (.Constant (.int 1) _ _) _) => true
  | _ => false
section
variable (g : Sg) (N : List Str)
mutual
def chkE : Nat → Scope → Expr → Ex → Bool
  | 0, _, _, _ => false
  | _ + 1, sc, .Name x _, .loc i => decide (N[i]? = some x) && visC sc x && nameOk x
  | _ + 1, sc, .Name x _, .glo _ d => gloC sc x && nameOk x && (match g.glo.lookup x with
    | some e => D.same e d
    | none => false)
  | _ + 1, _, .Constant .none _ _, .non => true
  | _ + 1, _, .Constant (.bool b) _ _, .bl c => b == c
  | _ + 1, _, .Constant (.int b) _ _, .int c => decide (b = c)
  | _ + 1, _, .Constant (.str b) _ _, .str c => decide (b = c)
  | n + 1, sc, .BinOp a op b _, .bin o a' b' => decide (op = o.py) && chkE n sc a a' && chkE n sc b b'
  | n + 1, sc, .UnaryOp .USub a _, .neg a' => chkE n sc a a'
  | n + 1, sc, .UnaryOp .Not a _, .not a' => chkE n sc a a'
  | n + 1, sc, .Compare a [op] [b] _, .cmp o a' b' => decide (op = o.py) && !behindInMarks op b && chkE n sc a a' && chkE n sc b b'
  | n + 1, sc, .Compare a [op, op2] [b, c] _, .chain o o2 a' b' c' => decide (op = o.py) && decide (op2 = o2.py) && !lastMarks [op, op2] [b, c] && chkE n sc a a' && chkE n sc b b' && chkE n sc c c'
  | n + 1, sc, .BoolOp .And (a :: b :: r) p, .and a' b' => chkE n sc a a' && chkE n sc (.BoolOp .And (b :: r) p) b'
  | n + 1, sc, .BoolOp .Or (a :: b :: r) p, .or a' b' => chkE n sc a a' && chkE n sc (.BoolOp .Or (b :: r) p) b'
  | n + 1, sc, .BoolOp _ [a] _, e => chkE n sc a e
  | n + 1, sc, .IfExp c a b _, .ite c' a' b' => chkE n sc c c' && chkE n sc a a' && chkE n sc b b'
  | n + 1, sc, .Tuple es _ _, .tup es' => chkA n sc es es'
  | n + 1, sc, .List es _, .lst _ es' => chkA n sc es es'
  | n + 1, sc, .Dict ks vs _, .dic _ kvs => chkD n sc ks vs kvs && decide (ks.length ≤ 15)
  | n + 1, sc, .Subscript a (.Slice lo hi none _) _, .slice _ a' lo' hi' => chkE n sc a a' && chkO n sc lo lo' && chkO n sc hi hi'
  | n + 1, sc, .Subscript a (.Slice none none st _) _, .rev _ a' => isMinus1 st && chkE n sc a a'
  | n + 1, sc, .Subscript a i _, .idx a' i' => plainIx i && chkE n sc a a' && chkE n sc i i'
  | n + 1, sc, .Call (.Name x _) es ks _, .call f es' ks' dv pm => gloC sc x && nameOk x && noStar es && chkA n sc es es' && chkK n sc ks ks' && (match g.fns.lookup x with
    | some (i, shs) => decide (f = i) && shs.any fun sh => decide (sh.np = es.length) && decide (ks.map (·.arg) = sh.ks.map some) && D.sames sh.ds dv && decide (sh.pm = pm)
    | none => false)
  | n + 1, sc, .Call (.Name x _) es ks _, .mk c f es' ks' dv pm => gloC sc x && nameOk x && noStar es && chkA n sc es es' && chkK n sc ks ks' && decide (x = c) && g.mks.contains c && (match g.mes.lookup (c, ("__init__" : Str)) with
    | some (i, shs) => decide (f = i) && shs.any fun sh => decide (sh.np = es.length + 1) && decide (ks.map (·.arg) = sh.ks.map some) && D.sames sh.ds dv && decide (sh.pm = pm)
    | none => false)
  | n + 1, sc, .Call (.Attribute o m apos) es ks pos, .mcall c m' f o' es' ks' dv pm => decide (m = m') && baseOk o && (apos.endLine == pos.line) && decide (es.length + ks.length < 29) && noStar es && chkE n sc o o' && chkA n sc es es' && chkK n sc ks ks' && (match g.mes.lookup (c, m) with
    | some (i, shs) => decide (f = i) && shs.any fun sh => decide (sh.np = es.length + 1) && decide (ks.map (·.arg) = sh.ks.map some) && D.sames sh.ds dv && decide (sh.pm = pm)
    | none => false)
  | n + 1, sc, .Attribute o x _, .fld o' y => decide (x = y) && baseOk o && chkE n sc o o'
  | n + 1, sc, .Call (.Name x _) [e] [] _, .bi b _ e' => decide (x = b.name) && gloC sc x && noStar [e] && chkE n sc e e'
  | n + 1, sc, .Call (.Name x _) [e, .Name y _] [] _, .isi e' [t] => decide (x = ("isinstance" : Str)) && gloC sc x && noStar [e] && decide (y = t.nm) && gloC sc y && chkE n sc e e'
  | n + 1, sc, .Call (.Name x _) [e, .Tuple ts _ _] [] _, .isi e' tys => decide (x = ("isinstance" : Str)) && gloC sc x && noStar [e] && tyNames sc ts tys && decide (tys.length ≤ 100) && chkE n sc e e'
  | n + 1, sc, .Call (.Attribute o m apos) es [] pos, .me m' o' es' => decide (m = m'.name) && baseOk o && (apos.endLine == pos.line) && noStar es && decide (es.length < 30) && chkE n sc o o' && chkA n sc es es'
  | n + 1, sc, .ListComp elt [⟨tg, iter, ifs, 0⟩] scope _, .comp _ own t k its c elt' => blkC N sc scope (ownP N own) && chkI n sc tg iter k its && chkT N scope tg t && tgIn own t && chkIf n (relS scope sc) ifs c && chkE n (relS scope sc) elt elt'
  | n + 1, sc, .DictComp kx vx [⟨tg, iter, ifs, 0⟩] scope _, .dcomp _ own t k its c kx' vx' => blkC N sc scope (ownP N own) && chkI n sc tg iter k its && chkT N scope tg t && tgIn own t && chkIf n (relS scope sc) ifs c && chkE n (relS scope sc) kx kx' && chkE n (relS scope sc) vx vx'
  | n + 1, sc, .Call (.Attribute o m apos) [.Starred e _] [] pos, .mcallS c m' f np o' e' => decide (m = m') && baseOk o && chkE n sc o o' && chkE n sc e e' && g.fcs.contains (.bm c m) && (match g.mes.lookup (c, m) with
    | some (i, shs) => decide (f = i) && shs.any fun sh => decide (sh.np = np) && decide (sh.ks = []) && decide (sh.ds.length = 0) && decide (sh.pm = List.range sh.np)
    | none => false)
  | n + 1, sc, .Call (.Name x _) [.Call (.Name y _) [a] [] _] [] _, .rgs tp _ [a'] => decide (x = if tp then ("tuple" : Str) else "list") && decide (y = ("range" : Str)) && gloC sc x && gloC sc y && noStar [a] && !a'.isStar && chkE n sc a a'
  | n + 1, sc, .Call (.Name x _) [.Call (.Name y _) [a, b] [] _] [] _, .rgs tp _ [a', b'] => decide (x = if tp then ("tuple" : Str) else "list") && decide (y = ("range" : Str)) && gloC sc x && gloC sc y && noStar [a, b] && !a'.isStar && !b'.isStar && chkE n sc a a' && chkE n sc b b'
  | n + 1, sc, .JoinedStr (a :: b :: r) _, .fstr es' => chkJ n sc (a :: b :: r) es'
  | _ + 1, _, _, _ => false
/-- the parts of an f-string -/
def chkJ : Nat → Scope → List Expr → List Ex → Bool
  | 0, _, _, _ => false
  | _ + 1, _, [], [] => true
  | n + 1, sc, .Constant (.str x) _ _ :: es, .str y :: es' => decide (x = y) && chkJ n sc es es'
  | n + 1, sc, .FormattedValue e (-1) none _ :: es, e' :: es' => !e'.isStar && chkE n sc e e' && chkJ n sc es es'
  | _ + 1, _, _, _ => false
def chkO : Nat → Scope → Option Expr → Ex → Bool
  | 0, _, _, _ => false
  | _ + 1, _, none, .nop => true
  | n + 1, sc, some e, e' => chkE n sc e e'
  | _ + 1, _, _, _ => false
def chkIf : Nat → Scope → List Expr → Ex → Bool
  | 0, _, _, _ => false
  | _ + 1, _, [], .bl true => true
  | n + 1, sc, [e], e' => chkE n sc e e'
  | _ + 1, _, _, _ => false
def chkA : Nat → Scope → List Expr → List Ex → Bool
  | 0, _, _, _ => false
  | _ + 1, _, [], [] => true
  | n + 1, sc, .Starred e _ :: es, .star e' :: es' => chkE n sc e e' && chkA n sc es es'
  | n + 1, sc, e :: es, e' :: es' => noStar [e] && !e'.isStar && chkE n sc e e' && chkA n sc es es'
  | _ + 1, _, _, _ => false
def chkK : Nat → Scope → List Keyword → List Ex → Bool
  | 0, _, _, _ => false
  | _ + 1, _, [], [] => true
  | n + 1, sc, k :: ks, e' :: es' => !e'.isStar && chkE n sc k.value e' && chkK n sc ks es'
  | _ + 1, _, _, _ => false
def chkD : Nat → Scope → List (Option Expr) → List Expr → List Ex → Bool
  | 0, _, _, _, _ => false
  | _ + 1, _, [], [], [] => true
  | n + 1, sc, some k :: ks, v :: vs, k' :: v' :: r => !k'.isStar && !v'.isStar && chkE n sc k k' && chkE n sc v v' && chkD n sc ks vs r
  | _ + 1, _, _, _, _ => false
def chkI : Nat → Scope → Expr → Expr → IK → List Ex → Bool
  | 0, _, _, _, _, _ => false
  | n + 1, sc, _, .Call (.Name x _) [a] [] _, .rng, [a'] => decide (x = ("range" : Str)) && gloC sc x && noStar [a] && !a'.isStar && chkE n sc a a'
  | n + 1, sc, _, .Call (.Name x _) [a, b] [] _, .rng2, [a', b'] => decide (x = ("range" : Str)) && gloC sc x && noStar [a, b] && !a'.isStar && !b'.isStar && chkE n sc a a' && chkE n sc b b'
  | n + 1, sc, .Tuple _ _ _, .Call (.Name x _) [a, b] [] _, .zip, [a', b'] => decide (x = ("zip" : Str)) && gloC sc x && noStar [a, b] && !a'.isStar && !b'.isStar && chkE n sc a a' && chkE n sc b b'
  | n + 1, sc, .Tuple _ _ _, .Call (.Name x _) [a] [] _, .enu, [a'] => decide (x = ("enumerate" : Str)) && gloC sc x && noStar [a] && !a'.isStar && chkE n sc a a'
  | n + 1, sc, _, e, .on, [e'] => !e'.isStar && (match e with
    | .Set .. => false
    | _ => true) && chkE n sc e e'
  | _ + 1, _, _, _, _, _ => false
end
end
end Iv

set_option Elab.async false
set_option linter.all false
set_option maxHeartbeats 2000000
/-! adequacy, the parts -/
namespace Iv
open PySem PySem.Spec L2

/-! ### defs -/
/-- room for n frames more -/
structure RoomI (n : Nat) (A : Around) : Prop where
  hd : A.handled = none
  dp : A.depth + n + 5 < recursionLimit
  un : A.units + 8 * n + 200 < cLine
theorem RoomI.of {k : Nat} {A : Around} (r : Room k A) : RoomI (2 * k) A := ⟨r.hd, by have := r.dp; omega, by have := r.un; omega⟩
theorem RoomI.mono {j k : Nat} {A : Around} (r : RoomI k A) (h : j ≤ k) : RoomI j A := ⟨r.hd, by have := r.dp; omega, by have := r.un; omega⟩
theorem RoomI.deeper {k : Nat} {A : Around} (r : RoomI (k + 1) A) (env : PySem.Env) : RoomI k (A.deeper env) :=
  ⟨r.hd, by have := r.dp; show A.depth + 1 + k + 5 < _; omega, by have := r.un; show A.units + 3 + 8 * k + 200 < _; omega⟩
theorem RoomI.make {k : Nat} {A : Around} (r : RoomI (k + 1) A) (C : Addr) (us : List Value) (kw : List (Str × Value)) : RoomI k (A.under (.builtin "type.__call__" ⟨.ref C :: us, kw⟩)) :=
  ⟨r.hd, by have := r.dp; rw [make_depth]; omega, by have := r.un; rw [make_units]; omega⟩
theorem RoomI.depth {k : Nat} {A : Around} (r : RoomI k A) : A.depth < recursionLimit := by have := r.dp; omega
theorem make_guards {A : Around} {C : Addr} {us : List Value} {kw : List (Str × Value)} : (A.under (.builtin "type.__call__" ⟨.ref C :: us, kw⟩)).guards = A.guards := by
  first | rfl | simp [Around.under, Code.weight, Code.isCreation, Code.isGuard, Code.isCaller, Code.frames, Code.isFrame, guardIds]
structure FnG (P : Program) (w : World) (K : PySem.W.Frag) (mg : Str → Option Value) (base : Heap) (k : Nat) (f : Addr) (fd : FuncData) (ps : List Str) (sp : Sp) : Prop where
  len : ∀ vs H Q E, sp vs H Q E → vs.length = ps.length
  run : ∀ (A : Around) (outer : List PySem.Env) (s : Shared) (H : Hp) (args : Args) (us : List Value) (vs : List V) (Q : VK) (E : XK), RoomI (2 * k) A → A.guards = some [] → Env0 P w K mg base A outer s H → BindsTo s fd args (ps.zip us) → Vals vs us → sp vs H Q E →
    codeAny (model P w) A (.call (.ref f) args) (CR (CX P w) outer P w H s Q E) s
/-- what a def's number promises -/
def spC (P : Program) (w : World) (K : PySem.W.Frag) (ea : Exa) (Φ : CallSem) (np i : Nat) : Sp := fun vs H Q E => vs.length = np ∧ ∃ W σ ds, Rel P w K W σ H ∧ Reps P w K W ds vs ∧ Post P w K ea (fun c d _ H => E c d H) [] W (Φ i ds σ) Q
def permL {α : Type} (xs : List α) (pm : List Nat) : Option (List α) := pm.mapM fun i => xs[i]?
structure ShOk (P : Program) (w : World) (K : PySem.W.Frag) (fd : FuncData) (ps : List Str) (sh : Shp) : Prop where
  ok : ∃ (dv : List V) (du : List Value), Vals dv du ∧ (∀ W, Reps P w K W sh.ds dv) ∧ ∀ (s : Shared) (us ws : List Value), K.In s.heap → us.length = sh.np → ws.length = sh.ks.length →
    ∃ vs, permL (us ++ ws ++ du) sh.pm = some vs ∧ BindsTo s fd ⟨us, sh.ks.zip ws⟩ (ps.zip vs)
/-- the place where code runs -/
structure Pc (X : Cx) (g : Sg) (N : List Str) (Φ : CallSem) (ea : Exa) (k : Nat) (Wx : WX) (sc : Scope) : Prop where
  pl : Pl X
  sy : Sys X
  hN : X.N = N
  nd : N.Nodup
  hsc : X.env.scope = sc
  kind : sc.kind = .function
  room : RoomI (2 * k + 1) X.A
  calls : ∀ x i shs, g.fns.lookup x = some (i, shs) → ∃ f fd ps np, X.mg x = some (.ref f) ∧ PySem.W.keepIn X.K (.ref f) = true ∧ FnG X.prog X.w X.K X.mg X.base k f fd ps (spC X.prog X.w X.K ea Φ np i) ∧ ∀ sh ∈ shs, sh.pm.length = np ∧ ps.length = np ∧ ShOk X.prog X.w X.K fd ps sh
  meths : ∀ c m i shs, g.mes.lookup (c, m) = some (i, shs) → ∃ f fd ps np, Meth X.K (He.ga X.K c) m f ∧ FnG X.prog X.w X.K X.mg X.base k f fd ps (spC X.prog X.w X.K ea Φ np i) ∧ ∀ sh ∈ shs, sh.pm.length = np ∧ ps.length = np ∧ ShOk X.prog X.w X.K fd ps sh
  makes : ∀ c, g.mks.contains c = true → ClsF X.K (He.ga X.K c) ∧ X.mg c = some (.ref (He.ga X.K c)) ∧ ∃ f, Mk X.K (He.ga X.K c) f
  flds : ∀ c x, g.flds.contains (c, x) = true → NoAttr X.K (He.ga X.K c) x
  fcs : ∀ f, g.fcs.contains f = true → fcB X.K f = true
  glo : ∀ x d, g.glo.lookup x = some d → ∃ v u, X.mg x = some u ∧ RelV v u ∧ ∀ W, Rep X.prog X.w X.K W d v
  blt : ∀ x ∈ bltNames, X.mg x = none
  tk : Takes X Wx
section
variable {X : Cx} {g : Sg} {N : List Str} {Φ : CallSem} {ea : Exa} {k : Nat} {Wx : WX} {sc : Scope}
theorem Pc.gl (C : Pc X g N Φ ea k Wx sc) {x : Str} (h : gloC sc x = true) : Gl X x := by
  unfold gloC at h
  split at h
  · show X.env.scope.names.lookup x = _
    rw [C.hsc]; assumption
  · cases h
theorem Pc.vis (C : Pc X g N Φ ea k Wx sc) {x : Str} (h : visC sc x = true) : Vis X.env.scope x := by
  unfold visC at h
  unfold Vis
  rw [C.hsc]
  split at h
  · exact .inl (by assumption)
  · exact .inr (.inl (by assumption))
  · exact .inr (.inr (by assumption))
  · cases h
theorem locC_or {sc : Scope} {x : Str} (h : locC sc x = true) : sc.names.lookup x = some .local ∨ sc.names.lookup x = some .cell := by
  unfold locC at h
  split at h
  · exact .inl (by assumption)
  · exact .inr (by assumption)
  · cases h
theorem nameOk_dbg {x : Str} (h : nameOk x = true) : (x == ("__debug__" : Str)) = false ∧ (x == ("__classdict__" : Str)) = false := by
  unfold nameOk at h
  simp only [Bool.and_eq_true, Bool.not_eq_true'] at h
  exact h
/-- a comprehension's block -/
theorem Pc.blk (C : Pc X g N Φ ea k Wx sc) {s : Shared} {H : Hp} {scope : Scope} {cl : List (Str × Addr)} {L : Addr} {fp : List Addr} (hk : scope.kind = .function) :
    Pc (X.blk s H scope (compEnvC scope cl L X.env) fp) g N Φ ea k (fun _ _ _ _ => False) (relS scope sc) := by
  have e : (compEnvC scope cl L X.env).scope = relS scope sc := by rw [← C.hsc]; rfl
  refine ⟨⟨C.pl.calm, C.pl.units, C.pl.guards⟩, ⟨C.sy.at_⟩, C.hN, C.nd, e, hk, C.room, C.calls, C.meths, C.makes, C.flds, C.fcs, C.glo, C.blt, fun u s' h => ?_⟩
  obtain ⟨a, B, sI, pins, σ, H, cls, d, e, I, nb, up, sky, na, os, ag, w⟩ := h
  exact w.elim
/-- .. its stores -/
theorem blk_loc {s : Shared} {H : Hp} {scope : Scope} {cl : List (Str × Addr)} {L : Addr} {fp : List Addr} {x : Str} (h : locC scope x = true) :
    L2.Loc (X.blk s H scope (compEnvC scope cl L X.env) fp).env.scope x ∧ ((X.blk s H scope (compEnvC scope cl L X.env) fp).fn x = true ∨ (X.blk s H scope (compEnvC scope cl L X.env) fp).env.scope.names.lookup x = some .local) := by
  rcases locC_or h with h | h
  · have := lookup_relS_keep (sc := X.env.scope) (by decide) h
    exact ⟨.inl this, .inr this⟩
  · have := lookup_relS_keep (sc := X.env.scope) (by decide) h
    refine ⟨.inr this, .inl ?_⟩
    show (scope.names.lookup x == some NameKind.cell) = true
    rw [h]; rfl
/-! ### targets -/
/-- behind a store to own slots nothing else has changed -/
def SameW (t : Tg) (st st' : L2.St) : Prop := ∀ own, tgIn own t = true → wipe st' own = wipe st own
theorem wipe_get {st : L2.St} {j : Nat} : ∀ {own : List Nat}, (wipe st own)[j]? = if j ∈ own ∧ j < st.length then some none else st[j]?
  | [] => by simp [wipe]
  | v :: vs => by
    unfold wipe
    rw [List.getElem?_set, wipe_get (own := vs), wipe_length]
    by_cases h1 : v = j
    · subst h1
      by_cases h2 : v < st.length
      · simp [h2]
      · simp [h2]
    · have h3 : ¬ j = v := fun e => h1 e.symm
      simp [h1, h3]
theorem wipe_set {st : L2.St} {i : Nat} {x : Option V} {own : List Nat} (h : i ∈ own) : wipe (st.set i x) own = wipe st own := by
  apply List.ext_getElem?
  intro j
  rw [wipe_get, wipe_get, List.length_set, List.getElem?_set]
  by_cases e : i = j
  · subst e
    by_cases h2 : i < st.length
    · simp [h, h2]
    · simp [h2]
  · simp [e]
def gT (t : Tg) (P : Program) (w : World) (K : PySem.W.Frag) : TG := fun v st H Q => ∃ W ρ σ d, EnvR P w K W ρ st ∧ Rel P w K W σ H ∧ Rep P w K W d v ∧ ∃ ρ', tgD t d ρ = some ρ' ∧ ∀ st', EnvR P w K W ρ' st' → SameW t st st' → Q st' H
def Stores (X : Cx) (N : List Str) (sc : Scope) : Prop := ∀ x, locC sc x = true → L2.Loc X.env.scope x ∧ (X.fn x = true ∨ X.env.scope.names.lookup x = some .local)
theorem _root_.L2.PG.imp {X : Cx} {e : Expr} {t t' : TG} (h : PG X e t) (i : ∀ v st H Q, t' v st H Q → t v st H Q) : PG X e t' := ⟨fun pins s σ H v u Q I r q => h.run pins s σ H v u Q I r (i _ _ _ _ q)⟩
theorem _root_.L2.PGs.imp {X : Cx} {e : List Expr} {t t' : TGs} (h : PGs X e t) (i : ∀ v st H Q, t' v st H Q → t v st H Q) : PGs X e t' := ⟨fun pins s σ H v u Q I r q => h.run pins s σ H v u Q I r (i _ _ _ _ q)⟩
def gTs (is : List Nat) (P : Program) (w : World) (K : PySem.W.Frag) : TGs := fun vs st H Q => ∃ W ρ σ ds, EnvR P w K W ρ st ∧ Rel P w K W σ H ∧ Reps P w K W ds vs ∧ ∃ ρ', setAll is ds ρ = some ρ' ∧ ∀ st', EnvR P w K W ρ' st' → SameW (.tup is) st st' → Q st' H
theorem pgs_all (hN : X.N = N) (nd : N.Nodup) (hs : Stores X N sc) : ∀ {es : List Expr} {is : List Nat}, chkTs N sc es is = true → PGs X es (gTs is X.prog X.w X.K) ∧ (assignEach es X.env).length = is.length ∧ (assignEach es X.env).findIdx? (·.1) = none
  | [], is, h => by
    cases is with
    | cons i is => unfold chkTs at h; cases h
    | nil =>
      refine ⟨pgs_nil.imp ?_, rfl, rfl⟩
      rintro vs st H Q ⟨W, ρ, σ, ds, hρ, hσ, r, ρ', e, h⟩
      cases ds with
      | cons d ds => cases e
      | nil =>
        cases e
        exact ⟨Reps.nil_iff.mp r, h st hρ fun _ _ => rfl⟩
  | e :: es, is, h => by
    unfold chkTs at h
    split at h
    · rename_i eq; cases eq
    · rename_i x pos es' i is' eq
      cases eq
      simp only [Bool.and_eq_true, decide_eq_true_eq] at h
      obtain ⟨⟨h1, h2⟩, h3⟩ := h
      obtain ⟨ih, l, f⟩ := pgs_all hN nd hs h3
      obtain ⟨b1, b2⟩ := hs x h2
      have hg := pg_name (X := X) (pos := pos) (hN ▸ nd) (by rw [hN]; exact h1) b1 b2
      refine ⟨(pgs_cons hg ih rfl).imp ?_, congrArg (· + 1) l, ?_⟩
      · rintro vs st H Q ⟨W, ρ, σ, ds, hρ, hσ, r, ρ', e, h⟩
        cases ds with
        | nil => cases e
        | cons d ds =>
          cases vs with
          | nil => have := r.length; simp at this
          | cons v vs =>
            obtain ⟨r1, r2⟩ := Reps.cons_iff.mp r
            refine ⟨v, vs, rfl, W, ρ.set i (some d), σ, ds, hρ.set r1 i, hσ, r2, ρ', e, fun st' hr hs => h st' hr fun own ho => ?_⟩
            have ho : ((i :: is').all fun i => decide (i ∈ own)) = true := ho
            rw [List.all_cons, Bool.and_eq_true] at ho
            rw [hs own ho.2, wipe_set (of_decide_eq_true ho.1)]
      · show List.findIdx? _ ((false, assign (.Name x pos) X.env) :: assignEach es X.env) = none
        rw [List.findIdx?_cons, f]; rfl
    · cases h
theorem pg_all (hc : X.calm = true) (hN : X.N = N) (nd : N.Nodup) (hs : Stores X N sc) {e : Expr} {t : Tg} (h : chkT N sc e t = true) : PG X e (gT t X.prog X.w X.K) := by
  unfold chkT at h
  split at h
  · rename_i x pos i
    simp only [Bool.and_eq_true, decide_eq_true_eq] at h
    obtain ⟨h1, h2⟩ := h
    obtain ⟨b1, b2⟩ := hs x h2
    refine (pg_name (X := X) (pos := pos) (hN ▸ nd) (by rw [hN]; exact h1) b1 b2).imp ?_
    rintro v st H Q ⟨W, ρ, σ, d, hρ, hσ, r, ρ', e, h⟩
    cases e
    exact h _ (hρ.set r i) fun own ho => wipe_set (of_decide_eq_true (p := i ∈ own) ho)
  · rename_i es x1 pos is
    obtain ⟨p1, p2, p3⟩ := pgs_all hN nd hs h
    refine (pg_tup hc p1 p2 p3).imp ?_
    rintro v st H Q ⟨W, ρ, σ, d, hρ, hσ, r, ρ', e, h⟩
    unfold tgD at e
    have len : ∀ {is : List Nat} {ds : List D} {ρ ρ' : Env}, setAll is ds ρ = some ρ' → ds.length = is.length := by
      intro is
      induction is with
      | nil => intro ds ρ ρ' e; cases ds <;> first | rfl | cases e
      | cons i is ih => intro ds ρ ρ' e; cases ds with
        | nil => cases e
        | cons d ds => exact congrArg (· + 1) (ih e)
    cases d with
    | tup ds =>
      simp only [Rep] at r
      obtain ⟨a, vs, rfl, s, q⟩ := r
      exact ⟨a, vs, rfl, sqT_ext hσ.sub s.sq, by rw [← q.length]; exact len e, W, ρ, σ, ds, hρ, hσ, q, ρ', e, h⟩
    | it ds =>
      simp only [Rep] at r
      obtain ⟨a, vs, rfl, s, q⟩ := r
      exact ⟨a, vs, rfl, sqT_ext hσ.sub s, by rw [← q.length]; exact len e, W, ρ, σ, ds, hρ, hσ, q, ρ', e, h⟩
    | _ => cases e
  · cases h
end
end Iv

set_option Elab.async false
set_option linter.all false
set_option maxHeartbeats 4000000
/-! adequacy, expressions: the forms -/
namespace Iv
open PySem PySem.Spec L2
section
variable {X : Cx}
theorem _root_.L2.PE.impS {e : Expr} {t : St → TE} {t' : TE} (h : ∀ st0, PE X e (t st0)) (i : ∀ st H Q, t' st H Q → t st st H Q) : PE X e t' := ⟨fun pins s σ H Q I q => (h σ).run pins s σ H Q I (i _ _ _ q)⟩
theorem _root_.L2.PE.imp {e : Expr} {t t' : TE} (h : PE X e t) (i : ∀ st H Q, t' st H Q → t st H Q) : PE X e t' := ⟨fun pins s σ H Q I q => h.run pins s σ H Q I (i _ _ _ q)⟩
theorem _root_.L2.PT.impS {e : Expr} {t : St → TT} {t' : TT} (h : ∀ st0, PT X e (t st0)) (i : ∀ st H Q, t' st H Q → t st st H Q) : PT X e t' := ⟨fun pins s σ H Q I q => (h σ).run pins s σ H Q I (i _ _ _ q)⟩
theorem _root_.L2.PT.imp {e : Expr} {t t' : TT} (h : PT X e t) (i : ∀ st H Q, t' st H Q → t st H Q) : PT X e t' := ⟨fun pins s σ H Q I q => h.run pins s σ H Q I (i _ _ _ q)⟩
theorem _root_.L2.PW.imp {e : Expr} {t t' : TT} (h : PW X e t) (i : ∀ st H Q, t' st H Q → t st H Q) : PW X e t' := ⟨fun wh pins s σ H Q I q => h.run wh pins s σ H Q I (i _ _ _ q)⟩
theorem _root_.L2.PA.imp {e : List Expr} {t t' : TA} (h : PA X e t) (i : ∀ st H Q, t' st H Q → t st H Q) : PA X e t' := ⟨fun pos pins s σ H Q I q => h.run pos pins s σ H Q I (i _ _ _ q)⟩
theorem _root_.L2.PK.imp {e : List Keyword} {t t' : TA} (h : PK X e t) (i : ∀ st H Q, t' st H Q → t st H Q) : PK X e t' := ⟨fun pos pins s σ H Q I q => h.run pos pins s σ H Q I (i _ _ _ q)⟩
theorem _root_.L2.PO.imp {e : Option Expr} {t t' : TO} (h : PO X e t) (i : ∀ st H Q, t' st H Q → t st H Q) : PO X e t' := ⟨fun pins s σ H Q I q => h.run pins s σ H Q I (i _ _ _ q)⟩
theorem _root_.L2.PTs.imp {e : List Expr} {t t' : TT} (h : PTs X e t) (i : ∀ st H Q, t' st H Q → t st H Q) : PTs X e t' := ⟨fun pins s σ H Q I q => h.run pins s σ H Q I (i _ _ _ q)⟩
end
section
variable {P : Program} {w : World} {K : PySem.W.Frag} {ea : Exa} {Wx : WX} {st : St} {W W1 : Wd} {ρ : Env} {σ : Store} {H : Hp}
def tO (P : Program) (w : World) (K : PySem.W.Frag) (ea : Exa) (Wx : WX) (f : Env → Store → Res D) : TO := fun st H Q => ∃ W ρ σ, EnvR P w K W ρ st ∧ Rel P w K W σ H ∧ match f ρ σ with
  | .ok d σ' => ∃ o, optI d = some o ∧ ∀ W' H', Le W W' → Rel P w K W' σ' H' → Q o H'
  | .exc c d σ' => ∀ W' H cls dx, Le W W' → Rel P w K W' σ' H → ExcR P w K ea W' c d cls dx H → Wx cls dx st H
  | .bad => False
theorem tO.bind {f : Env → Store → Res D} {k : D → Store → Res D} {Q : VK} {T : Option Int → Hp → Prop} (hρ : EnvR P w K W ρ st) (hσ : Rel P w K W σ H)
    (h : Post P w K ea Wx st W ((f ρ σ).bind fun d σ1 => if (optI d).isSome then k d σ1 else .bad) Q)
    (c : ∀ d o σ1 W1 H1, Le W W1 → Rel P w K W1 σ1 H1 → optI d = some o → Post P w K ea Wx st W1 (k d σ1) Q → T o H1) : tO P w K ea Wx f st H T := by
  refine ⟨W, ρ, σ, hρ, hσ, ?_⟩
  cases e : f ρ σ with
  | ok d σ1 =>
    rw [e] at h
    have h : Post P w K ea Wx st W (if (optI d).isSome then k d σ1 else .bad) Q := h
    cases q : optI d with
    | none => rw [q] at h; exact False.elim h
    | some o =>
      rw [q] at h
      have h : Post P w K ea Wx st W (k d σ1) Q := h
      exact ⟨o, q, fun W1 H1 le r => c d o σ1 W1 H1 le r q (Post.mono le h)⟩
  | exc c d σ1 => rw [e] at h; exact h
  | bad => rw [e] at h; exact h
/-- a test, then the rest -/
theorem tT.bind {f : Env → Store → Res D} {k1 k2 : Store → Res D} {Q : VK} {T : Bool → Hp → Prop} (hρ : EnvR P w K W ρ st) (hσ : Rel P w K W σ H)
    (h : Post P w K ea Wx st W ((f ρ σ).bind fun d σ1 => match truthD (view σ1 d) with
      | some true => k1 σ1
      | some false => k2 σ1
      | none => .bad) Q)
    (c : ∀ b σ1 W1 H1, Le W W1 → Rel P w K W1 σ1 H1 → Post P w K ea Wx st W1 (if b = true then k1 σ1 else k2 σ1) Q → T b H1) : tT P w K ea Wx f st H T := by
  refine ⟨W, ρ, σ, hρ, hσ, ?_⟩
  cases e : f ρ σ with
  | ok d σ1 =>
    rw [e] at h
    have h : Post P w K ea Wx st W (match truthD (view σ1 d) with
      | some true => k1 σ1
      | some false => k2 σ1
      | none => .bad) Q := h
    cases q : truthD (view σ1 d) with
    | none => rw [q] at h; exact False.elim h
    | some b =>
      rw [q] at h
      refine ⟨b, q, fun W1 H1 le r => c b σ1 W1 H1 le r (Post.mono le ?_)⟩
      cases b <;> exact h
  | exc c d σ1 => rw [e] at h; exact h
  | bad => rw [e] at h; exact h
/-- a test from a test -/
def TPost (P : Program) (w : World) (K : PySem.W.Frag) (ea : Exa) (Wx : WX) (st : St) (W : Wd) (r : Res D) (Q : Bool → Hp → Prop) : Prop := match r with
  | .ok d σ' => ∃ b, truthD (view σ' d) = some b ∧ ∀ W' H, Le W W' → Rel P w K W' σ' H → Q b H
  | .exc c d σ' => ∀ W' H cls dx, Le W W' → Rel P w K W' σ' H → ExcR P w K ea W' c d cls dx H → Wx cls dx st H
  | .bad => False
theorem tT_iff {f : Env → Store → Res D} {Q : Bool → Hp → Prop} : tT P w K ea Wx f st H Q ↔ ∃ W ρ σ, EnvR P w K W ρ st ∧ Rel P w K W σ H ∧ TPost P w K ea Wx st W (f ρ σ) Q := Iff.rfl
theorem TPost.mono {r : Res D} {Q : Bool → Hp → Prop} (le : Le W W1) (h : TPost P w K ea Wx st W r Q) : TPost P w K ea Wx st W1 r Q := by
  cases r with
  | ok d σ => obtain ⟨b, e, h⟩ := h; exact ⟨b, e, fun W' H l => h W' H (le.trans l)⟩
  | exc c d σ => exact fun W' H cls dx l => h W' H cls dx (le.trans l)
  | bad => exact h
theorem TPost.bindE {f : Env → Store → Res D} {k : D → Store → Res D} {Q : Bool → Hp → Prop} {T : VK} (hρ : EnvR P w K W ρ st) (hσ : Rel P w K W σ H) (h : TPost P w K ea Wx st W ((f ρ σ).bind k) Q)
    (c : ∀ d σ1 W1 v H1, Le W W1 → Rel P w K W1 σ1 H1 → Rep P w K W1 d v → TPost P w K ea Wx st W1 (k d σ1) Q → T v H1) : tE P w K ea Wx f st H T := by
  refine ⟨W, ρ, σ, hρ, hσ, ?_⟩
  cases e : f ρ σ with
  | ok d σ1 => rw [e] at h; exact fun W1 v H1 le r q => c d σ1 W1 v H1 le r q (TPost.mono le h)
  | exc c d σ1 => rw [e] at h; exact h
  | bad => rw [e] at h; exact h
theorem TPost.bindT {f : Env → Store → Res D} {k1 k2 : D → Store → Res D} {Q : Bool → Hp → Prop} {T : Bool → Hp → Prop} (hρ : EnvR P w K W ρ st) (hσ : Rel P w K W σ H)
    (h : TPost P w K ea Wx st W ((f ρ σ).bind fun d σ1 => match truthD (view σ1 d) with
      | some true => k1 d σ1
      | some false => k2 d σ1
      | none => .bad) Q)
    (c : ∀ d b σ1 W1 H1, truthD (view σ1 d) = some b → Le W W1 → Rel P w K W1 σ1 H1 → TPost P w K ea Wx st W1 (if b = true then k1 d σ1 else k2 d σ1) Q → T b H1) : tT P w K ea Wx f st H T := by
  refine ⟨W, ρ, σ, hρ, hσ, ?_⟩
  cases e : f ρ σ with
  | ok d σ1 =>
    rw [e] at h
    have h : TPost P w K ea Wx st W (match truthD (view σ1 d) with
      | some true => k1 d σ1
      | some false => k2 d σ1
      | none => .bad) Q := h
    cases q : truthD (view σ1 d) with
    | none => rw [q] at h; exact False.elim h
    | some b =>
      rw [q] at h
      refine ⟨b, q, fun W1 H1 le r => c d b σ1 W1 H1 q le r (TPost.mono le ?_)⟩
      cases b <;> exact h
  | exc c d σ1 => rw [e] at h; exact h
  | bad => rw [e] at h; exact h
theorem TPost.here {d : D} {b : Bool} {Q : Bool → Hp → Prop} (h : TPost P w K ea Wx st W (.ok d σ) Q) (hσ : Rel P w K W σ H) (e : truthD (view σ d) = some b) : Q b H := by
  obtain ⟨c, e', h⟩ := h
  rw [e] at e'
  cases e'
  exact h W H (Le.refl W) hσ
/-- a test's reading, as the value's truth -/
theorem tT_truth {f : Env → Store → Res D} {Q : Bool → Hp → Prop} (h : tT P w K ea Wx f st H Q) : tE P w K ea Wx f st H fun x H' => ∃ k, TruV K x H' k ∧ Q k H' := by
  obtain ⟨W, ρ, σ, hρ, hσ, h⟩ := h
  refine ⟨W, ρ, σ, hρ, hσ, ?_⟩
  cases e : f ρ σ with
  | ok d σ1 =>
    rw [e] at h
    obtain ⟨b, q, h⟩ := h
    exact fun W1 v H1 le r rd => ⟨b, r.tru rd rfl q, h W1 H1 le r⟩
  | exc c d σ1 => rw [e] at h; exact h
  | bad => rw [e] at h; exact h
theorem cmpD_bl {op : COp} {a b d : D} {σ σ' : Store} (h : cmpD op a b σ = .ok d σ') : ∃ k, d = .bl k ∧ σ' = σ := by
  unfold cmpD at h
  repeat' split at h
  all_goals first
    | (injection h with h1 h2; exact ⟨_, h1.symm, h2.symm⟩)
    | cases h
theorem cmpD_exc {op : COp} {a b d : D} {c : Nat} {σ σ' : Store} (h : cmpD op a b σ = .exc c d σ') : False := by
  unfold cmpD at h
  repeat' split at h
  all_goals cases h
/-- a comparison's outcome, as a test -/
theorem tpost_cmp {op : COp} {a b : D} {Q : Bool → Hp → Prop} (h : TPost P w K ea Wx st W (cmpD op a b σ) Q) : Post P w K ea Wx st W (cmpD op a b σ) fun x H' => ∃ k, x = .bl k ∧ Q k H' := by
  cases e : cmpD op a b σ with
  | ok d σ1 =>
    obtain ⟨k, rfl, rfl⟩ := cmpD_bl e
    rw [e] at h
    obtain ⟨b, q, h⟩ := h
    intro W' v H' le r rd
    simp only [Rep] at rd
    have q : some k = some b := q
    cases q
    exact ⟨k, rd, h W' H' le r⟩
  | exc c d σ1 => exact (cmpD_exc e).elim
  | bad => rw [e] at h; exact h
end
end Iv

set_option Elab.async false
set_option linter.all false
set_option maxHeartbeats 4000000
/-! adequacy: argument lists, calls -/
namespace Iv
open PySem PySem.Spec L2
/-! ### lists picked -/
theorem permL_cons {α : Type} {xs : List α} {i : Nat} {pm : List Nat} : permL xs (i :: pm) = (xs[i]?).bind fun x => (permL xs pm).bind fun r => some (x :: r) := by
  unfold permL
  rw [List.mapM_cons]
  rfl
theorem permL_vals {xs : List V} {us : List Value} (r : Vals xs us) : ∀ {pm : List Nat} {vs : List V}, permL xs pm = some vs → ∃ ws, permL us pm = some ws ∧ Vals vs ws
  | [], vs, h => by cases h; exact ⟨[], rfl, .nil⟩
  | i :: pm, vs, h => by
    rw [permL_cons, Option.bind_eq_some_iff] at h
    obtain ⟨x, h1, h⟩ := h
    rw [Option.bind_eq_some_iff] at h
    obtain ⟨t, h2, h⟩ := h
    cases h
    obtain ⟨u, h3, h4⟩ := r.get h1
    obtain ⟨ws, h5, h6⟩ := permL_vals r h2
    exact ⟨u :: ws, by rw [permL_cons, h3, h5]; rfl, .cons h4 h6⟩
theorem permD_reps {P : Program} {w : World} {K : PySem.W.Frag} {W : Wd} {xs : List D} {us : List V} (r : Reps P w K W xs us) : ∀ {pm : List Nat} {vs : List D}, permD xs pm = some vs → ∃ ws, permL us pm = some ws ∧ Reps P w K W vs ws
  | [], vs, h => by cases h; exact ⟨[], rfl, Reps.nil⟩
  | i :: pm, vs, h => by
    have h : permL xs (i :: pm) = some vs := h
    rw [permL_cons, Option.bind_eq_some_iff] at h
    obtain ⟨x, h1, h⟩ := h
    rw [Option.bind_eq_some_iff] at h
    obtain ⟨t, h2, h⟩ := h
    cases h
    obtain ⟨u, h3, h4⟩ := r.get h1
    obtain ⟨ws, h5, h6⟩ := permD_reps r (pm := pm) h2
    exact ⟨u :: ws, by rw [permL_cons, h3, h5]; rfl, Reps.cons h4 h6⟩
theorem permL_length {α : Type} {xs : List α} : ∀ {pm : List Nat} {vs : List α}, permL xs pm = some vs → vs.length = pm.length
  | [], vs, h => by cases h; rfl
  | i :: pm, vs, h => by
    rw [permL_cons, Option.bind_eq_some_iff] at h
    obtain ⟨x, h1, h⟩ := h
    rw [Option.bind_eq_some_iff] at h
    obtain ⟨t, h2, h⟩ := h
    cases h
    exact congrArg (· + 1) (permL_length h2)
section
variable {X : Cx} {g : Sg} {N : List Str} {Φ : CallSem} {ea : Exa} {k : Nat} {Wx : WX} {sc : Scope}
/-- an own def is called -/
theorem run_call (C : Pc X g N Φ ea k Wx sc) {pins : List (Addr × Obj)} {st : L2.St} {H : Hp} {s : Shared} {Q : VK} {f : Addr} {fd : FuncData} {ps : List Str} {np i : Nat} {sh : Shp} {us ws : List Value} {vs zs : List V} {W : Wd} {σ : Store} {xs ys : List D}
    (F : FnG X.prog X.w X.K X.mg X.base k f fd ps (spC X.prog X.w X.K ea Φ np i)) (hp : sh.pm.length = np ∧ ps.length = np ∧ ShOk X.prog X.w X.K fd ps sh) (I : Inv X pins st H s) (rv : Vals vs us) (rz : Vals zs ws) (l1 : us.length = sh.np) (l2 : ws.length = sh.ks.length)
    (hσ : Rel X.prog X.w X.K W σ H) (rx : Reps X.prog X.w X.K W xs vs) (ry : Reps X.prog X.w X.K W ys zs)
    (h : Post X.prog X.w X.K ea Wx st W (match permD (xs ++ ys ++ sh.ds) sh.pm with
      | some ds => Φ i ds σ
      | none => .bad) Q) : wpAny (model X.prog X.w) X.A (call (.ref f) us (sh.ks.zip ws)) (EP X pins st Q) X.xe s := by
  obtain ⟨hp1, hp2, ⟨dv, du, rd, rdd, hb⟩⟩ := hp
  obtain ⟨bs, e1, hb⟩ := hb s us ws I.kIn l1 l2
  cases e : permD (xs ++ ys ++ sh.ds) sh.pm with
  | none => rw [e] at h; exact False.elim h
  | some ds =>
    rw [e] at h
    have h : Post X.prog X.w X.K ea Wx st W (Φ i ds σ) Q := h
    obtain ⟨cs, e2, rc⟩ := permD_reps ((rx.append ry).append (rdd W)) e
    obtain ⟨bs', e3, rb⟩ := permL_vals ((rv.append rz).append rd) e2
    rw [e1] at e3
    cases e3
    have hl : cs.length = np := by rw [← hp1]; exact permL_length e2
    refine wpAny_call (codeAny_mono (F.run X.A X.stack s H ⟨us, sh.ks.zip ws⟩ bs cs Q (fun c d H => Wx c d st H) (C.room.mono (Nat.le_succ _)) C.pl.guards I.env0 hb rb ⟨hl, W, σ, ds, hσ, rc, ?_⟩) fun r s' hq => ?_)
    · cases q : Φ i ds σ with
      | ok d σ' => rw [q] at h; exact h
      | exc c d σ' => rw [q] at h; exact h
      | bad => rw [q] at h; exact h
    · cases r with
      | error e => exact C.tk e s' (XE.of_call I (fun _ _ _ h => h) hq)
      | ok fl =>
        cases fl with
        | ret u => exact I.after hq
        | next => exact False.elim hq
        | brk => exact False.elim hq
        | cont => exact False.elim hq
/-- a new instance is made: its __init__ runs -/
theorem run_mk (C : Pc X g N Φ ea k Wx sc) {pins : List (Addr × Obj)} {st : L2.St} {H : Hp} {s : Shared} {Q : VK} {c : Str} {f : Addr} {fd : FuncData} {ps : List Str} {np i : Nat} {sh : Shp} {us ws : List Value} {vs zs : List V} {W : Wd} {σ : Store} {xs ys : List D}
    (M : Mk X.K (He.ga X.K c) f) (CF : ClsF X.K (He.ga X.K c)) (F : FnG X.prog X.w X.K X.mg X.base k f fd ps (spC X.prog X.w X.K ea Φ np i)) (hp : sh.pm.length = np ∧ ps.length = np ∧ ShOk X.prog X.w X.K fd ps sh) (I : Inv X pins st H s) (rv : Vals vs us) (rz : Vals zs ws) (l1 : us.length + 1 = sh.np) (l2 : ws.length = sh.ks.length)
    (hσ : Rel X.prog X.w X.K W σ H) (rx : Reps X.prog X.w X.K W xs vs) (ry : Reps X.prog X.w X.K W ys zs)
    (h : Post X.prog X.w X.K ea Wx st W (match permD (.ref σ.length :: (xs ++ ys ++ sh.ds)) sh.pm with
      | some ds => (Φ i ds (σ ++ [.obj c []])).bind fun r σ3 => match r with
        | .non => .ok (.ref σ.length) σ3
        | _ => .bad
      | none => .bad) Q) : wpAny (model X.prog X.w) X.A (call (.ref (He.ga X.K c)) us (sh.ks.zip ws)) (EP X pins st Q) X.xe s := by
  obtain ⟨hp1, hp2, ⟨dv, du, rd, rdd, hb⟩⟩ := hp
  have I2 := Inv.made (C := He.ga X.K c) I
  obtain ⟨bs, e1, hb⟩ := hb _ (Value.ref (s.heap.objs.size + 1) :: us) ws I2.kIn l1 l2
  have n1 : H s.heap.objs.size = none := I.hok.fresh (Nat.le_refl _)
  have n2 : H (s.heap.objs.size + 1) = none := I.hok.fresh (Nat.le_succ _)
  have n3 : upd H s.heap.objs.size (.own (s.heap.objs.size + 1)) (s.heap.objs.size + 1) = none := by rw [upd_ne (Nat.ne_of_gt (Nat.lt_succ_self _))]; exact n2
  have hσ1 : Rel X.prog X.w X.K W σ (upd H s.heap.objs.size (.own (s.heap.objs.size + 1))) := hσ.other n1
  have hσ2 : Rel X.prog X.w X.K (W.push (s.heap.objs.size + 1)) (σ ++ [.obj c []]) _ := hσ1.push (o := .ins (He.ga X.K c) s.heap.objs.size []) n3 ⟨CF, (fun x hx => nomatch hx), [], s.heap.objs.size, upd_same, Reps.nil⟩
  have rself : Rep X.prog X.w X.K (W.push (s.heap.objs.size + 1)) (.ref σ.length) (V.ref (s.heap.objs.size + 1)) := by
    simp only [Rep]
    refine ⟨by rw [hσ.len]; exact Nat.lt_succ_self _, ?_⟩
    show V.ref (s.heap.objs.size + 1) = V.ref (if σ.length = W.n then s.heap.objs.size + 1 else W.μ σ.length)
    rw [if_pos hσ.len]
  have le := lePush W (s.heap.objs.size + 1)
  cases e : permD (.ref σ.length :: (xs ++ ys ++ sh.ds)) sh.pm with
  | none => rw [e] at h; exact False.elim h
  | some ds =>
    rw [e] at h
    have h : Post X.prog X.w X.K ea Wx st W ((Φ i ds (σ ++ [.obj c []])).bind fun r σ3 => match r with
        | .non => .ok (.ref σ.length) σ3
        | _ => .bad) Q := h
    obtain ⟨cs, e2, rc⟩ := permD_reps (Reps.cons rself (((rx.mono le).append (ry.mono le)).append (rdd _))) e
    obtain ⟨bs', e3, rb⟩ := permL_vals (.cons (show RelV (V.ref (s.heap.objs.size + 1)) (Value.ref (s.heap.objs.size + 1)) from rfl) ((rv.append rz).append rd)) e2
    have e1 : permL (Value.ref (s.heap.objs.size + 1) :: (us ++ ws ++ du)) sh.pm = some bs := e1
    rw [e1] at e3
    cases e3
    have hl : cs.length = np := by rw [← hp1]; exact permL_length e2
    refine wpAny_call (make_map (f := f) I.kIn M.makes M.init (beq_iff_eq.mp M.fn) (codeAny_mono (F.run _ X.stack _ _ ⟨Value.ref (s.heap.objs.size + 1) :: us, sh.ks.zip ws⟩ bs cs (fun v H2 => v = .non ∧ Q (.ref (s.heap.objs.size + 1)) H2) (fun c d H => Wx c d st H)
      (C.room.make (He.ga X.K c) us (sh.ks.zip ws)) (by rw [make_guards]; exact C.pl.guards) (I2.env0.make (He.ga X.K c) us (sh.ks.zip ws)) hb rb ⟨hl, W.push (s.heap.objs.size + 1), σ ++ [.obj c []], ds, hσ2, rc, ?_⟩) fun r s' hq => ?_))
    · cases q : Φ i ds (σ ++ [.obj c []]) with
      | ok d σ' =>
        rw [q] at h
        cases d with
        | non =>
          have h : Post X.prog X.w X.K ea Wx st W (.ok (.ref σ.length) σ') Q := h
          intro W' v H' le' r' rd'
          simp only [Rep] at rd'
          exact ⟨rd', h W' _ H' (le.trans le') r' (rself.mono le')⟩
        | _ => exact False.elim h
      | exc c' d σ' =>
        rw [q] at h
        exact fun W' H' cls dx le' r' q' => h W' H' cls dx (le.trans le') r' q'
      | bad => rw [q] at h; exact h
    · cases r with
      | error e => exact C.tk e s' (XE.of_call I2 (fun _ _ _ h => h) hq)
      | ok fl =>
        cases fl with
        | ret u =>
          obtain ⟨v, H', I3, rv', ev', q3⟩ := I2.after hq
          subst ev'
          exact ⟨rv', ⟨V.ref (s.heap.objs.size + 1), H', I3, rfl, q3⟩⟩
        | next => exact False.elim hq
        | brk => exact False.elim hq
        | cont => exact False.elim hq
/-! ### what a list of arguments looks like -/
theorem starEach_ns {e : Expr} {es : List Expr} {env : PySem.Env} (h : noStar [e] = true) : starEach (e :: es) env = (false, eval e env) :: starEach es env := by
  cases e <;> first | rfl | cases h
theorem noStar_cons {e : Expr} {es : List Expr} (h : noStar (e :: es) = true) : noStar [e] = true ∧ noStar es = true := by
  cases e <;> first | exact ⟨rfl, h⟩ | cases h
theorem plain_ns : ∀ {es : List Expr} {env : PySem.Env} {pos : Pos}, noStar es = true → (backTo pos (starEach es env)).any (·.1) = false ∧ (backTo pos (starEach es env)).all (fun x => !x.1) = true
  | [], _, _, _ => ⟨rfl, rfl⟩
  | e :: es, env, pos, h => by
    obtain ⟨h1, h2⟩ := noStar_cons h
    obtain ⟨i1, i2⟩ := plain_ns (env := env) (pos := pos) h2
    rw [starEach_ns h1]
    unfold backTo at *
    rw [List.map_cons, List.any_cons, List.all_cons, i1, i2]
    exact ⟨rfl, rfl⟩
theorem kw_shape : ∀ {kws : List Keyword} {ks : List Str} {env : PySem.Env} {pos : Pos}, kws.map (·.arg) = ks.map some → (backToKw pos (keywordEach kws env)).all (·.1.isSome) = true ∧ (backToKw pos (keywordEach kws env)).filterMap (·.1) = ks ∧ (backToKw pos (keywordEach kws env)).any (·.1.isNone) = false
  | [], ks, _, _, h => by
    cases ks with
    | nil => exact ⟨rfl, rfl, rfl⟩
    | cons _ _ => cases h
  | ⟨a, v, p⟩ :: kws, ks, env, pos, h => by
    cases ks with
    | nil => cases h
    | cons x ks =>
      rw [List.map_cons, List.map_cons, List.cons.injEq] at h
      obtain ⟨h1, h2⟩ := h
      have h1 : a = some x := h1
      subst h1
      obtain ⟨i1, i2, i3⟩ := kw_shape (env := env) (pos := pos) h2
      unfold backToKw at *
      refine ⟨?_, ?_, ?_⟩
      · show List.all (_ :: List.map _ (keywordEach kws env)) _ = true
        rw [List.all_cons, i1]; rfl
      · show List.filterMap _ (_ :: List.map _ (keywordEach kws env)) = _
        rw [List.filterMap_cons]
        show x :: List.filterMap _ (List.map _ (keywordEach kws env)) = _
        rw [i2]
      · show List.any (_ :: List.map _ (keywordEach kws env)) _ = false
        rw [List.any_cons, i3]; rfl
theorem bn_len {f : Nat} (b : Bi) : b.name ∈ bltNames := by cases b <;> decide +kernel
theorem boot_bi (b : Bi) : bootBuiltins b.name = some b.val := by cases b <;> first | rfl | decide +kernel | kernel_rfl
theorem boot_ty (t : Ty) : bootBuiltins t.nm = some (.type t.name) ∧ t.nm ≠ "__name__" ∧ (t.nm == ("__debug__" : Str)) = false ∧ t.nm ∈ bltNames := by
  cases t <;> exact ⟨by first | rfl | decide +kernel | kernel_rfl, by decide +kernel, by decide +kernel, by decide +kernel⟩
theorem bi_dbg (b : Bi) : b.name ≠ "__name__" ∧ (b.name == ("__debug__" : Str)) = false := by cases b <;> exact ⟨by decide +kernel, by decide +kernel⟩
/-- a built-in function of one argument -/
theorem pe_bi (C : Pc X g N Φ ea k Wx sc) {b : Bi} {r : List V → Hp → VK → Prop} {e : Expr} {te : TE} {p pos : Pos} (hr : CallR X b.val r) (hg : gloC sc b.name = true) (he : PE X e te) (hs : noStar [e] = true) : PE X (.Call (.Name b.name p) [e] [] pos) (tCB r (tCons te tNil)) := by
  have hm : X.mg b.name = none := C.blt _ (bn_len (f := 0) b)
  have ha : PA X [e] (tCons te tNil) := pa_cons he pa_nil (starEach_ns hs)
  have hv := boot_bi b
  obtain ⟨d1, d2⟩ := bi_dbg b
  cases b <;> first
    | exact pe_callB hr (C.gl hg) hm hv ha d1 d2 (starEach_ns hs) rfl
    | exact pe_callTy hr (C.gl hg) hm hv ha d1 d2 (starEach_ns hs) rfl
theorem pe_ty (C : Pc X g N Φ ea k Wx sc) {t : Ty} {pos : Pos} (hg : gloC sc t.nm = true) : PE X (.Name t.nm pos) (tC (.ty t.name)) := by
  obtain ⟨h1, h2, h3, h4⟩ := boot_ty t
  exact pe_bltn (C.gl hg) (C.blt _ h4) h1 rfl h2 h3
theorem pa_tys (C : Pc X g N Φ ea k Wx sc) : ∀ {es : List Expr} {ts : List Ty}, tyNames sc es ts = true → PA X es (fun _ H Q => Q (ts.map fun t => V.ty t.name) H)
  | [], [], _ => pa_nil
  | [], _ :: _, h => by cases h
  | e :: es, [], h => by cases e <;> cases h
  | e :: es, t :: ts, h => by
    cases e with
    | Name x pos =>
      unfold tyNames at h
      simp only [Bool.and_eq_true, decide_eq_true_eq] at h
      obtain ⟨⟨h1, h2⟩, h3⟩ := h
      subst h1
      exact pa_cons (pe_ty C h2) (pa_tys C h3) rfl
    | _ => cases h
/-- isinstance -/
theorem pe_is1 (C : Pc X g N Φ ea k Wx sc) {e : Expr} {te : TE} {t : Ty} {p q pos : Pos} {st0 : L2.St} (hg : gloC sc "isinstance" = true) (hy : gloC sc t.nm = true) (hs : noStar [e] = true) (he : PE X e te) :
    PE X (.Call (.Name "isinstance" p) [e, .Name t.nm q] [] pos) (fun σ H Q => te σ H fun x H1 => ∃ W s a, Rel X.prog X.w X.K W s H1 ∧ Rep X.prog X.w X.K W a x ∧ Post X.prog X.w X.K ea Wx st0 W (isiD [t] a s) Q) := by
  have hm : X.mg "isinstance" = none := C.blt _ (by decide +kernel)
  have ha : PA X [e, .Name t.nm q] (tCons te (tCons (tC (.ty t.name)) tNil)) := pa_cons he (pa_cons (pe_ty C hy) pa_nil rfl) (starEach_ns hs)
  refine (pe_callB (call_is1 (ea := ea) (Wx := Wx) (st0 := st0) t) (C.gl hg) hm (by first | rfl | kernel_rfl) ha (by decide +kernel) (by decide +kernel) (starEach_ns hs) rfl).imp fun st H Q h => ?_
  refine (?_ : te st H _)
  have : (fun x H1 => ∃ W s a, Rel X.prog X.w X.K W s H1 ∧ Rep X.prog X.w X.K W a x ∧ Post X.prog X.w X.K ea Wx st0 W (isiD [t] a s) Q) = fun x H1 => (tCons (tC (.ty t.name)) tNil) st H1 fun xs H2 => ∃ W σ a x', x :: xs = [x', .ty t.name] ∧ Rel X.prog X.w X.K W σ H2 ∧ Rep X.prog X.w X.K W a x' ∧ Post X.prog X.w X.K ea Wx st0 W (isiD [t] a σ) Q := by
    funext x H1
    show _ = ∃ W σ a x', [x, V.ty t.name] = [x', .ty t.name] ∧ Rel X.prog X.w X.K W σ H1 ∧ Rep X.prog X.w X.K W a x' ∧ Post X.prog X.w X.K ea Wx st0 W (isiD [t] a σ) Q
    apply propext
    constructor
    · rintro ⟨W, s, a, h1, h2, h3⟩
      exact ⟨W, s, a, x, rfl, h1, h2, h3⟩
    · rintro ⟨W, s, a, x', e, h1, h2, h3⟩
      cases e
      exact ⟨W, s, a, h1, h2, h3⟩
  rw [this] at h
  exact h
end
end Iv

set_option Elab.async false
set_option linter.all false
set_option maxHeartbeats 4000000
/-! adequacy: the expressions, form by form -/
namespace Iv
open PySem PySem.Spec L2
section
variable {X : Cx} {g : Sg} {N : List Str} {Φ : CallSem} {ea : Exa} {k : Nat} {Wx : WX} {sc : Scope} {pos p2 : Pos}
abbrev Te (X : Cx) (Φ : CallSem) (ea : Exa) (Wx : WX) (e : Ex) : TE := tE X.prog X.w X.K ea Wx (ev Φ e)
abbrev Tt (X : Cx) (Φ : CallSem) (ea : Exa) (Wx : WX) (e : Ex) : TT := tT X.prog X.w X.K ea Wx (ev Φ e)
abbrev Ta (X : Cx) (Φ : CallSem) (ea : Exa) (Wx : WX) (e : List Ex) : TA := tA X.prog X.w X.K ea Wx (evs Φ e)
abbrev To (X : Cx) (Φ : CallSem) (ea : Exa) (Wx : WX) (e : Ex) : TO := tO X.prog X.w X.K ea Wx (ev Φ e)
variable {a b c : Expr} {a' b' c' : Ex}
theorem ad_loc (C : Pc X g N Φ ea k Wx sc) {x : Str} {i : Nat} (h : (decide (N[i]? = some x) && visC sc x && nameOk x) = true) : PE X (.Name x pos) (Te X Φ ea Wx (.loc i)) := by
  simp only [Bool.and_eq_true, decide_eq_true_eq] at h
  obtain ⟨⟨h1, h2⟩, h3⟩ := h
  obtain ⟨d1, d2⟩ := nameOk_dbg h3
  refine (pe_var (by rw [C.hN]; exact h1) (C.vis h2) d1 d2).imp ?_
  rintro st H Q ⟨W, ρ, σ, hρ, hσ, h⟩
  unfold ev at h
  split at h
  · rename_i d hd
    obtain ⟨v, h1, h2⟩ := hρ.2 i d hd
    exact ⟨v, h1, h.here hσ h2⟩
  · exact False.elim h
theorem ad_glo (C : Pc X g N Φ ea k Wx sc) {x y : Str} {d : D} (h : (gloC sc x && nameOk x && (match g.glo.lookup x with
    | some e => D.same e d
    | none => false)) = true) : PE X (.Name x pos) (Te X Φ ea Wx (.glo y d)) := by
  simp only [Bool.and_eq_true, decide_eq_true_eq] at h
  obtain ⟨⟨h2, h3⟩, h4⟩ := h
  split at h4
  · rename_i e he
    have := D.same_eq h4
    subst this
    obtain ⟨v, u, g1, g2, g3⟩ := C.glo x e he
    refine (pe_glob (C.gl h2) g1 g2 (nameOk_dbg h3).1).imp ?_
    rintro st H Q ⟨W, ρ, σ, hρ, hσ, h⟩
    unfold ev at h
    exact h.here hσ (g3 W)
  · cases h4
theorem ad_non {j : Nat} : PE X (.Constant .none j pos) (Te X Φ ea Wx .non) := pe_non.imp fun st H Q ⟨W, ρ, σ, hρ, hσ, h⟩ => by unfold ev at h; exact h.here hσ (by simp only [Rep])
theorem ad_bl {j : Nat} {v : Bool} : PE X (.Constant (.bool v) j pos) (Te X Φ ea Wx (.bl v)) := pe_bl.imp fun st H Q ⟨W, ρ, σ, hρ, hσ, h⟩ => by unfold ev at h; exact h.here hσ (by simp only [Rep])
theorem ad_int {j : Nat} {v : Int} : PE X (.Constant (.int v) j pos) (Te X Φ ea Wx (.int v)) := pe_int.imp fun st H Q ⟨W, ρ, σ, hρ, hσ, h⟩ => by unfold ev at h; exact h.here hσ (by simp only [Rep])
theorem ad_str {j : Nat} {v : Str} : PE X (.Constant (.str v) j pos) (Te X Φ ea Wx (.str v)) := pe_str.imp fun st H Q ⟨W, ρ, σ, hρ, hσ, h⟩ => by unfold ev at h; exact h.here hσ (by simp only [Rep])
theorem ad_bin (C : Pc X g N Φ ea k Wx sc) {o : BOp} (ha : PE X a (Te X Φ ea Wx a')) (hb : PE X b (Te X Φ ea Wx b')) : PE X (.BinOp a o.py b pos) (Te X Φ ea Wx (.bin o a' b')) := by
  refine PE.impS (fun st0 => pe_op (op_bin (ea := ea) (Wx := Wx) (st0 := st0) o) ha hb) ?_
  rintro st H Q ⟨W, ρ, σ, hρ, hσ, h⟩
  unfold ev at h
  exact tE.bind hρ hσ h fun x σ1 W1 v H1 le1 hσ1 r1 h1 => tE.bind (hρ.mono le1) hσ1 h1 fun y σ2 W2 u H2 le2 hσ2 r2 h2 => ⟨W2, σ2, x, y, hσ2, r1.mono le2, r2, h2⟩
theorem ad_neg (ha : PE X a (Te X Φ ea Wx a')) : PE X (.UnaryOp .USub a pos) (Te X Φ ea Wx (.neg a')) := by
  refine (pe_un un_neg ha).imp ?_
  rintro st H Q ⟨W, ρ, σ, hρ, hσ, h⟩
  unfold ev at h
  refine tE.bind hρ hσ h fun x σ1 W1 v H1 le1 hσ1 r1 h1 => ?_
  cases x with
  | int i =>
    simp only [Rep] at r1
    exact ⟨i, r1, h1.here hσ1 (by simp only [Rep])⟩
  | _ => exact False.elim h1
theorem ad_cmp (C : Pc X g N Φ ea k Wx sc) {o : COp} (hm : behindInMarks o.py b = false) (ha : PE X a (Te X Φ ea Wx a')) (hb : PE X b (Te X Φ ea Wx b')) : PE X (.Compare a [o.py] [b] pos) (Te X Φ ea Wx (.cmp o a' b')) ∧ PT X (.Compare a [o.py] [b] pos) (Tt X Φ ea Wx (.cmp o a' b')) := by
  constructor
  · refine PE.impS (fun st0 => pe_cmpR (op_cmp (ea := ea) (Wx := Wx) (st0 := st0) C.pl o) ha hb hm) ?_
    rintro st H Q ⟨W, ρ, σ, hρ, hσ, h⟩
    unfold ev at h
    exact tE.bind hρ hσ h fun x σ1 W1 v H1 le1 hσ1 r1 h1 => tE.bind (hρ.mono le1) hσ1 h1 fun y σ2 W2 u H2 le2 hσ2 r2 h2 => ⟨W2, σ2, x, y, hσ2, r1.mono le2, r2, h2⟩
  · refine PT.impS (fun st0 => pt_cmpR (op_cmp (ea := ea) (Wx := Wx) (st0 := st0) C.pl o) ha hb hm) ?_
    rintro st H Q ⟨W, ρ, σ, hρ, hσ, h⟩
    have h : TPost X.prog X.w X.K ea Wx st W (ev Φ (.cmp o a' b') ρ σ) Q := h
    unfold ev at h
    exact TPost.bindE hρ hσ h fun x σ1 W1 v H1 le1 hσ1 r1 h1 => TPost.bindE (hρ.mono le1) hσ1 h1 fun y σ2 W2 u H2 le2 hσ2 r2 h2 => ⟨W2, σ2, x, y, hσ2, r1.mono le2, r2, tpost_cmp h2⟩
theorem chain_post {o : COp} {x y : D} {W : Wd} {σ : Store} {H : Hp} {st : L2.St} {kk : D → Store → Res D} {Q : VK} (hσ : Rel X.prog X.w X.K W σ H) (h : Post X.prog X.w X.K ea Wx st W ((cmpD o x y σ).bind kk) Q) :
    Post X.prog X.w X.K ea Wx st W (cmpD o x y σ) fun z H3 => ∃ b, z = .bl b ∧ ∃ W3, Le W W3 ∧ Rel X.prog X.w X.K W3 σ H3 ∧ Post X.prog X.w X.K ea Wx st W3 (kk (.bl b) σ) Q := by
  cases e : cmpD o x y σ with
  | ok d σ1 =>
    obtain ⟨b, rfl, rfl⟩ := cmpD_bl e
    rw [e] at h
    intro W' v H' le r rd
    simp only [Rep] at rd
    exact ⟨b, rd, W', le, r, Post.mono le h⟩
  | exc c d σ1 => exact (cmpD_exc e).elim
  | bad => rw [e] at h; exact h
theorem chain_tpost {o : COp} {x y : D} {W : Wd} {σ : Store} {H : Hp} {st : L2.St} {kk : D → Store → Res D} {Q : Bool → Hp → Prop} (hσ : Rel X.prog X.w X.K W σ H) (h : TPost X.prog X.w X.K ea Wx st W ((cmpD o x y σ).bind kk) Q) :
    Post X.prog X.w X.K ea Wx st W (cmpD o x y σ) fun z H3 => ∃ b, z = .bl b ∧ ∃ W3, Le W W3 ∧ Rel X.prog X.w X.K W3 σ H3 ∧ TPost X.prog X.w X.K ea Wx st W3 (kk (.bl b) σ) Q := by
  cases e : cmpD o x y σ with
  | ok d σ1 =>
    obtain ⟨b, rfl, rfl⟩ := cmpD_bl e
    rw [e] at h
    intro W' v H' le r rd
    simp only [Rep] at rd
    exact ⟨b, rd, W', le, r, TPost.mono le h⟩
  | exc c d σ1 => exact (cmpD_exc e).elim
  | bad => rw [e] at h; exact h
theorem post_mono {W : Wd} {st : L2.St} {r : Res D} {Q Q' : VK} (h : Post X.prog X.w X.K ea Wx st W r Q) (i : ∀ v H, Q v H → Q' v H) : Post X.prog X.w X.K ea Wx st W r Q' := by
  cases r with
  | ok d σ => exact fun W' v H l r rd => i _ _ (h W' v H l r rd)
  | exc c d σ => exact h
  | bad => exact h
theorem ad_chain (C : Pc X g N Φ ea k Wx sc) {o o2 : COp} (hm : lastMarks [o.py, o2.py] [b, c] = false) (ha : PE X a (Te X Φ ea Wx a')) (hb : PE X b (Te X Φ ea Wx b')) (hc : PE X c (Te X Φ ea Wx c')) :
    PE X (.Compare a [o.py, o2.py] [b, c] pos) (Te X Φ ea Wx (.chain o o2 a' b' c')) ∧ PT X (.Compare a [o.py, o2.py] [b, c] pos) (Tt X Φ ea Wx (.chain o o2 a' b' c')) := by
  constructor
  · refine PE.impS (fun st0 => pe_chain (op_cmp (ea := ea) (Wx := Wx) (st0 := st0) C.pl o) (op_cmp (ea := ea) (Wx := Wx) (st0 := st0) C.pl o2) ha hb hc hm) ?_
    rintro st H Q ⟨W, ρ, σ, hρ, hσ, h⟩
    unfold ev at h
    refine tE.bind hρ hσ h fun x σ1 W1 v H1 le1 hσ1 r1 h1 => tE.bind (hρ.mono le1) hσ1 h1 fun y σ2 W2 u H2 le2 hσ2 r2 h2 => ⟨W2, σ2, x, y, hσ2, r1.mono le2, r2, post_mono (chain_post hσ2 h2) ?_⟩
    rintro z H3 ⟨b, rfl, W3, le3, hσ3, h3⟩
    refine ⟨b, rfl, ?_⟩
    cases b with
    | true => exact tE.bind ((hρ.mono le1).mono (le2.trans le3)) hσ3 h3 fun y' σ4 W4 u' H4 le4 hσ4 r4 h4 => ⟨W4, σ4, y, y', hσ4, r2.mono (le3.trans le4), r4, h4⟩
    | false => exact h3.here hσ3 (by simp only [Rep])
  · refine PT.impS (fun st0 => pt_chain (op_cmp (ea := ea) (Wx := Wx) (st0 := st0) C.pl o) (op_cmp (ea := ea) (Wx := Wx) (st0 := st0) C.pl o2) ha hb hc hm) ?_
    rintro st H Q ⟨W, ρ, σ, hρ, hσ, h⟩
    have h : TPost X.prog X.w X.K ea Wx st W (ev Φ (.chain o o2 a' b' c') ρ σ) Q := h
    unfold ev at h
    refine TPost.bindE hρ hσ h fun x σ1 W1 v H1 le1 hσ1 r1 h1 => TPost.bindE (hρ.mono le1) hσ1 h1 fun y σ2 W2 u H2 le2 hσ2 r2 h2 => ⟨W2, σ2, x, y, hσ2, r1.mono le2, r2, post_mono (chain_tpost hσ2 h2) ?_⟩
    rintro z H3 ⟨b, rfl, W3, le3, hσ3, h3⟩
    refine ⟨b, rfl, ?_⟩
    cases b with
    | true => exact TPost.bindE ((hρ.mono le1).mono (le2.trans le3)) hσ3 h3 fun y' σ4 W4 u' H4 le4 hσ4 r4 h4 => ⟨W4, σ4, y, y', hσ4, r2.mono (le3.trans le4), r4, tpost_cmp h4⟩
    | false => exact ⟨false, rfl, h3.here hσ3 rfl⟩
/-! and, or, not, if -/
theorem ad_not (ha : PE X a (Te X Φ ea Wx a')) (ht : PT X a (Tt X Φ ea Wx a')) : PE X (.UnaryOp .Not a pos) (Te X Φ ea Wx (.not a')) ∧ PT X (.UnaryOp .Not a pos) (Tt X Φ ea Wx (.not a')) := by
  constructor
  · refine ⟨fun pins s st H Q I q => ?_⟩
    obtain ⟨W, ρ, σ, hρ, hσ, h⟩ := q
    unfold ev at h
    refine PyProof.Rows.UnaryOp_ (thn (ha.run pins s st H (fun v H1 => ∃ b, TruV X.K v H1 b ∧ Q (.bl (!b)) H1) I ?_) fun v s1 ⟨x, H1, I1, r1, b, t1, q1⟩ => PyProof.Rows.not_of (thn (tru_ok pins s1 st H1 x v _ I1 r1 ⟨b, t1, q1⟩) fun c s2 ⟨H2, I2, q2⟩ => ⟨.bl (!c), H2, I2, rfl, q2⟩))
    · exact tE.bind hρ hσ h fun x σ1 W1 v H1 le1 hσ1 r1 h1 => by
        split at h1
        · rename_i b hb
          exact ⟨b, hσ1.tru r1 rfl hb, h1.here hσ1 (by simp only [Rep])⟩
        · exact False.elim h1
  · refine (pt_not ht).imp ?_
    rintro st H Q ⟨W, ρ, σ, hρ, hσ, h⟩
    have h : TPost X.prog X.w X.K ea Wx st W (ev Φ (.not a') ρ σ) Q := h
    unfold ev at h
    refine ⟨W, ρ, σ, hρ, hσ, ?_⟩
    cases e : ev Φ a' ρ σ with
    | ok d σ1 =>
      rw [e] at h
      have h : TPost X.prog X.w X.K ea Wx st W (match truthD (view σ1 d) with
        | some b => .ok (.bl (!b)) σ1
        | none => .bad) Q := h
      cases q : truthD (view σ1 d) with
      | none => rw [q] at h; exact False.elim h
      | some b =>
        rw [q] at h
        exact ⟨b, q, fun W1 H1 le r => (TPost.mono le h).here r rfl⟩
    | exc c d σ1 => rw [e] at h; exact h
    | bad => rw [e] at h; exact h
theorem ad_and {r : List Expr} (ha : PE X a (Te X Φ ea Wx a')) (hb : PE X (.BoolOp .And (b :: r) pos) (Te X Φ ea Wx b')) : PE X (.BoolOp .And (a :: b :: r) pos) (Te X Φ ea Wx (.and a' b')) := by
  refine ⟨fun pins s st H Q I q => ?_⟩
  obtain ⟨W, ρ, σ, hρ, hσ, h⟩ := q
  unfold ev at h
  refine PyProof.Rows.BoolOp_and (thn (ha.run pins s st H (fun v H1 => ∃ t, TruV X.K v H1 t ∧ if t = true then Te X Φ ea Wx b' st H1 Q else Q v H1) I ?_) fun v s1 ⟨x, H1, I1, r1, t, t1, q1⟩ => thn (tru_ok pins s1 st H1 x v (fun c H2 => if c = true then Te X Φ ea Wx b' st H2 Q else Q x H2) I1 r1 ⟨t, t1, q1⟩) fun c s2 ⟨H2, I2, q2⟩ => ?_)
  · exact tE.bind hρ hσ h fun x σ1 W1 v H1 le1 hσ1 r1 h1 => by
      split at h1
      · rename_i hb
        exact ⟨true, hσ1.tru r1 rfl hb, ⟨W1, ρ, σ1, hρ.mono le1, hσ1, h1⟩⟩
      · rename_i hb
        exact ⟨false, hσ1.tru r1 rfl hb, h1.here hσ1 r1⟩
      · exact False.elim h1
  · cases c with
    | true => exact hb.run pins s2 st H2 Q I2 q2
    | false => exact ⟨x, H2, I2, r1, q2⟩
theorem ad_or {r : List Expr} (ha : PE X a (Te X Φ ea Wx a')) (hb : PE X (.BoolOp .Or (b :: r) pos) (Te X Φ ea Wx b')) : PE X (.BoolOp .Or (a :: b :: r) pos) (Te X Φ ea Wx (.or a' b')) := by
  refine ⟨fun pins s st H Q I q => ?_⟩
  obtain ⟨W, ρ, σ, hρ, hσ, h⟩ := q
  unfold ev at h
  refine PyProof.Rows.BoolOp_or (thn (ha.run pins s st H (fun v H1 => ∃ t, TruV X.K v H1 t ∧ if t = true then Q v H1 else Te X Φ ea Wx b' st H1 Q) I ?_) fun v s1 ⟨x, H1, I1, r1, t, t1, q1⟩ => thn (tru_ok pins s1 st H1 x v (fun c H2 => if c = true then Q x H2 else Te X Φ ea Wx b' st H2 Q) I1 r1 ⟨t, t1, q1⟩) fun c s2 ⟨H2, I2, q2⟩ => ?_)
  · exact tE.bind hρ hσ h fun x σ1 W1 v H1 le1 hσ1 r1 h1 => by
      split at h1
      · rename_i hb
        exact ⟨true, hσ1.tru r1 rfl hb, h1.here hσ1 r1⟩
      · rename_i hb
        exact ⟨false, hσ1.tru r1 rfl hb, ⟨W1, ρ, σ1, hρ.mono le1, hσ1, h1⟩⟩
      · exact False.elim h1
  · cases c with
    | true => exact ⟨x, H2, I2, r1, q2⟩
    | false => exact hb.run pins s2 st H2 Q I2 q2
theorem adw_and {r : List Expr} (ha : PT X a (Tt X Φ ea Wx a')) (hb : PW X (.BoolOp .And (b :: r) pos) (Tt X Φ ea Wx b')) : PW X (.BoolOp .And (a :: b :: r) pos) (Tt X Φ ea Wx (.and a' b')) := by
  refine (pw_and ha hb).imp ?_
  rintro st H Q ⟨W, ρ, σ, hρ, hσ, h⟩
  have h : TPost X.prog X.w X.K ea Wx st W (ev Φ (.and a' b') ρ σ) Q := h
  unfold ev at h
  refine TPost.bindT (k1 := fun _ σ1 => ev Φ b' ρ σ1) (k2 := fun x σ1 => .ok x σ1) hρ hσ h fun d b σ1 W1 H1 hb le1 hσ1 h1 => ?_
  cases b with
  | true => exact ⟨W1, ρ, σ1, hρ.mono le1, hσ1, h1⟩
  | false => exact h1.here hσ1 hb
theorem adw_or {r : List Expr} (ha : PT X a (Tt X Φ ea Wx a')) (hb : PW X (.BoolOp .Or (b :: r) pos) (Tt X Φ ea Wx b')) : PW X (.BoolOp .Or (a :: b :: r) pos) (Tt X Φ ea Wx (.or a' b')) := by
  refine (pw_or ha hb).imp ?_
  rintro st H Q ⟨W, ρ, σ, hρ, hσ, h⟩
  have h : TPost X.prog X.w X.K ea Wx st W (ev Φ (.or a' b') ρ σ) Q := h
  unfold ev at h
  refine TPost.bindT (k1 := fun x σ1 => .ok x σ1) (k2 := fun _ σ1 => ev Φ b' ρ σ1) hρ hσ h fun d b σ1 W1 H1 hb le1 hσ1 h1 => ?_
  cases b with
  | true => exact h1.here hσ1 hb
  | false => exact ⟨W1, ρ, σ1, hρ.mono le1, hσ1, h1⟩
theorem ad_ite (ht : PT X c (Tt X Φ ea Wx c')) (ha : PE X a (Te X Φ ea Wx a')) (hb : PE X b (Te X Φ ea Wx b')) : PE X (.IfExp c a b pos) (Te X Φ ea Wx (.ite c' a' b')) := by
  refine (pe_ifExp ht ha hb).imp ?_
  rintro st H Q ⟨W, ρ, σ, hρ, hσ, h⟩
  unfold ev at h
  refine tT.bind (k1 := fun σ1 => ev Φ a' ρ σ1) (k2 := fun σ1 => ev Φ b' ρ σ1) hρ hσ h fun b σ1 W1 H1 le1 hσ1 h1 => ?_
  cases b <;> exact ⟨W1, ρ, σ1, hρ.mono le1, hσ1, h1⟩
theorem adt_ite (ht : PT X c (Tt X Φ ea Wx c')) (ha : PT X a (Tt X Φ ea Wx a')) (hb : PT X b (Tt X Φ ea Wx b')) : PT X (.IfExp c a b pos) (Tt X Φ ea Wx (.ite c' a' b')) := by
  refine ⟨fun pins s st H Q I q => ?_⟩
  obtain ⟨W, ρ, σ, hρ, hσ, h⟩ := q
  have h : TPost X.prog X.w X.K ea Wx st W (ev Φ (.ite c' a' b') ρ σ) Q := h
  unfold ev at h
  refine PyProof.Rows.isTrue_IfExp (thn (ht.run pins s st H (fun t H1 => if t = true then Tt X Φ ea Wx a' st H1 Q else Tt X Φ ea Wx b' st H1 Q) I ?_) fun t s1 ⟨H1, I1, q1⟩ => ?_)
  · refine TPost.bindT (k1 := fun _ σ1 => ev Φ a' ρ σ1) (k2 := fun _ σ1 => ev Φ b' ρ σ1) hρ hσ h fun d b σ1 W1 H1 hb le1 hσ1 h1 => ?_
    cases b <;> exact ⟨W1, ρ, σ1, hρ.mono le1, hσ1, h1⟩
  · cases t with
    | true => exact ha.run pins s1 st H1 Q I1 q1
    | false => exact hb.run pins s1 st H1 Q I1 q1
/-- any other form, as a test -/
theorem adt_plain {e : Expr} {e' : Ex} (he : PE X e (Te X Φ ea Wx e')) (h : ∀ whole, isTrue e X.env whole = (do let v ← whole; standAt e.pos; holding [v] (truthy v))) : PT X e (Tt X Φ ea Wx e') := (pt_truth he h).imp fun st H Q q => tT_truth q
end
end Iv

set_option Elab.async false
set_option linter.all false
set_option maxHeartbeats 4000000
/-! adequacy: displays, subscripts, calls -/
namespace Iv
open PySem PySem.Spec L2
section
variable {X : Cx} {g : Sg} {N : List Str} {Φ : CallSem} {ea : Exa} {k : Nat} {Wx : WX} {sc : Scope} {pos p2 : Pos}
variable {a b c : Expr} {a' b' c' : Ex} {es : List Expr} {es' : List Ex}
/-! argument lists -/
theorem ada_nil : PA X [] (Ta X Φ ea Wx []) := pa_nil.imp fun st H Q ⟨W, ρ, σ, hρ, hσ, h⟩ => by
  unfold evs at h
  exact h W [] H (Le.refl W) hσ Reps.nil
theorem evs_cons {e : Ex} {r : List Ex} {ρ : Env} {σ : Store} (hs : e.isStar = false) : evs Φ (e :: r) ρ σ = (ev Φ e ρ σ).bind fun x σ1 => (evs Φ r ρ σ1).bind fun ds σ2 => .ok (x :: ds) σ2 := by
  rw [evs]
  congr 1
  funext x σ1
  rw [hs]
  rfl
theorem posts_cons {W : Wd} {st : L2.St} {r : Res (List D)} {v : V} {d : D} {Q : List V → Hp → Prop} (rd : Rep X.prog X.w X.K W d v) (h : Posts X.prog X.w X.K ea Wx st W (r.bind fun ds σ2 => .ok (d :: ds) σ2) Q) : Posts X.prog X.w X.K ea Wx st W r fun vs H => Q (v :: vs) H := by
  cases r with
  | ok ds σ => exact fun W' vs H le r q => h W' (v :: vs) H le r (Reps.cons (rd.mono le) q)
  | exc c d σ => exact h
  | bad => exact h
theorem posts_app {W : Wd} {st : L2.St} {r : Res (List D)} {vs : List V} {ds : List D} {Q : List V → Hp → Prop} (rd : Reps X.prog X.w X.K W ds vs) (h : Posts X.prog X.w X.K ea Wx st W (r.bind fun es σ2 => .ok (ds ++ es) σ2) Q) : Posts X.prog X.w X.K ea Wx st W r fun us H => Q (vs ++ us) H := by
  cases r with
  | ok es σ => exact fun W' us H le r q => h W' (vs ++ us) H le r ((rd.mono le).append q)
  | exc c d σ => exact h
  | bad => exact h
theorem ada_cons (hn : noStar [a] = true) (hs : a'.isStar = false) (ha : PE X a (Te X Φ ea Wx a')) (hr : PA X es (Ta X Φ ea Wx es')) : PA X (a :: es) (Ta X Φ ea Wx (a' :: es')) := by
  refine (pa_cons ha hr (starEach_ns hn)).imp ?_
  rintro st H Q ⟨W, ρ, σ, hρ, hσ, h⟩
  rw [evs_cons hs] at h
  exact tE.bindA hρ hσ h fun x σ1 W1 v H1 le1 hσ1 r1 h1 => ⟨W1, ρ, σ1, hρ.mono le1, hσ1, posts_cons r1 h1⟩
theorem ada_star (ha : PE X a (Te X Φ ea Wx a')) (hr : PA X es (Ta X Φ ea Wx es')) : PA X (.Starred a pos :: es) (Ta X Φ ea Wx (.star a' :: es')) := by
  refine (StX.pa_star ha hr).imp ?_
  rintro st H Q ⟨W, ρ, σ, hρ, hσ, h⟩
  rw [evs] at h
  have h : Posts X.prog X.w X.K ea Wx st W ((ev Φ a' ρ σ).bind fun x σ1 => match splice true x σ1 with
    | some xs => (evs Φ es' ρ σ1).bind fun ds σ2 => .ok (xs ++ ds) σ2
    | none => .bad) Q := by rw [ev] at h; exact h
  refine tE.bindA hρ hσ h fun x σ1 W1 v H1 le1 hσ1 r1 h1 => ?_
  unfold splice at h1
  dsimp only at h1
  split at h1
  · rename_i xs e
    split at e
    · rename_i ys hy
      cases e
      obtain ⟨p, vs, rfl, s1, q⟩ := hσ1.lst r1 hy
      exact ⟨p, vs, rfl, .inr (SqL.of s1), W1, ρ, σ1, hρ.mono le1, hσ1, posts_app q h1⟩
    · rename_i ys hy
      cases e
      obtain ⟨p, vs, rfl, s1, q⟩ := hσ1.tup r1 hy
      exact ⟨p, vs, rfl, .inl s1, W1, ρ, σ1, hρ.mono le1, hσ1, posts_app q h1⟩
    · cases e
  · exact False.elim h1
/-! keywords -/
theorem adk_nil : PK X [] (Ta X Φ ea Wx []) := pk_nil.imp fun st H Q ⟨W, ρ, σ, hρ, hσ, h⟩ => by
  unfold evs at h
  exact h W [] H (Le.refl W) hσ Reps.nil
theorem adk_cons {kw : Keyword} {ks : List Keyword} (hs : a'.isStar = false) (ha : PE X kw.value (Te X Φ ea Wx a')) (hr : PK X ks (Ta X Φ ea Wx es')) : PK X (kw :: ks) (Ta X Φ ea Wx (a' :: es')) := by
  obtain ⟨nm, v, kp⟩ := kw
  refine (pk_cons ha hr).imp ?_
  rintro st H Q ⟨W, ρ, σ, hρ, hσ, h⟩
  rw [evs_cons hs] at h
  exact tE.bindA hρ hσ h fun x σ1 W1 v H1 le1 hσ1 r1 h1 => ⟨W1, ρ, σ1, hρ.mono le1, hσ1, posts_cons r1 h1⟩
/-! displays -/
theorem ad_tup {j : Nat} (h : PA X es (Ta X Φ ea Wx es')) : PE X (.Tuple es j pos) (Te X Φ ea Wx (.tup es')) := by
  refine (pe_tupF h).imp ?_
  rintro st H Q ⟨W, ρ, σ, hρ, hσ, h⟩
  unfold ev at h
  exact tA.bind hρ hσ h fun ds σ1 W1 vs H1 le1 hσ1 r1 h1 => h1.newT hσ1 r1
theorem ad_lst {mu : Bool} (h : PA X es (Ta X Φ ea Wx es')) : PE X (.List es pos) (Te X Φ ea Wx (.lst mu es')) := by
  refine (pe_lst h).imp ?_
  rintro st H Q ⟨W, ρ, σ, hρ, hσ, h⟩
  unfold ev at h
  exact tA.bind hρ hσ h fun ds σ1 W1 vs H1 le1 hσ1 r1 h1 => h1.newL hσ1 r1
/-! subscripts -/
theorem ad_idx (C : Pc X g N Φ ea k Wx sc) (hp : plainIx b = true) (ha : PE X a (Te X Φ ea Wx a')) (hb : PE X b (Te X Φ ea Wx b')) : PE X (.Subscript a b pos) (Te X Φ ea Wx (.idx a' b')) := by
  refine PE.impS (fun st0 => pe_ix (ix_all (ea := ea) (Wx := Wx) (st0 := st0) C.pl) ha hb ?_) ?_
  · intro o i
    cases b <;> first | rfl | cases hp
  rintro st H Q ⟨W, ρ, σ, hρ, hσ, h⟩
  unfold ev at h
  exact tE.bind hρ hσ h fun x σ1 W1 v H1 le1 hσ1 r1 h1 => tE.bind (hρ.mono le1) hσ1 h1 fun y σ2 W2 u H2 le2 hσ2 r2 h2 => ⟨W2, σ2, x, y, hσ2, r1.mono le2, r2, h2⟩
theorem ad_slice {mu : Bool} {lo hi : Option Expr} {lo' hi' : Ex} (ha : PE X a (Te X Φ ea Wx a')) (hl : PO X lo (To X Φ ea Wx lo')) (hh : PO X hi (To X Φ ea Wx hi')) : PE X (.Subscript a (.Slice lo hi none p2) pos) (Te X Φ ea Wx (.slice mu a' lo' hi')) := by
  refine PE.impS (fun st0 => pe_slice (sl_all (ea := ea) (Wx := Wx) (st0 := st0) (mu := mu)) ha hl hh) ?_
  rintro st H Q ⟨W, ρ, σ, hρ, hσ, h⟩
  unfold ev at h
  exact tE.bind hρ hσ h fun x σ1 W1 v H1 le1 hσ1 r1 h1 =>
    tO.bind (k := fun l σ2 => (ev Φ hi' ρ σ2).bind fun h σ3 => if (optI h).isSome then sliceD mu x l h σ3 else .bad) (hρ.mono le1) hσ1 h1 fun l lo σ2 W2 H2 le2 hσ2 e2 h2 =>
    tO.bind (k := fun h σ3 => sliceD mu x l h σ3) ((hρ.mono le1).mono le2) hσ2 h2 fun u hi σ3 W3 H3 le3 hσ3 e3 h3 => ⟨W3, σ3, x, l, u, hσ3, (r1.mono le2).mono le3, e2, e3, h3⟩
theorem ado_none : PO X none (To X Φ ea Wx .nop) := po_none.imp fun st H Q ⟨W, ρ, σ, hρ, hσ, h⟩ => by
  unfold ev at h
  obtain ⟨o, e, h⟩ := h
  cases e
  exact h W H (Le.refl W) hσ
/-- a part that is written: an int -/
theorem ado_some (ha : PE X a (Te X Φ ea Wx a')) : PO X (some a) (fun st H Q => ∃ W ρ σ, EnvR X.prog X.w X.K W ρ st ∧ Rel X.prog X.w X.K W σ H ∧ match ev Φ a' ρ σ with
    | .ok d σ' => ∃ i, d = .int i ∧ ∀ W' H', Le W W' → Rel X.prog X.w X.K W' σ' H' → Q (some i) H'
    | .exc c d σ' => ∀ W' H cls dx, Le W W' → Rel X.prog X.w X.K W' σ' H → ExcR X.prog X.w X.K ea W' c d cls dx H → Wx cls dx st H
    | .bad => False) := (po_some ha).imp fun st H Q ⟨W, ρ, σ, hρ, hσ, h⟩ => by
  refine ⟨W, ρ, σ, hρ, hσ, ?_⟩
  cases e : ev Φ a' ρ σ with
  | ok d σ1 =>
    rw [e] at h
    obtain ⟨i, rfl, h⟩ := h
    intro W' v H' le r rd
    simp only [Rep] at rd
    exact ⟨i, rd, h W' H' le r⟩
  | exc c d σ1 => rw [e] at h; exact h
  | bad => rw [e] at h; exact h
theorem ad_rev {mu : Bool} {j : Nat} {p1 p3 : Pos} (ha : PE X a (Te X Φ ea Wx a')) : PE X (.Subscript a (.Slice none none (some (.UnaryOp .USub (.Constant (.int 1) j p1) p2)) p3) pos) (Te X Φ ea Wx (.rev mu a')) := by
  refine (pe_revL ha).imp ?_
  rintro st H Q ⟨W, ρ, σ, hρ, hσ, h⟩
  unfold ev at h
  refine tE.bind hρ hσ h fun x σ1 W1 v H1 le1 hσ1 r1 h1 => ?_
  unfold revD at h1
  split at h1
  · rename_i xs e
    obtain ⟨p, vs, rfl, s1, q⟩ := hσ1.lst r1 e
    exact ⟨p, vs, rfl, SqL.of s1, (h1.newL hσ1 q.reverse).2⟩
  · rename_i xs e
    obtain ⟨p, vs, rfl, s1, q⟩ := hσ1.ro r1 e
    exact ⟨p, vs, rfl, s1, (h1.newL hσ1 q.reverse).2⟩
  · exact False.elim h1
/-! calls -/
theorem ad_bi (C : Pc X g N Φ ea k Wx sc) {b : Bi} {mu : Bool} {p : Pos} (hg : gloC sc b.name = true) (hs : noStar [a] = true) (ha : PE X a (Te X Φ ea Wx a')) : PE X (.Call (.Name b.name p) [a] [] pos) (Te X Φ ea Wx (.bi b mu a')) := by
  refine PE.impS (fun st0 => pe_bi C (call_bi (ea := ea) (Wx := Wx) (st0 := st0) C.pl C.sy b mu) hg ha hs) ?_
  rintro st H Q ⟨W, ρ, σ, hρ, hσ, h⟩
  unfold ev at h
  exact tE.bind hρ hσ h fun x σ1 W1 v H1 le1 hσ1 r1 h1 => ⟨W1, σ1, x, v, rfl, hσ1, r1, h1⟩
theorem ad_is1 (C : Pc X g N Φ ea k Wx sc) {t : Ty} {p q : Pos} (hg : gloC sc "isinstance" = true) (hy : gloC sc t.nm = true) (hs : noStar [a] = true) (ha : PE X a (Te X Φ ea Wx a')) : PE X (.Call (.Name "isinstance" p) [a, .Name t.nm q] [] pos) (Te X Φ ea Wx (.isi a' [t])) := by
  refine PE.impS (fun st0 => pe_is1 C (st0 := st0) (Wx := Wx) (ea := ea) hg hy hs ha) ?_
  rintro st H Q ⟨W, ρ, σ, hρ, hσ, h⟩
  unfold ev at h
  exact tE.bind hρ hσ h fun x σ1 W1 v H1 le1 hσ1 r1 h1 => ⟨W1, σ1, x, hσ1, r1, h1⟩
theorem ad_isN (C : Pc X g N Φ ea k Wx sc) {ts : List Expr} {tys : List Ty} {p q : Pos} {j : Nat} (hg : gloC sc "isinstance" = true) (hy : tyNames sc ts tys = true) (hs : noStar [a] = true) (hl : tys.length ≤ lim) (ha : PE X a (Te X Φ ea Wx a')) : PE X (.Call (.Name "isinstance" p) [a, .Tuple ts j q] [] pos) (Te X Φ ea Wx (.isi a' tys)) := by
  have hm : X.mg "isinstance" = none := C.blt _ (by decide +kernel)
  have hA : PA X [a, .Tuple ts j q] (tCons (Te X Φ ea Wx a') (tCons (tTup fun _ H Q => Q (tys.map fun t => V.ty t.name) H) tNil)) := pa_cons ha (pa_cons (pe_tup (pa_tys C hy)) pa_nil rfl) (starEach_ns hs)
  refine PE.impS (fun st0 => pe_callB (call_isN (ea := ea) (Wx := Wx) (st0 := st0) tys) (C.gl hg) hm (by first | rfl | kernel_rfl) hA (by decide +kernel) (by decide +kernel) (starEach_ns hs) rfl) ?_
  rintro st H Q ⟨W, ρ, σ, hρ, hσ, h⟩
  unfold ev at h
  refine tE.bind hρ hσ h fun x σ1 W1 v H1 le1 hσ1 r1 h1 => ⟨by rw [List.length_map, ← lim_eq]; exact hl, fun tp htp => ?_⟩
  exact ⟨W1.add tp (.tup (tys.map fun t => V.ty t.name)), σ1, x, v, tp, rfl, upd_same, hσ1.add htp, r1.mono (hσ1.leAdd htp), Post.mono (hσ1.leAdd htp) h1⟩
theorem evs_len : ∀ {es' : List Ex} {ρ : Env} {σ σ' : Store} {ds : List D}, (es'.all fun e => !e.isStar) = true → evs Φ es' ρ σ = .ok ds σ' → ds.length = es'.length
  | [], _, _, _, _, _, h => by unfold evs at h; cases h; rfl
  | e :: r, ρ, σ, σ', ds, hs, h => by
    rw [List.all_cons, Bool.and_eq_true, Bool.not_eq_true'] at hs
    rw [evs_cons hs.1] at h
    cases q : ev Φ e ρ σ with
    | ok x σ1 =>
      rw [q] at h
      have h : ((evs Φ r ρ σ1).bind fun ds σ2 => Res.ok (x :: ds) σ2) = .ok ds σ' := h
      cases q2 : evs Φ r ρ σ1 with
      | ok y σ2 =>
        rw [q2] at h
        cases h
        exact congrArg (· + 1) (evs_len hs.2 q2)
      | exc _ _ _ => rw [q2] at h; cases h
      | bad => rw [q2] at h; cases h
    | exc _ _ _ => rw [q] at h; cases h
    | bad => rw [q] at h; cases h
/-- as tA.bind, the outcome seen -/
theorem tA_bindE {f : Env → Store → Res (List D)} {kk : List D → Store → Res D} {Q : VK} {T : List V → Hp → Prop} {st : L2.St} {W : Wd} {ρ : Env} {σ : Store} {H : Hp} (hρ : EnvR X.prog X.w X.K W ρ st) (hσ : Rel X.prog X.w X.K W σ H) (h : Post X.prog X.w X.K ea Wx st W ((f ρ σ).bind kk) Q)
    (c : ∀ ds σ1 W1 vs H1, f ρ σ = .ok ds σ1 → Le W W1 → Rel X.prog X.w X.K W1 σ1 H1 → Reps X.prog X.w X.K W1 ds vs → Post X.prog X.w X.K ea Wx st W1 (kk ds σ1) Q → T vs H1) : tA X.prog X.w X.K ea Wx f st H T := by
  refine ⟨W, ρ, σ, hρ, hσ, ?_⟩
  cases e : f ρ σ with
  | ok d σ1 => rw [e] at h; exact fun W1 v H1 le r q => c d σ1 W1 v H1 e le r q (Post.mono le h)
  | exc c d σ1 => rw [e] at h; exact h
  | bad => rw [e] at h; exact h
theorem ad_call (C : Pc X g N Φ ea k Wx sc) {x : Str} {p : Pos} {ks : List Keyword} {ks' : List Ex} {f : Nat} {dv : List D} {pm : List Nat} {shs : List Shp} {sh : Shp} (hg : gloC sc x = true) (hn : nameOk x = true) (hs : noStar es = true) (ha : PA X es (Ta X Φ ea Wx es')) (hk : PK X ks (Ta X Φ ea Wx ks'))
    (la : es.length = es'.length ∧ (es'.all fun e => !e.isStar) = true) (lk : ks.length = ks'.length ∧ (ks'.all fun e => !e.isStar) = true)
    (hf : g.fns.lookup x = some (f, shs)) (hm : sh ∈ shs) (h1 : sh.np = es.length) (h2 : ks.map (·.arg) = sh.ks.map some) (h3 : sh.ds = dv) (h4 : sh.pm = pm) : PE X (.Call (.Name x p) es ks pos) (Te X Φ ea Wx (.call f es' ks' dv pm)) := by
  subst h3 h4
  obtain ⟨ad, fd, ps, np, hmg, hkp, F, hsh⟩ := C.calls x f shs hf
  obtain ⟨k1, k2, k3⟩ := kw_shape (env := X.env) (pos := pos) h2
  obtain ⟨s1, s2⟩ := plain_ns (env := X.env) (pos := pos) hs
  refine ⟨fun pins s st H Q I q => ?_⟩
  obtain ⟨W, ρ, σ, hρ, hσ, h⟩ := q
  unfold ev at h
  refine wpAny_Call_Name_kw (ld_glob I (C.gl hg) hmg ?_ (nameOk_dbg hn).1)
  have hh := tA_bindE (T := fun vs H1 => vs.length = es.length ∧ Ta X Φ ea Wx ks' st H1 fun zs H2 => zs.length = ks.length ∧ ∃ W2 σ2 xs ys, Rel X.prog X.w X.K W2 σ2 H2 ∧ Reps X.prog X.w X.K W2 xs vs ∧ Reps X.prog X.w X.K W2 ys zs ∧
      Post X.prog X.w X.K ea Wx st W2 (match permD (xs ++ ys ++ sh.ds) sh.pm with
        | some ds => Φ f ds σ2
        | none => .bad) Q) hρ hσ h fun xs σ1 W1 vs H1 e1 le1 hσ1 r1 h1 => ⟨by rw [← r1.length, evs_len la.2 e1, la.1], tA_bindE (hρ.mono le1) hσ1 h1 fun ys σ2 W2 zs H2 e2 le2 hσ2 r2 h2 => ⟨by rw [← r2.length, evs_len lk.2 e2, lk.1], W2, σ2, xs, ys, hσ2, r1.mono le2, r2, h2⟩⟩
  have lks : ks.length = sh.ks.length := by have := congrArg List.length h2; simpa using this
  have go : ∀ {us ws : List Value} {vs zs : List V} {H2 : Hp} {s2 : Shared}, Inv X pins st H2 s2 → Vals vs us → Vals zs ws → vs.length = es.length → (zs.length = ks.length ∧ ∃ W2 σ2 xs ys, Rel X.prog X.w X.K W2 σ2 H2 ∧ Reps X.prog X.w X.K W2 xs vs ∧ Reps X.prog X.w X.K W2 ys zs ∧
      Post X.prog X.w X.K ea Wx st W2 (match permD (xs ++ ys ++ sh.ds) sh.pm with
        | some ds => Φ f ds σ2
        | none => .bad) Q) → wpAny (model X.prog X.w) X.A (call (.ref ad) us (sh.ks.zip ws)) (EP X pins st Q) X.xe s2 := fun I2 r1 r2 l1 ⟨l2, W2, σ2, xs, ys, hσ2, q1, q2, hp⟩ =>
    run_call C F (hsh sh hm) I2 r1 r2 (by rw [← r1.length, l1, h1]) (by rw [← r2.length, l2, lks]) hσ2 q1 q2 hp
  cases es with
  | nil =>
    refine PySem.W.callWith_KW0 (h₀ := X.base) I.ok.mod.kin hkp k1 ?_ (by rw [k3]; rfl)
    obtain ⟨W', ρ', σ', hρ', hσ', hp⟩ := hh
    have := ha.run pos pins s st H _ I ⟨W', ρ', σ', hρ', hσ', hp⟩
    -- no argument: nothing is evaluated
    have hA := hp
    cases e' : es' with
    | cons _ _ => rw [e'] at la; simp at la
    | nil =>
      subst e'
      unfold evs at hA
      obtain ⟨l, hk2⟩ := hA W' [] H (Le.refl W') hσ' Reps.nil
      refine thn (hk.run pos pins s st H _ I hk2) fun ws s2 ⟨zs, H2, I2, rz, q2⟩ => ⟨I2.kIn, ?_⟩
      rw [k2]
      exact go I2 .nil rz l q2
  | cons e es =>
    obtain ⟨n1, n2⟩ := noStar_cons hs
    refine PySem.W.callWith_KW (h₀ := X.base) I.ok.mod.kin hkp k1 (thn (ha.run pos pins s st H _ I hh) fun us s1 ⟨vs, H1, I1, r1, l1, q1⟩ => ?_) (by rw [s1, k3]; rfl) (starEach_ns n1)
    refine thn (hk.run pos pins s1 st H1 _ I1 q1) fun ws s2 ⟨zs, H2, I2, rz, q2⟩ => ⟨I2.kIn, ?_⟩
    rw [k2]
    exact go I2 r1 rz l1 q2
/-! methods -/
theorem base_ok {o : Expr} {m : Str} {env : PySem.Env} (h : baseOk o = true) : attributeBase o m env (eval o env) = eval o env := by
  unfold attributeBase
  cases o with
  | Call fn args kws p =>
    cases fn with
    | Name x q =>
      cases args with
      | cons _ _ => rfl
      | nil =>
        cases kws with
        | cons _ _ => rfl
        | nil =>
          have h : (!(x == ("super" : Str))) = true := h
          have hx : (x != ("super" : Str)) = true := h
          simp only [hx, Bool.true_or, if_true]
    | _ => rfl
  | _ => rfl
/-! own classes -/
/-- an instance and its attributes -/
theorem obj_at {P : Program} {w : World} {K : PySem.W.Frag} {W : Wd} {σ : Store} {H : Hp} {n : Nat} {c : Str} {fs : List (Str × D)} (hσ : Rel P w K W σ H) (e : σ[n]? = some (.obj c fs)) :
    ClsF K (He.ga K c) ∧ (∀ x ∈ fs.map (·.1), NoAttr K (He.ga K c) x) ∧ ∃ vs dx, H (W.μ n) = some (.ins (He.ga K c) dx ((fs.map (·.1)).zip vs)) ∧ Reps P w K W (fs.map (·.2)) vs := hσ.cell n _ e
theorem lookup_obj {P : Program} {w : World} {K : PySem.W.Frag} {W : Wd} {x : Str} : ∀ {fs : List (Str × D)} {vs : List V} {d : D}, Reps P w K W (fs.map (·.2)) vs → fs.lookup x = some d → ∃ v, ((fs.map (·.1)).zip vs).lookup x = some v ∧ Rep P w K W d v ∧ x ∈ fs.map (·.1)
  | [], _, _, _, h => by cases h
  | (y, e) :: fs, [], _, r, _ => by have := r.length; simp at this
  | (y, e) :: fs, v :: vs, d, r, h => by
    obtain ⟨r1, r2⟩ := Reps.cons_iff.mp r
    rw [List.map_cons, List.zip_cons_cons]
    rw [List.lookup_cons] at h ⊢
    by_cases q : x = y
    · subst q
      simp only [beq_self_eq_true] at h ⊢
      cases h
      exact ⟨v, rfl, r1, List.mem_cons_self ..⟩
    · have q' : (x == y) = false := by simpa using q
      simp only [q'] at h ⊢
      obtain ⟨u, h1, h2, h3⟩ := lookup_obj r2 h
      exact ⟨u, h1, h2, List.mem_cons_of_mem _ h3⟩
theorem lookup_none_obj {x : Str} : ∀ {ks : List Str} {vs : List V}, x ∉ ks → (ks.zip vs).lookup x = none
  | [], vs, _ => by cases vs <;> rfl
  | k :: ks, [], _ => rfl
  | k :: ks, v :: vs, h => by
    rw [List.zip_cons_cons, List.lookup_cons]
    have q : (x == k) = false := by simpa using fun e => h (by rw [e]; exact List.mem_cons_self ..)
    rw [q]
    exact lookup_none_obj fun hm => h (List.mem_cons_of_mem _ hm)
theorem putF_zip {x : Str} {v : V} {d : D} : ∀ {fs : List (Str × D)} {vs : List V}, vs.length = fs.length → putF x v ((fs.map (·.1)).zip vs) = ((putO x d fs).map (·.1)).zip (if x ∈ fs.map (·.1) then vs.set ((fs.map (·.1)).idxOf x) v else vs ++ [v])
  | [], [], _ => by simp [putF, putO]
  | [], _ :: _, h => by simp at h
  | _ :: _, [], h => by simp at h
  | (y, e) :: fs, u :: vs, h => by
    have ih := putF_zip (x := x) (v := v) (d := d) (fs := fs) (vs := vs) (by simpa using h)
    rw [List.map_cons, List.zip_cons_cons]
    unfold putF putO
    by_cases q : y = x
    · subst q
      rw [if_pos rfl, if_pos rfl, if_pos (List.mem_cons_self ..)]
      simp
    · rw [if_neg q, if_neg q, ih, List.map_cons]
      have hm : (x ∈ y :: fs.map (·.1)) ↔ x ∈ fs.map (·.1) := by rw [List.mem_cons]; exact ⟨fun z => z.resolve_left fun e => q e.symm, .inr⟩
      by_cases hx : x ∈ fs.map (·.1)
      · rw [if_pos hx, if_pos (hm.mpr hx)]
        have : (y :: fs.map (·.1)).idxOf x = (fs.map (·.1)).idxOf x + 1 := by
          rw [List.idxOf_cons]
          have : (y == x) = false := by simpa using q
          rw [this]; rfl
        rw [this]
        rfl
      · rw [if_neg hx, if_neg fun z => hx (hm.mp z)]
        rfl
theorem putO_reps {P : Program} {w : World} {K : PySem.W.Frag} {W : Wd} {x : Str} {v : V} {d : D} (rv : Rep P w K W d v) : ∀ {fs : List (Str × D)} {vs : List V}, Reps P w K W (fs.map (·.2)) vs → Reps P w K W ((putO x d fs).map (·.2)) (if x ∈ fs.map (·.1) then vs.set ((fs.map (·.1)).idxOf x) v else vs ++ [v])
  | [], vs, r => by
    have : vs = [] := Reps.nil_iff.mp r
    subst this
    simpa [putO] using Reps.one rv
  | (y, e) :: fs, [], r => by have := r.length; simp at this
  | (y, e) :: fs, u :: vs, r => by
    obtain ⟨r1, r2⟩ := Reps.cons_iff.mp r
    have ih := putO_reps (x := x) rv r2
    unfold putO
    by_cases q : y = x
    · subst q
      rw [if_pos rfl, List.map_cons, List.map_cons, if_pos (List.mem_cons_self ..)]
      simpa using Reps.cons rv r2
    · rw [if_neg q]
      have hm : (x ∈ y :: fs.map (·.1)) ↔ x ∈ fs.map (·.1) := by rw [List.mem_cons]; exact ⟨fun z => z.resolve_left fun e => q e.symm, .inr⟩
      rw [List.map_cons]
      by_cases hx : x ∈ fs.map (·.1)
      · rw [if_pos hx] at ih
        rw [if_pos (by rw [List.map_cons]; exact hm.mpr hx)]
        have : (y :: fs.map (·.1)).idxOf x = (fs.map (·.1)).idxOf x + 1 := by
          rw [List.idxOf_cons]
          have : (y == x) = false := by simpa using q
          rw [this]; rfl
        rw [List.map_cons, this]
        exact Reps.cons r1 ih
      · rw [if_neg hx] at ih
        rw [if_neg (by rw [List.map_cons]; exact fun z => hx (hm.mp z))]
        exact Reps.cons r1 ih
theorem ad_fld {x : Str} (hb : baseOk a = true) (ha : PE X a (Te X Φ ea Wx a')) : PE X (.Attribute a x pos) (Te X Φ ea Wx (.fld a' x)) := by
  refine (pe_fld ha (base_ok hb)).imp ?_
  rintro st H Q ⟨W, ρ, σ, hρ, hσ, h⟩
  unfold ev at h
  refine tE.bind hρ hσ h fun y σ1 W1 v H1 le1 hσ1 r1 h1 => ?_
  unfold fldD at h1
  split at h1
  · rename_i n
    unfold fldC at h1
    split at h1
    · rename_i c fs e
      split at h1
      · rename_i d hd
        obtain ⟨c1, c2, vs, dx, c3, c4⟩ := obj_at hσ1 e
        simp only [Rep] at r1
        obtain ⟨_, rfl⟩ := r1
        obtain ⟨u, l1, l2, l3⟩ := lookup_obj c4 hd
        exact ⟨W1.μ n, He.ga X.K c, dx, _, u, rfl, c3, c1.cl, c2 x l3, l1, h1.here hσ1 l2⟩
      · exact False.elim h1
    · exact False.elim h1
  · exact False.elim h1
theorem ad_mk (C : Pc X g N Φ ea k Wx sc) {c : Str} {p : Pos} {ks : List Keyword} {ks' : List Ex} {f : Nat} {dv : List D} {pm : List Nat} {shs : List Shp} {sh : Shp} (hg : gloC sc c = true) (hn : nameOk c = true) (hs : noStar es = true) (ha : PA X es (Ta X Φ ea Wx es')) (hk : PK X ks (Ta X Φ ea Wx ks'))
    (la : es.length = es'.length ∧ (es'.all fun e => !e.isStar) = true) (lk : ks.length = ks'.length ∧ (ks'.all fun e => !e.isStar) = true)
    (hmk : g.mks.contains c = true) (hf : g.mes.lookup (c, ("__init__" : Str)) = some (f, shs)) (hm : sh ∈ shs) (h1 : sh.np = es.length + 1) (h2 : ks.map (·.arg) = sh.ks.map some) (h3 : sh.ds = dv) (h4 : sh.pm = pm) : PE X (.Call (.Name c p) es ks pos) (Te X Φ ea Wx (.mk c f es' ks' dv pm)) := by
  subst h3 h4
  obtain ⟨ad, fd, ps, np, hme, F, hsh⟩ := C.meths c _ f shs hf
  obtain ⟨CF, hmg, ad', M⟩ := C.makes c hmk
  have e0 : ad' = ad := by
    have q1 := M.init
    have q2 := hme.at_
    rw [q1] at q2
    simpa using q2
  subst e0
  have hkp := M.kp
  obtain ⟨k1, k2, k3⟩ := kw_shape (env := X.env) (pos := pos) h2
  obtain ⟨s1, s2⟩ := plain_ns (env := X.env) (pos := pos) hs
  refine ⟨fun pins s st H Q I q => ?_⟩
  obtain ⟨W, ρ, σ, hρ, hσ, h⟩ := q
  unfold ev at h
  refine wpAny_Call_Name_kw (ld_glob I (C.gl hg) hmg ?_ (nameOk_dbg hn).1)
  have hh := tA_bindE (T := fun vs H1 => vs.length = es.length ∧ Ta X Φ ea Wx ks' st H1 fun zs H2 => zs.length = ks.length ∧ ∃ W2 σ2 xs ys, Rel X.prog X.w X.K W2 σ2 H2 ∧ Reps X.prog X.w X.K W2 xs vs ∧ Reps X.prog X.w X.K W2 ys zs ∧
      Post X.prog X.w X.K ea Wx st W2 (match permD (.ref σ2.length :: (xs ++ ys ++ sh.ds)) sh.pm with
        | some ds => (Φ f ds (σ2 ++ [.obj c []])).bind fun r σ3 => match r with
          | .non => .ok (.ref σ2.length) σ3
          | _ => .bad
        | none => .bad) Q) hρ hσ h fun xs σ1 W1 vs H1 e1 le1 hσ1 r1 h1 => ⟨by rw [← r1.length, evs_len la.2 e1, la.1], tA_bindE (hρ.mono le1) hσ1 h1 fun ys σ2 W2 zs H2 e2 le2 hσ2 r2 h2 => ⟨by rw [← r2.length, evs_len lk.2 e2, lk.1], W2, σ2, xs, ys, hσ2, r1.mono le2, r2, h2⟩⟩
  have lks : ks.length = sh.ks.length := by have := congrArg List.length h2; simpa using this
  have go : ∀ {us ws : List Value} {vs zs : List V} {H2 : Hp} {s2 : Shared}, Inv X pins st H2 s2 → Vals vs us → Vals zs ws → vs.length = es.length → (zs.length = ks.length ∧ ∃ W2 σ2 xs ys, Rel X.prog X.w X.K W2 σ2 H2 ∧ Reps X.prog X.w X.K W2 xs vs ∧ Reps X.prog X.w X.K W2 ys zs ∧
      Post X.prog X.w X.K ea Wx st W2 (match permD (.ref σ2.length :: (xs ++ ys ++ sh.ds)) sh.pm with
        | some ds => (Φ f ds (σ2 ++ [.obj c []])).bind fun r σ3 => match r with
          | .non => .ok (.ref σ2.length) σ3
          | _ => .bad
        | none => .bad) Q) → wpAny (model X.prog X.w) X.A (call (.ref (He.ga X.K c)) us (sh.ks.zip ws)) (EP X pins st Q) X.xe s2 := fun I2 r1 r2 l1 ⟨l2, W2, σ2, xs, ys, hσ2, q1, q2, hp⟩ =>
    run_mk C M CF F (hsh sh hm) I2 r1 r2 (by rw [← r1.length, l1, h1]) (by rw [← r2.length, l2, lks]) hσ2 q1 q2 hp
  cases es with
  | nil =>
    refine PySem.W.callWith_KW0 (h₀ := X.base) I.ok.mod.kin hkp k1 ?_ (by rw [k3]; rfl)
    obtain ⟨W', ρ', σ', hρ', hσ', hp⟩ := hh
    have hA := hp
    cases e' : es' with
    | cons _ _ => rw [e'] at la; simp at la
    | nil =>
      subst e'
      unfold evs at hA
      obtain ⟨l, hk2⟩ := hA W' [] H (Le.refl W') hσ' Reps.nil
      refine thn (hk.run pos pins s st H _ I hk2) fun ws s2 ⟨zs, H2, I2, rz, q2⟩ => ⟨I2.kIn, ?_⟩
      rw [k2]
      exact go I2 .nil rz l q2
  | cons e es =>
    obtain ⟨n1, n2⟩ := noStar_cons hs
    refine PySem.W.callWith_KW (h₀ := X.base) I.ok.mod.kin hkp k1 (thn (ha.run pos pins s st H _ I hh) fun us s1 ⟨vs, H1, I1, r1, l1, q1⟩ => ?_) (by rw [s1, k3]; rfl) (starEach_ns n1)
    refine thn (hk.run pos pins s1 st H1 _ I1 q1) fun ws s2 ⟨zs, H2, I2, rz, q2⟩ => ⟨I2.kIn, ?_⟩
    rw [k2]
    exact go I2 r1 rz l1 q2
theorem ad_mcall (C : Pc X g N Φ ea k Wx sc) {c m : Str} {apos : Pos} {ks : List Keyword} {ks' : List Ex} {f : Nat} {dv : List D} {pm : List Nat} {shs : List Shp} {sh : Shp} (hb : baseOk a = true) (hl : (apos.endLine == pos.line) = true) (h30 : es.length + ks.length < 29) (hs : noStar es = true) (ho : PE X a (Te X Φ ea Wx a')) (ha : PA X es (Ta X Φ ea Wx es')) (hk : PK X ks (Ta X Φ ea Wx ks'))
    (la : es.length = es'.length ∧ (es'.all fun e => !e.isStar) = true) (lk : ks.length = ks'.length ∧ (ks'.all fun e => !e.isStar) = true)
    (hf : g.mes.lookup (c, m) = some (f, shs)) (hm : sh ∈ shs) (h1 : sh.np = es.length + 1) (h2 : ks.map (·.arg) = sh.ks.map some) (h3 : sh.ds = dv) (h4 : sh.pm = pm) : PE X (.Call (.Attribute a m apos) es ks pos) (Te X Φ ea Wx (.mcall c m f a' es' ks' dv pm)) := by
  subst h3 h4
  obtain ⟨ad, fd, ps, np, hme, F, hsh⟩ := C.meths c m f shs hf
  have hkp := hme.kp
  obtain ⟨k1, k2, k3⟩ := kw_shape (env := X.env) (pos := pos) h2
  obtain ⟨s1, s2⟩ := plain_ns (env := X.env) (pos := pos) hs
  refine ⟨fun pins s st H Q I q => ?_⟩
  obtain ⟨W, ρ, σ, hρ, hσ, h⟩ := q
  unfold ev at h
  have hform : methodCallForm (es.length + ks.length) (backTo pos (starEach es X.env)) (backToKw pos (keywordEach ks X.env)) = true := by
    unfold methodCallForm
    rw [s2, k1, Bool.true_and, Bool.true_and, decide_eq_true_eq]
    split <;> omega
  refine PySem.W.methodCall_KW (pl := plainOf a X.env) (thn (ho.run pins s st H _ I (tE.bind (Q := Q) (T := fun x H1 => ∃ n cc fs W1 σ1, x = .ref (W1.μ n) ∧ Rel X.prog X.w X.K W1 σ1 H1 ∧ EnvR X.prog X.w X.K W1 ρ st ∧ σ1[n]? = some (.obj cc fs) ∧ cc = c ∧ n < W1.n ∧ 
      Post X.prog X.w X.K ea Wx st W1 ((evs Φ es' ρ σ1).bind fun xs σ2 => (evs Φ ks' ρ σ2).bind fun ys σ3 => match permD (.ref n :: (xs ++ ys ++ sh.ds)) sh.pm with
        | some ds => Φ f ds σ3
        | none => .bad) Q) hρ hσ h fun x σ1 W1 v H1 le1 hσ1 r1 h1 => ?_)) fun u s1' ⟨x, H1, I1, rx, n, cc, fs, W1, σ1, ex, hσ1, hρ1, ec, ecc, hn, hp⟩ => ?_) (mcall_of (base_ok hb) fun ov => mcall_line hform hl)
  · split at h1
    · rename_i hi
      unfold isObj at hi
      split at hi
      · rename_i n
        unfold isObjC at hi
        split at hi
        · rename_i cc fs ec
          simp only [Rep] at r1
          exact ⟨n, cc, fs, W1, σ1, r1.2, hσ1, hρ.mono le1, ec, of_decide_eq_true hi, r1.1, h1⟩
        · cases hi
      · cases hi
    · exact False.elim h1
  subst ecc ex
  obtain rfl : u = Value.ref (W1.μ n) := rx
  obtain ⟨c1, c2, vs0, dx, c3, c4⟩ := obj_at hσ1 ec
  have hnl : ((fs.map (·.1)).zip vs0).lookup m = none := lookup_none_obj fun hmm => by
    have q1 := c2 m hmm
    have q2 := hme.at_
    unfold NoAttr at q1
    rw [q1] at q2
    cases q2
  refine getmeth_ok I1 c3 c1.cl hme hnl ?_
  have hh := tA_bindE (T := fun vs H1 => vs.length = es.length ∧ Ta X Φ ea Wx ks' st H1 fun zs H2 => zs.length = ks.length ∧ ∃ W2 σ2 xs ys, Rel X.prog X.w X.K W2 σ2 H2 ∧ Reps X.prog X.w X.K W2 xs (V.ref (W1.μ n) :: vs) ∧ Reps X.prog X.w X.K W2 ys zs ∧
      Post X.prog X.w X.K ea Wx st W2 (match permD (xs ++ ys ++ sh.ds) sh.pm with
        | some ds => Φ f ds σ2
        | none => .bad) Q) hρ1 hσ1 hp fun xs σ2 W2 vs H1 e1 le1 hσ2 r1 h1 => ⟨by rw [← r1.length, evs_len la.2 e1, la.1], tA_bindE (hρ1.mono le1) hσ2 h1 fun ys σ3 W3 zs H2 e2 le2 hσ3 r2 h2 =>
          ⟨by rw [← r2.length, evs_len lk.2 e2, lk.1], W3, σ3, .ref n :: xs, ys, hσ3, Reps.cons (Rep.mono (le1.trans le2) (by simp only [Rep]; exact ⟨hn, trivial⟩)) (r1.mono le2), r2, h2⟩⟩
  have lks : ks.length = sh.ks.length := by have := congrArg List.length h2; simpa using this
  have go : ∀ {us ws : List Value} {vs zs : List V} {H2 : Hp} {s2 : Shared}, Inv X pins st H2 s2 → Vals vs us → Vals zs ws → vs.length = es.length → (zs.length = ks.length ∧ ∃ W2 σ2 xs ys, Rel X.prog X.w X.K W2 σ2 H2 ∧ Reps X.prog X.w X.K W2 xs (V.ref (W1.μ n) :: vs) ∧ Reps X.prog X.w X.K W2 ys zs ∧
      Post X.prog X.w X.K ea Wx st W2 (match permD (xs ++ ys ++ sh.ds) sh.pm with
        | some ds => Φ f ds σ2
        | none => .bad) Q) → wpAny (model X.prog X.w) X.A (call (.ref ad) (Value.ref (W1.μ n) :: us) (sh.ks.zip ws)) (EP X pins st Q) X.xe s2 := fun I2 r1 r2 l1 ⟨l2, W2, σ2, xs, ys, hσ2, q1, q2, hp⟩ =>
    run_call C F (hsh sh hm) I2 (.cons (show RelV (V.ref (W1.μ n)) (Value.ref (W1.μ n)) from rfl) r1) r2 (by rw [List.length_cons, ← r1.length, l1, h1]) (by rw [← r2.length, l2, lks]) hσ2 q1 q2 hp
  cases es with
  | nil =>
    refine PySem.W.callWith_KW0 (h₀ := X.base) I.ok.mod.kin hkp k1 ?_ (by rw [k3]; rfl)
    obtain ⟨W', ρ', σ', hρ', hσ', hp⟩ := hh
    have hA := hp
    cases e' : es' with
    | cons _ _ => rw [e'] at la; simp at la
    | nil =>
      subst e'
      unfold evs at hA
      obtain ⟨l, hk2⟩ := hA W' [] H1 (Le.refl W') hσ' Reps.nil
      refine thn (hk.run pos pins s1' st H1 _ I1 hk2) fun ws s2 ⟨zs, H2, I2, rz, q2⟩ => ⟨I2.kIn, ?_⟩
      rw [k2]
      exact go I2 .nil rz l q2
  | cons e es =>
    obtain ⟨n1, n2⟩ := noStar_cons hs
    refine PySem.W.callWith_KW (h₀ := X.base) I.ok.mod.kin hkp k1 (thn (ha.run pos pins s1' st H1 _ I1 hh) fun us s1 ⟨vs, H1, I1, r1, l1, q1⟩ => ?_) (by rw [s1, k3]; rfl) (starEach_ns n1)
    refine thn (hk.run pos pins s1 st H1 _ I1 q1) fun ws s2 ⟨zs, H2, I2, rz, q2⟩ => ⟨I2.kIn, ?_⟩
    rw [k2]
    exact go I2 r1 rz l1 q2
/-! methods -/
theorem me_pa (m : Me) : PlainAttrs m.T ∧ Slot m.T m.name m.id ∧ typeOf (.builtin m.id) = pure (.type "method_descriptor") := by
  cases m
  · exact ⟨F.plainAttrs_list, F.slot_list_append, F.type_list_append⟩
  · exact ⟨F.plainAttrs_list, F.slot_list_pop, F.type_list_pop⟩
  · exact ⟨F.plainAttrs_list, F.slot_list_extend, F.type_list_extend⟩
  · exact ⟨F.plainAttrs_dict, F.slot_dict_get, F.type_dict_get⟩
  · exact ⟨F.plainAttrs_str, F.slot_str_join, F.type_str_join⟩
  · exact ⟨F.plainAttrs_str, F.slot_str_split, F.type_str_split⟩
theorem ad_me (C : Pc X g N Φ ea k Wx sc) {m : Me} {apos : Pos} (hb : baseOk a = true) (hl : (apos.endLine == pos.line) = true) (hs : noStar es = true) (h30 : es.length < 30) (la : es.length = es'.length) (ha : PE X a (Te X Φ ea Wx a')) (he : PA X es (Ta X Φ ea Wx es')) :
    PE X (.Call (.Attribute a m.name apos) es [] pos) (Te X Φ ea Wx (.me m a' es')) := by
  obtain ⟨m1, m2, m3⟩ := me_pa m
  cases es with
  | nil =>
    refine PE.impS (fun st0 => pe_bm02 m1 m2 m3 (mt_all (ea := ea) (Wx := Wx) (st0 := st0) C.pl m) ha (base_ok hb) hl) ?_
    rintro st H Q ⟨W, ρ, σ, hρ, hσ, h⟩
    unfold ev at h
    refine tE.bind hρ hσ h fun x σ1 W1 v H1 le1 hσ1 r1 h1 => ?_
    split at h1
    · rename_i hok
      refine ⟨meOk_ty hσ1 r1 hok, ?_⟩
      cases es' with
      | cons _ _ => simp at la
      | nil =>
        unfold evs at h1
        exact ⟨W1, σ1, x, [], hσ1, r1, Reps.nil, h1⟩
    · exact False.elim h1
  | cons e es =>
    obtain ⟨n1, n2⟩ := noStar_cons hs
    obtain ⟨s1, s2⟩ := plain_ns (env := X.env) (pos := pos) hs
    refine PE.impS (fun st0 => pe_bm2 m1 m2 m3 (mt_all (ea := ea) (Wx := Wx) (st0 := st0) C.pl m) ha he (base_ok hb) ?_ hl (starEach_ns n1) (plain_ns n2).1) ?_
    · rw [s2]
      have : ((e :: es).length + ([] : List Keyword).length + (if ([] : List Keyword).isEmpty then 0 else 1)) = (e :: es).length := by simp
      rw [this, decide_eq_true h30]
      rfl
    rintro st H Q ⟨W, ρ, σ, hρ, hσ, h⟩
    unfold ev at h
    refine tE.bind hρ hσ h fun x σ1 W1 v H1 le1 hσ1 r1 h1 => ?_
    split at h1
    · rename_i hok
      exact ⟨meOk_ty hσ1 r1 hok, tA.bind (hρ.mono le1) hσ1 h1 fun ds σ2 W2 vs H2 le2 hσ2 r2 h2 => ⟨W2, σ2, x, ds, hσ2, r1.mono le2, r2, h2⟩⟩
    · exact False.elim h1
end
end Iv

set_option Elab.async false
set_option linter.all false
set_option maxHeartbeats 4000000
/-! adequacy: dict displays, what is walked, comprehensions -/
namespace Iv
open PySem PySem.Spec L2
section
variable {P : Program} {w : World} {K : PySem.W.Frag} {W : Wd} {σ : Store} {H : Hp}
/-- an object under the making is done -/
theorem Rel.fin {p : Addr} {o : HO} {R : List (Addr × HO)} (r : Rel P w K W σ H) (hR : W.R = (p, o) :: R) : ∃ W2, Le0 W W2 ∧ W2.R = R ∧ Rel P w K W2 σ H ∧ W2.F p = some o :=
  ⟨(W.free R).add p o, ⟨Nat.le_refl _, fun _ _ => rfl, fun a u e => by
    show upd W.F p o a = some u
    rw [upd_ne (ne_of_none e (r.res p o (by rw [hR]; exact List.mem_cons_self)).2.1)]; exact e⟩, rfl, r.done hR, upd_same⟩
theorem Rel.finC {p : Addr} {o : HO} {c : Cell} {R : List (Addr × HO)} (r : Rel P w K W σ H) (hR : W.R = (p, o) :: R) (hc : CellOk P w K W H p c) : ∃ W2, Le0 W W2 ∧ W2.R = R ∧ Rel P w K W2 (σ ++ [c]) H ∧ σ.length < W2.n ∧ W2.μ σ.length = p :=
  ⟨(W.free R).push p, (le0_R (W := W) (W' := W.free R) rfl rfl rfl).trans (lePush (W.free R) p).toLe0, rfl, r.doneC hR hc, by show σ.length < W.n + 1; rw [r.len]; exact Nat.lt_succ_self _, by
    show (if σ.length = W.n then p else W.μ σ.length) = p
    rw [if_pos r.len]⟩
theorem le0_rewr {W : Wd} {R : List (Addr × HO)} : Le0 W (W.free R) := le0_R rfl rfl rfl
/-- what is reserved is forgotten -/
theorem Rel.forget {x : Addr × HO} {R : List (Addr × HO)} (r : Rel P w K W σ H) (hR : W.R = x :: R) : Rel P w K (W.free R) σ H :=
  ⟨r.sub, r.len, fun n c e => (r.cell n c e).mono0 le0_rewr fun _ z => z, r.sep, r.inj, fun a o q => r.res a o (by rw [hR]; exact List.mem_cons_of_mem _ q), by
    have := r.one
    rw [hR, List.map_cons, List.nodup_cons] at this
    exact this.2⟩
theorem EnvR.mono0 {W1 : Wd} {ρ : Env} {st : L2.St} (le : Le0 W W1) (h : EnvR P w K W ρ st) : EnvR P w K W1 ρ st :=
  ⟨h.1, fun i d e => let ⟨v, a, b⟩ := h.2 i d e; ⟨v, a, b.mono0 le⟩⟩
theorem ExcR.mono0 {ea : Exa} {W1 : Wd} {c : Nat} {d : D} {cls : Value} {dx : Option Addr} (le : Le0 W W1) (h : ExcR P w K ea W c d cls dx H) : ExcR P w K ea W1 c d cls dx H := by
  obtain ⟨C, h1, h2, h3⟩ := h
  refine ⟨C, h1, h2, ?_⟩
  cases e : ea.fld c with
  | none => rw [e] at h3; exact h3
  | some f =>
    rw [e] at h3
    obtain ⟨a, v, g1, g2, g3⟩ := h3
    exact ⟨a, v, g1, g2, g3.mono0 le⟩
theorem EnvR.wiped {ρ : Env} {st : L2.St} (h : EnvR P w K W ρ st) : ∀ own : List Nat, EnvR P w K W (wipeE ρ own) (L2.wipe st own)
  | [] => h
  | v :: vs => by
    have ih := EnvR.wiped h vs
    refine ⟨by unfold wipeE L2.wipe; rw [List.length_set, List.length_set]; exact ih.1, fun i d e => ?_⟩
    unfold wipeE at e
    rcases get_set e with ⟨_, z⟩ | ⟨hi, e⟩
    · cases z
    · obtain ⟨u, h1, h2⟩ := ih.2 i d e
      refine ⟨u, ?_, h2⟩
      unfold L2.wipe
      rw [List.getElem?_set_ne (Ne.symm hi)]; exact h1
end
section
variable {X : Cx} {g : Sg} {N : List Str} {Φ : CallSem} {ea : Exa} {k : Nat} {Wx : WX} {sc : Scope} {pos p2 : Pos}
/-! dict displays -/
def trsOf (X : Cx) (Φ : CallSem) (ea : Exa) (Wx : WX) : List Ex → List (TE × TE)
  | k :: v :: r => (Te X Φ ea Wx k, Te X Φ ea Wx v) :: trsOf X Φ ea Wx r
  | _ => []
def flat : List (V × V) → List V
  | [] => []
  | p :: r => p.1 :: p.2 :: flat r
def evenP : List Ex → Bool
  | [] => true
  | k :: v :: r => !k.isStar && !v.isStar && evenP r
  | _ => false
theorem posts_mono {W : Wd} {st : L2.St} {r : Res (List D)} {Q Q' : List V → Hp → Prop} (h : Posts X.prog X.w X.K ea Wx st W r Q) (i : ∀ v H, Q v H → Q' v H) : Posts X.prog X.w X.K ea Wx st W r Q' := by
  cases r with
  | ok d σ => exact fun W' v H l r rd => i _ _ (h W' v H l r rd)
  | exc c d σ => exact h
  | bad => exact h
theorem tPairs_of : ∀ {kvs : List Ex} {st : L2.St} {W : Wd} {ρ : Env} {σ : Store} {H : Hp} {QQ : List (V × V) → Hp → Prop}, evenP kvs = true → EnvR X.prog X.w X.K W ρ st → Rel X.prog X.w X.K W σ H →
    Posts X.prog X.w X.K ea Wx st W (evs Φ kvs ρ σ) (fun vs H => ∀ ps, flat ps = vs → QQ ps H) → tPairs (trsOf X Φ ea Wx kvs) st H QQ
  | [], st, W, ρ, σ, H, QQ, _, hρ, hσ, h => by
    unfold evs at h
    exact h W [] H (Le.refl W) hσ Reps.nil [] rfl
  | [_], _, _, _, _, _, _, he, _, _, _ => by cases he
  | k :: v :: r, st, W, ρ, σ, H, QQ, he, hρ, hσ, h => by
    unfold evenP at he
    simp only [Bool.and_eq_true, Bool.not_eq_true'] at he
    obtain ⟨⟨e1, e2⟩, e3⟩ := he
    rw [evs_cons e1] at h
    refine tE.bindA hρ hσ h fun x σ1 W1 vx H1 le1 hσ1 r1 h1 => ?_
    have h1 := posts_cons r1 h1
    rw [evs_cons e2] at h1
    refine tE.bindA (hρ.mono le1) hσ1 h1 fun y σ2 W2 vy H2 le2 hσ2 r2 h2 => ?_
    have h2 := posts_cons r2 h2
    exact tPairs_of e3 ((hρ.mono le1).mono le2) hσ2 (posts_mono h2 fun vs H q ps e => q ((vx, vy) :: ps) (by rw [← e]; rfl))
theorem pairUp_reps {W : Wd} : ∀ {ds : List D} {ps : List (V × V)} {kd : List (Key × D)}, Reps X.prog X.w X.K W ds (flat ps) → pairUp ds = some kd → ∃ kv : List (Key × V), ps = kv.map (fun p => (kV p.1, p.2)) ∧ KR X.prog X.w X.K W kd kv
  | ds, [], kd, r, h => by
    have : ds = [] := by have := r.length; simpa [flat] using this
    subst this
    simp only [pairUp, Option.some.injEq] at h
    subst h
    exact ⟨[], rfl, .nil⟩
  | [], p :: ps, kd, r, h => by have := r.length; simp [flat] at this
  | [_], p :: ps, kd, r, h => by have := r.length; simp [flat] at this
  | d1 :: d2 :: ds, p :: ps, kd, r, h => by
    have r : Reps X.prog X.w X.K W (d1 :: d2 :: ds) (p.1 :: p.2 :: flat ps) := r
    obtain ⟨r1, r⟩ := Reps.cons_iff.mp r
    obtain ⟨r2, r⟩ := Reps.cons_iff.mp r
    unfold pairUp at h
    split at h
    · rename_i key hk
      rw [Option.map_eq_some_iff] at h
      obtain ⟨t, h, rfl⟩ := h
      obtain ⟨kv, e1, e2⟩ := pairUp_reps r h
      refine ⟨(key, p.2) :: kv, ?_, .cons ⟨rfl, r2⟩ e2⟩
      rw [e1, List.map_cons, ← r1.key hk]
    · cases h
theorem KR.length {P : Program} {w : World} {K : PySem.W.Frag} {W : Wd} {a : List (Key × D)} {b : List (Key × V)} (h : KR P w K W a b) : a.length = b.length := by
  induction h with
  | nil => rfl
  | cons _ _ ih => exact congrArg (· + 1) ih
/-- what a dict, a list under the making becomes -/
theorem Post.newD0 {mu : Bool} {ks : List Key} {xs : List D} {vs : List V} {Q : VK} {st : L2.St} {W W' : Wd} {σ : Store} {H : Hp} {p : Addr} {R : List (Addr × HO)} (h : Post X.prog X.w X.K ea Wx st W (Iv.newD mu ks xs σ) Q) (l0 : Le0 W W') (hR0 : W.R = R) (hσ : Rel X.prog X.w X.K W' σ H) (hR : W'.R = (p, .dK (ks.zip vs)) :: R) (r : Reps X.prog X.w X.K W' xs vs) (hl : ks.length = vs.length) : Q (.ref p) H := by
  unfold Iv.newD at h
  cases mu with
  | false =>
    obtain ⟨W2, l2, e2, r2, f2⟩ := hσ.fin hR
    refine h W2 _ _ ⟨l0.trans l2, by rw [e2, hR0]⟩ r2 ?_
    simp only [Rep]
    exact ⟨p, vs, rfl, f2, hl, r.mono0 l2⟩
  | true =>
    obtain ⟨W2, l2, e2, r2, f2, f3⟩ := hσ.finC (c := .dic ks xs) hR ⟨vs, (hσ.res p _ (by rw [hR]; exact List.mem_cons_self)).1, hl, r⟩
    refine h W2 _ _ ⟨l0.trans l2, by rw [e2, hR0]⟩ r2 ?_
    simp only [Rep]
    exact ⟨f2, by rw [f3]⟩
theorem Post.newL0 {mu : Bool} {xs : List D} {vs : List V} {Q : VK} {st : L2.St} {W W' : Wd} {σ : Store} {H : Hp} {p : Addr} {R : List (Addr × HO)} (h : Post X.prog X.w X.K ea Wx st W (Iv.newL mu xs σ) Q) (l0 : Le0 W W') (hR0 : W.R = R) (hσ : Rel X.prog X.w X.K W' σ H) (hR : W'.R = (p, .lst vs) :: R) (r : Reps X.prog X.w X.K W' xs vs) : Q (.ref p) H := by
  unfold Iv.newL at h
  split at h
  · cases mu with
    | false =>
      obtain ⟨W2, l2, e2, r2, f2⟩ := hσ.fin hR
      refine h W2 _ _ ⟨l0.trans l2, by rw [e2, hR0]⟩ r2 ?_
      simp only [Rep]
      exact ⟨p, vs, rfl, f2, r.mono0 l2⟩
    | true =>
      obtain ⟨W2, l2, e2, r2, f2, f3⟩ := hσ.finC (c := .lst xs) hR ⟨vs, (hσ.res p _ (by rw [hR]; exact List.mem_cons_self)).1, r⟩
      refine h W2 _ _ ⟨l0.trans l2, by rw [e2, hR0]⟩ r2 ?_
      simp only [Rep]
      exact ⟨f2, by rw [f3]⟩
  · exact False.elim h
theorem ad_dic {mu : Bool} {ks : List (Option Expr)} {vs : List Expr} {kvs : List Ex} (hp : PPs X pos ks vs (trsOf X Φ ea Wx kvs)) (hall : ks.all (·.isSome) = true) (hl : ks.length = vs.length) (h15 : ks.length ≤ 15) (he : evenP kvs = true) (h0 : ks = [] → kvs = []) :
    PE X (.Dict ks vs pos) (Te X Φ ea Wx (.dic mu kvs)) := by
  cases ks with
  | nil =>
    have := h0 rfl
    subst this
    cases vs with
    | cons _ _ => simp at hl
    | nil =>
      refine pe_dnewK.imp ?_
      rintro st H Q ⟨W, ρ, σ, hρ, hσ, h⟩
      unfold ev evs at h
      exact Post.newD (ks := []) (xs := []) (vs := []) h hσ Reps.nil rfl
  | cons k0 ks =>
    refine (pe_disp hp hall hl (by simp) h15).imp ?_
    rintro st H Q ⟨W, ρ, σ, hρ, hσ, h⟩ p hp
    unfold ev at h
    refine tPairs_of he (hρ.mono0 (le0_rewr (R := (p, .dK []) :: W.R))) (hσ.resv hp) ?_
    cases e : evs Φ kvs ρ σ with
    | ok ds σ1 =>
      rw [e] at h
      intro W' us H2 le r q ps hps
      have hR : W'.R = (p, .dK []) :: W.R := le.R
      refine ⟨(r.res p _ (by rw [hR]; exact List.mem_cons_self)).1, ?_⟩
      have h : Post X.prog X.w X.K ea Wx st W (match pairUp ds with
        | some kvs => if kvs.length ≤ 15 then newD mu ((mergeD [] kvs).map (·.1)) ((mergeD [] kvs).map (·.2)) σ1 else .bad
        | none => .bad) Q := h
      subst hps
      cases e2 : pairUp ds with
      | none => rw [e2] at h; exact False.elim h
      | some kd =>
        rw [e2] at h
        have h : Post X.prog X.w X.K ea Wx st W (if kd.length ≤ 15 then newD mu ((mergeD [] kd).map (·.1)) ((mergeD [] kd).map (·.2)) σ1 else .bad) Q := h
        split at h
        · rename_i h15'
          obtain ⟨kv, e3, e4⟩ := pairUp_reps q e2
          refine ⟨kv, e3, by rw [← e4.length]; exact h15', ?_⟩
          obtain ⟨f1, f2, f3⟩ := (e4.merge (a := []) (b := []) .nil).parts
          have l0 : Le0 W W' := (le0_rewr (W := W) (R := (p, .dK []) :: W.R)).trans le.toLe0
          refine Post.newD0 (W' := W'.free ((p, .dK (mergeK [] kv)) :: W.R)) (R := W.R) h (l0.trans le0_rewr) rfl (r.rewr hR) ?_ (f3.mono0 le0_rewr) f2
          rw [← f1]; rfl
        · exact False.elim h
    | exc c d σ1 =>
      rw [e] at h
      intro W' H2 cls dx le r q
      have hR : W'.R = (p, .dK []) :: W.R := le.R
      exact h (W'.free W.R) H2 cls dx ⟨((le0_rewr (W := W) (R := (p, .dK []) :: W.R)).trans le.toLe0).trans le0_rewr, rfl⟩ (r.forget hR) (q.mono0 le0_rewr)
    | bad => rw [e] at h; exact h
/-! what is walked -/
def ItOk (P : Program) (w : World) (K : PySem.W.Frag) (W : Wd) (xs : List D) (J : It) : Prop :=
  (∀ i H, (∀ a o, W.F a = some o → H a = some o) → xs.length ≤ i → J.stop i H) ∧ (∀ i H, (∀ a o, W.F a = some o → H a = some o) → i < xs.length → J.go i H) ∧
  (∀ i W1 σ1 H x H', Le0 W W1 → Rel P w K W1 σ1 H → i < xs.length → J.yld i H x H' → ∃ W2 d, Le W1 W2 ∧ Rel P w K W2 σ1 H' ∧ xs[i]? = some d ∧ Rep P w K W2 d x)
def tI (X : Cx) (Φ : CallSem) (ea : Exa) (Wx : WX) (kd : IK) (its : List Ex) : TI := fun st H R => ∃ W ρ σ, EnvR X.prog X.w X.K W ρ st ∧ Rel X.prog X.w X.K W σ H ∧ match evs Φ its ρ σ with
  | .ok ds σ' => ∃ xs, itemsOf σ' kd ds = some xs ∧ ∀ W' H' J, Le W W' → Rel X.prog X.w X.K W' σ' H' → ItOk X.prog X.w X.K W' xs J → R J H'
  | .exc c d σ' => ∀ W' H cls dx, Le W W' → Rel X.prog X.w X.K W' σ' H → ExcR X.prog X.w X.K ea W' c d cls dx H → Wx cls dx st H
  | .bad => False
theorem itok_get {P : Program} {w : World} {K : PySem.W.Frag} {W : Wd} {xs : List D} {vs : List V} (q : Reps P w K W xs vs) {i : Nat} (hi : i < xs.length) {x : V} (hx : vs[i]? = some x) : ∃ d, xs[i]? = some d ∧ Rep P w K W d x := by
  have hd : xs[i]? = some xs[i] := List.getElem?_eq_getElem hi
  obtain ⟨v, h1, h2⟩ := q.get hd
  rw [hx] at h1
  cases h1
  exact ⟨_, hd, h2⟩
theorem itok_list {P : Program} {w : World} {K : PySem.W.Frag} {W : Wd} {xs : List D} {vs : List V} {a : Addr} (s : SqL K W.F a vs) (q : Reps P w K W xs vs) : ItOk P w K W xs (Itl K a) := by
  have l := q.length
  refine ⟨fun i H sub hi => ⟨vs, sqL_ext sub s, by omega⟩, fun i H sub hi => ⟨vs, vs[i]'(by omega), sqL_ext sub s, List.getElem?_eq_getElem (by omega)⟩, fun i W1 σ1 H x H' le r hi y => ?_⟩
  obtain ⟨rfl, y⟩ := y
  obtain ⟨d, h1, h2⟩ := itok_get q hi (y vs (sqL_ext (fun a o e => r.sub a o (le.F a o e)) s))
  exact ⟨W1, d, Le.refl _, r, h1, h2.mono0 le⟩
theorem itok_tup {P : Program} {w : World} {K : PySem.W.Frag} {W : Wd} {xs : List D} {vs : List V} {a : Addr} (s : SqT K W.F a vs) (q : Reps P w K W xs vs) : ItOk P w K W xs (Itt K a) := by
  have l := q.length
  refine ⟨fun i H sub hi => ⟨vs, sqT_ext sub s, by omega⟩, fun i H sub hi => ⟨vs, vs[i]'(by omega), sqT_ext sub s, List.getElem?_eq_getElem (by omega)⟩, fun i W1 σ1 H x H' le r hi y => ?_⟩
  obtain ⟨rfl, y⟩ := y
  obtain ⟨d, h1, h2⟩ := itok_get q hi (y vs (sqT_ext (fun a o e => r.sub a o (le.F a o e)) s))
  exact ⟨W1, d, Le.refl _, r, h1, h2.mono0 le⟩
theorem itok_rng {P : Program} {w : World} {K : PySem.W.Frag} {W : Wd} {lo : Int} {n : Nat} : ItOk P w K W ((List.range n).map fun (i : Nat) => D.int (lo + (i : Int))) (Itr lo n) := by
  refine ⟨fun i H sub hi => by show n ≤ i; simpa using hi, fun i H sub hi => by show i < n; simpa using hi, fun i W1 σ1 H x H' le r hi y => ?_⟩
  obtain ⟨rfl, y⟩ := y
  refine ⟨W1, .int (lo + i), Le.refl _, r, ?_, ?_⟩
  · rw [List.getElem?_map, List.getElem?_range (by simpa using hi)]; rfl
  · simp only [Rep]; exact y
theorem itok_str {P : Program} {w : World} {K : PySem.W.Frag} {W : Wd} {x : Str} : ItOk P w K W (x.cps.toList.map fun c => D.str ⟨#[c]⟩) (Its x) := by
  refine ⟨fun i H sub hi => by show x.cps.size ≤ i; simpa using hi, fun i H sub hi => by show i < x.cps.size; simpa using hi, fun i W1 σ1 H v H' le r hi y => ?_⟩
  obtain ⟨rfl, c, hc, rfl⟩ := y
  refine ⟨W1, .str ⟨#[c]⟩, Le.refl _, r, ?_, by simp only [Rep]⟩
  rw [List.getElem?_map, Array.getElem?_toList, hc]; rfl
theorem zip_get {xs ys : List D} {i : Nat} {d e : D} (h1 : xs[i]? = some d) (h2 : ys[i]? = some e) : (zipD (xs, ys))[i]? = some (.it [d, e]) := by
  unfold zipD
  rw [List.getElem?_map]
  have : (xs.zip ys)[i]? = some (d, e) := by rw [List.getElem?_zip_eq_some]; exact ⟨h1, h2⟩
  rw [this]; rfl
theorem zip_len {xs ys : List D} : (zipD (xs, ys)).length = min xs.length ys.length := by unfold zipD; rw [List.length_map, List.length_zip]
theorem itok_zip {P : Program} {w : World} {K : PySem.W.Frag} {W : Wd} {xs ys : List D} {vs us : List V} {a b : Addr} (s1 : SqL K W.F a vs) (s2 : SqL K W.F b us) (q1 : Reps P w K W xs vs) (q2 : Reps P w K W ys us) : ItOk P w K W (zipD (xs, ys)) (Itz K a b) := by
  have l1 := q1.length
  have l2 := q2.length
  refine ⟨fun i H sub hi => ⟨vs, us, sqL_ext sub s1, sqL_ext sub s2, ?_⟩, fun i H sub hi => ?_, fun i W1 σ1 H x H' le r hi y => ?_⟩
  · rw [zip_len] at hi; omega
  · rw [zip_len] at hi
    exact ⟨vs, us, vs[i]'(by omega), us[i]'(by omega), sqL_ext sub s1, sqL_ext sub s2, List.getElem?_eq_getElem (by omega), List.getElem?_eq_getElem (by omega)⟩
  · rw [zip_len] at hi
    obtain ⟨T, x1, y1, rfl, hT, rfl, h1, h2⟩ := y
    have sub : ∀ a o, W.F a = some o → H a = some o := fun a o e => r.sub a o (le.F a o e)
    obtain ⟨d, g1, g2⟩ := itok_get q1 (i := i) (by omega) (h1 vs (sqL_ext sub s1))
    obtain ⟨e, g3, g4⟩ := itok_get q2 (i := i) (by omega) (h2 us (sqL_ext sub s2))
    refine ⟨W1.add T (.tup [x1, y1]), .it [d, e], r.leAdd hT, r.add hT, zip_get g1 g3, ?_⟩
    simp only [Rep]
    exact ⟨T, [x1, y1], rfl, .inl (.inl upd_same), (Reps.cons (g2.mono0 le) (Reps.one (g4.mono0 le))).mono (r.leAdd hT)⟩
theorem itok_zipT {P : Program} {w : World} {K : PySem.W.Frag} {W : Wd} {xs ys : List D} {vs us : List V} {a b : Addr} (s1 : SqT K W.F a vs) (s2 : SqT K W.F b us) (q1 : Reps P w K W xs vs) (q2 : Reps P w K W ys us) : ItOk P w K W (zipD (xs, ys)) (RZ.ItzT K a b) := by
  have l1 := q1.length
  have l2 := q2.length
  refine ⟨fun i H sub hi => ⟨vs, us, sqT_ext sub s1, sqT_ext sub s2, ?_⟩, fun i H sub hi => ?_, fun i W1 σ1 H x H' le r hi y => ?_⟩
  · rw [zip_len] at hi; omega
  · rw [zip_len] at hi
    exact ⟨vs, us, vs[i]'(by omega), us[i]'(by omega), sqT_ext sub s1, sqT_ext sub s2, List.getElem?_eq_getElem (by omega), List.getElem?_eq_getElem (by omega)⟩
  · rw [zip_len] at hi
    obtain ⟨T, x1, y1, rfl, hT, rfl, h1, h2⟩ := y
    have sub : ∀ a o, W.F a = some o → H a = some o := fun a o e => r.sub a o (le.F a o e)
    obtain ⟨d, g1, g2⟩ := itok_get q1 (i := i) (by omega) (h1 vs (sqT_ext sub s1))
    obtain ⟨e, g3, g4⟩ := itok_get q2 (i := i) (by omega) (h2 us (sqT_ext sub s2))
    refine ⟨W1.add T (.tup [x1, y1]), .it [d, e], r.leAdd hT, r.add hT, zip_get g1 g3, ?_⟩
    simp only [Rep]
    exact ⟨T, [x1, y1], rfl, .inl (.inl upd_same), (Reps.cons (g2.mono0 le) (Reps.one (g4.mono0 le))).mono (r.leAdd hT)⟩
theorem pi_zp (C : Pc X g N Φ ea k Wx sc) {a b : Expr} {a' b' : Ex} {p tpos : Pos} {elts : List Expr} {kk : Nat} (hg : gloC sc "zip" = true) (hn : noStar [a, b] = true) (hs : a'.isStar = false) (hs2 : b'.isStar = false) (ha : PE X a (Te X Φ ea Wx a')) (hb : PE X b (Te X Φ ea Wx b')) : PI X (.Tuple elts kk tpos) (.Call (.Name "zip" p) [a, b] [] pos) (tI X Φ ea Wx .zip [a', b']) := by
  obtain ⟨n1, n2⟩ := noStar_cons hn
  have s2 : starEach [b] X.env = [(false, eval b X.env)] := starEach_ns n2
  refine ⟨fun pins s st H R I q => (RZ.pi_zipA (C.gl hg) (C.blt _ (by decide +kernel)) (ada_cons n1 hs ha (ada_cons n2 hs2 hb ada_nil)) (starEach_ns n1) (plain_ns n2).1).run pins s st H R I ?_⟩
  obtain ⟨W, ρ, σ, hρ, hσ, h⟩ := q
  refine ⟨W, ρ, σ, hρ, hσ, ?_⟩
  cases e1 : evs Φ [a', b'] ρ σ with
  | ok ds σ1 =>
    rw [e1] at h
    obtain ⟨xs, hi, h⟩ := h
    obtain ⟨d, e, rfl⟩ : ∃ d e, ds = [d, e] := by
      match ds, hi with
      | [d, e], _ => exact ⟨d, e, rfl⟩
      | [], hi => cases hi
      | [d], hi => cases d <;> cases hi
      | d :: e :: f :: r, hi => cases d <;> cases e <;> cases hi
    have hi : (seqDD d e).map zipD = some xs := by cases d <;> cases e <;> exact hi
    rw [Option.map_eq_some_iff] at hi
    obtain ⟨⟨zs, ws⟩, hq, rfl⟩ := hi
    intro W' vs H' le r rd
    obtain ⟨v, u, rfl, rv, ru⟩ := two_reps rd
    have key : (∃ a b vs us, v = .ref a ∧ u = .ref b ∧ SqL X.K W'.F a vs ∧ SqL X.K W'.F b us ∧ Reps X.prog X.w X.K W' zs vs ∧ Reps X.prog X.w X.K W' ws us) ∨
        ∃ a b vs us, v = .ref a ∧ u = .ref b ∧ SqT X.K W'.F a vs ∧ SqT X.K W'.F b us ∧ Reps X.prog X.w X.K W' zs vs ∧ Reps X.prog X.w X.K W' ws us := by
      unfold seqDD at hq
      split at hq <;> cases hq <;> simp only [Rep] at rv ru <;> obtain ⟨a, vs, rfl, q1, q2⟩ := rv <;> obtain ⟨b, us, rfl, q3, q4⟩ := ru
      · exact .inl ⟨a, b, vs, us, rfl, rfl, SqL.of q1, SqL.of q3, q2, q4⟩
      · exact .inl ⟨a, b, vs, us, rfl, rfl, SqL.of q1, q3, q2, q4⟩
      · exact .inl ⟨a, b, vs, us, rfl, rfl, q1, SqL.of q3, q2, q4⟩
      · exact .inl ⟨a, b, vs, us, rfl, rfl, q1, q3, q2, q4⟩
      · exact .inr ⟨a, b, vs, us, rfl, rfl, q1.sq, q3.sq, q2, q4⟩
    rcases key with ⟨a, b, vs, us, rfl, rfl, q1, q2, q3, q4⟩ | ⟨a, b, vs, us, rfl, rfl, q1, q2, q3, q4⟩
    · exact ⟨a, b, vs, us, rfl, .inl ⟨sqL_ext r.sub q1, sqL_ext r.sub q2, h W' H' _ le r (itok_zip q1 q2 q3 q4)⟩⟩
    · exact ⟨a, b, vs, us, rfl, .inr ⟨sqT_ext r.sub q1, sqT_ext r.sub q2, h W' H' _ le r (itok_zipT q1 q2 q3 q4)⟩⟩
  | exc c d σ1 => rw [e1] at h; exact h
  | bad => rw [e1] at h; exact h
theorem pi_on {tg e : Expr} {e' : Ex} (hs : e'.isStar = false) (he : PE X e (Te X Φ ea Wx e')) : PI X tg e (tI X Φ ea Wx .on [e']) := by
  refine ⟨fun pins s st H R I q => ?_⟩
  obtain ⟨W, ρ, σ, hρ, hσ, h⟩ := q
  rw [evs_cons hs] at h
  cases e1 : ev Φ e' ρ σ with
  | ok d σ1 =>
    rw [e1] at h
    have h : ∃ xs, itemsOf σ1 .on [d] = some xs ∧ ∀ W' H' J, Le W W' → Rel X.prog X.w X.K W' σ1 H' → ItOk X.prog X.w X.K W' xs J → R J H' := by
      unfold evs at h; exact h
    obtain ⟨xs, hi, hq⟩ := h
    cases d with
    | lst ys =>
      cases hi
      refine (pi_list he).run pins s st H R I ⟨W, ρ, σ, hρ, hσ, ?_⟩
      rw [e1]
      intro W' v H' le r rd
      simp only [Rep] at rd
      obtain ⟨a, vs, rfl, s1, q⟩ := rd
      exact ⟨a, rfl, ⟨vs, SqL.of (r.sub _ _ s1)⟩, hq W' H' _ le r (itok_list (SqL.of s1) q)⟩
    | ro ys =>
      cases hi
      refine (pi_list he).run pins s st H R I ⟨W, ρ, σ, hρ, hσ, ?_⟩
      rw [e1]
      intro W' v H' le r rd
      simp only [Rep] at rd
      obtain ⟨a, vs, rfl, s1, q⟩ := rd
      exact ⟨a, rfl, ⟨vs, sqL_ext r.sub s1⟩, hq W' H' _ le r (itok_list s1 q)⟩
    | tup ys =>
      cases hi
      refine (pi_tup he).run pins s st H R I ⟨W, ρ, σ, hρ, hσ, ?_⟩
      rw [e1]
      intro W' v H' le r rd
      simp only [Rep] at rd
      obtain ⟨a, vs, rfl, s1, q⟩ := rd
      exact ⟨a, rfl, ⟨vs, sqT_ext r.sub s1.sq⟩, hq W' H' _ le r (itok_tup s1.sq q)⟩
    | str x =>
      cases hi
      refine (pi_str he).run pins s st H R I ⟨W, ρ, σ, hρ, hσ, ?_⟩
      rw [e1]
      intro W' v H' le r rd
      simp only [Rep] at rd
      exact ⟨x, rd, hq W' H' _ le r itok_str⟩
    | _ => cases hi
  | exc c d σ1 =>
    rw [e1] at h
    exact (pi_list he).run pins s st H R I ⟨W, ρ, σ, hρ, hσ, by rw [e1]; exact h⟩
  | bad => rw [e1] at h; exact False.elim h
theorem itemsOf_rng {σ : Store} {ds xs : List D} (h : itemsOf σ .rng ds = some xs) : ∃ n : Int, ds = [.int n] ∧ (n < 2 ^ 62 ∧ -(2 ^ 62) ≤ n) ∧ xs = (List.range n.toNat).map fun (i : Nat) => D.int (i : Int) := by
  cases ds with
  | nil => cases h
  | cons d r =>
    cases r with
    | cons e r => cases d <;> cases h
    | nil =>
      cases d with
      | int n =>
        have h : (if n < 2 ^ 62 ∧ -(2 ^ 62) ≤ n then some ((List.range n.toNat).map fun (i : Nat) => D.int (i : Int)) else none) = some xs := h
        split at h
        · rename_i hb
          injection h with h
          exact ⟨n, rfl, hb, h.symm⟩
        · cases h
      | _ => cases h
theorem itemsOf_rng2 {σ : Store} {ds xs : List D} (h : itemsOf σ .rng2 ds = some xs) : ∃ a b : Int, ds = [.int a, .int b] ∧ (-(2 ^ 62) ≤ a ∧ a < 2 ^ 62 ∧ -(2 ^ 62) ≤ b ∧ b < 2 ^ 62) ∧ xs = (List.range (b - a).toNat).map fun (i : Nat) => D.int (a + (i : Int)) := by
  cases ds with
  | nil => cases h
  | cons d r =>
    cases r with
    | nil => cases d <;> cases h
    | cons e r =>
      cases r with
      | cons _ _ => cases d <;> cases e <;> cases h
      | nil =>
        cases d with
        | int a =>
          cases e with
          | int b =>
            have h : (if -(2 ^ 62) ≤ a ∧ a < 2 ^ 62 ∧ -(2 ^ 62) ≤ b ∧ b < 2 ^ 62 then some ((List.range (b - a).toNat).map fun (i : Nat) => D.int (a + (i : Int))) else none) = some xs := h
            split at h
            · rename_i hb
              injection h with h
              exact ⟨a, b, rfl, hb, h.symm⟩
            · cases h
          | _ => cases h
        | _ => cases e <;> cases h
theorem pi_rng (C : Pc X g N Φ ea k Wx sc) {tg a : Expr} {a' : Ex} {p : Pos} (hg : gloC sc "range" = true) (hn : noStar [a] = true) (hs : a'.isStar = false) (ha : PE X a (Te X Φ ea Wx a')) : PI X tg (.Call (.Name "range" p) [a] [] pos) (tI X Φ ea Wx .rng [a']) := by
  refine ⟨fun pins s st H R I q => (pi_range1 (C.gl hg) (C.blt _ (by decide +kernel)) (ada_cons hn hs ha ada_nil) (starEach_ns hn)).run pins s st H R I ?_⟩
  obtain ⟨W, ρ, σ, hρ, hσ, h⟩ := q
  refine ⟨W, ρ, σ, hρ, hσ, ?_⟩
  cases e1 : evs Φ [a'] ρ σ with
  | ok ds σ1 =>
    rw [e1] at h
    obtain ⟨xs, hi, h⟩ := h
    obtain ⟨n, rfl, hb, rfl⟩ := itemsOf_rng hi
    intro W' vs H' le r rd
    obtain ⟨v, rfl, rv⟩ := one_reps rd
    simp only [Rep] at rv
    subst rv
    refine ⟨n, rfl, hb.2, hb.1, h W' H' _ le r ?_⟩
    have := itok_rng (P := X.prog) (w := X.w) (K := X.K) (W := W') (lo := 0) (n := n.toNat)
    simpa only [Int.zero_add] using this
  | exc c d σ1 => rw [e1] at h; exact h
  | bad => rw [e1] at h; exact h
theorem pi_rng2 (C : Pc X g N Φ ea k Wx sc) {tg a b : Expr} {a' b' : Ex} {p : Pos} (hg : gloC sc "range" = true) (hn : noStar [a, b] = true) (hs : a'.isStar = false) (hs2 : b'.isStar = false) (ha : PE X a (Te X Φ ea Wx a')) (hb : PE X b (Te X Φ ea Wx b')) : PI X tg (.Call (.Name "range" p) [a, b] [] pos) (tI X Φ ea Wx .rng2 [a', b']) := by
  obtain ⟨n1, n2⟩ := noStar_cons hn
  have s2 : starEach [b] X.env = [(false, eval b X.env)] := starEach_ns n2
  refine ⟨fun pins s st H R I q => (pi_range2 (C.gl hg) (C.blt _ (by decide +kernel)) (ada_cons n1 hs ha (ada_cons n2 hs2 hb ada_nil)) (by rw [starEach_ns n1, s2]) s2).run pins s st H R I ?_⟩
  obtain ⟨W, ρ, σ, hρ, hσ, h⟩ := q
  refine ⟨W, ρ, σ, hρ, hσ, ?_⟩
  cases e1 : evs Φ [a', b'] ρ σ with
  | ok ds σ1 =>
    rw [e1] at h
    obtain ⟨xs, hi, h⟩ := h
    obtain ⟨lo, hi2, rfl, hb, rfl⟩ := itemsOf_rng2 hi
    intro W' vs H' le r rd
    obtain ⟨v, u, rfl, rv, ru⟩ := two_reps rd
    simp only [Rep] at rv ru
    subst rv ru
    exact ⟨lo, hi2, rfl, hb, h W' H' _ le r itok_rng⟩
  | exc c d σ1 => rw [e1] at h; exact h
  | bad => rw [e1] at h; exact h
end
end Iv

set_option Elab.async false
set_option linter.all false
set_option maxHeartbeats 8000000
set_option maxRecDepth 4000
/-! adequacy: comprehensions, all expressions -/
namespace Iv
open PySem PySem.Spec L2
section
variable {X : Cx} {g : Sg} {N : List Str} {Φ : CallSem} {ea : Exa} {k : Nat} {Wx : WX} {sc : Scope} {pos p2 : Pos}
abbrev W0 : WX := fun _ _ _ _ => False
theorem ownP_snd {N : List Str} (own : List Nat) : (ownP N own).map (·.2) = own := by
  unfold ownP
  rw [List.map_map]
  show own.map (fun i => i) = own
  simp
theorem wipe_twice {st : L2.St} {own : List Nat} : wipe (wipe st own) own = wipe st own := by
  apply List.ext_getElem?
  intro j
  rw [wipe_get, wipe_get, wipe_length]
  split <;> rfl
theorem le0_of_sub {P : Program} {w : World} {K : PySem.W.Frag} {W W1 : Wd} {σ : Store} {H : Hp} (l : Le0 W W1) (r : Rel P w K W1 σ H) : ∀ a o, W.F a = some o → H a = some o := fun a o e => r.sub a o (l.F a o e)
theorem ad_comp (C : Pc X g N Φ ea k Wx sc) {elt tg iter : Expr} {ifs : List Expr} {scope : Scope} {own : List Nat} {t : Tg} {kd : IK} {its : List Ex} {c' elt' : Ex} {mu : Bool} (hb : blkC N sc scope (ownP N own) = true) (hi : PI X tg iter (tI X Φ ea Wx kd its))
    (htg : chkT N scope tg t = true) (hin : tgIn own t = true)
    (ht : ∀ (s : Shared) (H : Hp) (L : Addr) (cl : List (Str × Addr)) (fp : List Addr), PTs (X.blk s H scope (compEnvC scope cl L X.env) fp) ifs (tT X.prog X.w X.K ea W0 (ev Φ c')))
    (he : ∀ (s : Shared) (H : Hp) (L : Addr) (cl : List (Str × Addr)) (fp : List Addr), PE (X.blk s H scope (compEnvC scope cl L X.env) fp) elt (tE X.prog X.w X.K ea W0 (ev Φ elt')))
    (hset : ∀ x, foldedSetIterable iter X.env x = pure x) {u : TE → Prop}
    (fin : (BlkOk X.N X.env.scope scope (ownP N own)) → (∀ (s : Shared) (H : Hp) (L : Addr) (cl : List (Str × Addr)) (fp : List Addr), PG (X.blk s H scope (compEnvC scope cl L X.env) fp) tg (gT t X.prog X.w X.K)) → u (tLc (tI X Φ ea Wx kd its) (gT t X.prog X.w X.K) (tT X.prog X.w X.K ea W0 (ev Φ c')) (tE X.prog X.w X.K ea W0 (ev Φ elt')) ((ownP N own).map (·.2)))) :
    u (tLc (tI X Φ ea Wx kd its) (gT t X.prog X.w X.K) (tT X.prog X.w X.K ea W0 (ev Φ c')) (tE X.prog X.w X.K ea W0 (ev Φ elt')) own) ∧
    ∀ st H Q, Te X Φ ea Wx (.comp mu own t kd its c' elt') st H Q → tLc (tI X Φ ea Wx kd its) (gT t X.prog X.w X.K) (tT X.prog X.w X.K ea W0 (ev Φ c')) (tE X.prog X.w X.K ea W0 (ev Φ elt')) own st H Q := by
  constructor
  · have hbo : BlkOk X.N X.env.scope scope (ownP N own) := by rw [C.hN, C.hsc]; exact blkOk_by hb
    have := fin hbo fun s H L cl fp => pg_all (X := X.blk s H scope (compEnvC scope cl L X.env) fp) C.pl.calm C.hN C.nd (fun x h => blk_loc h) htg
    rw [ownP_snd] at this
    exact this
  rintro st H Q ⟨W, ρ, σ, hρ, hσ, h⟩
  unfold ev at h
  refine ⟨W, ρ, σ, hρ, hσ, ?_⟩
  cases e1 : evs Φ its ρ σ with
  | bad => rw [e1] at h; exact h
  | exc c d σ1 => rw [e1] at h; exact h
  | ok ds σ1 =>
    rw [e1] at h
    have h : Post X.prog X.w X.K ea Wx st W (match itemsOf σ1 kd ds with
      | some xs => (compL t (ev Φ c') (ev Φ elt') (wipeE ρ own) xs [] σ1).bind fun ys σ2 => newL mu ys σ2
      | none => .bad) Q := h
    cases e2 : itemsOf σ1 kd ds with
    | none => rw [e2] at h; exact False.elim h
    | some xs =>
      rw [e2] at h
      have h : Post X.prog X.w X.K ea Wx st W ((compL t (ev Φ c') (ev Φ elt') (wipeE ρ own) xs [] σ1).bind fun ys σ2 => newL mu ys σ2) Q := h
      refine ⟨xs, e2, fun W' H1 J le hσ1 ⟨i1, i2, i3⟩ D hD => ?_⟩
      have h := Post.mono le h
      have hρ1 : EnvR X.prog X.w X.K W' (wipeE ρ own) (wipe st own) := (hρ.mono le).wiped own
      refine ⟨fun i m H => m = xs.length - i ∧ i ≤ xs.length ∧ ∃ Wc σc acc av, Le0 W' Wc ∧ Wc.R = (D, .lst av) :: W'.R ∧ Rel X.prog X.w X.K Wc σc H ∧ Reps X.prog X.w X.K Wc acc av ∧
        Post X.prog X.w X.K ea Wx st W' ((compL t (ev Φ c') (ev Φ elt') (wipeE ρ own) (xs.drop i) acc σc).bind fun ys σ2 => newL mu ys σ2) Q, ?_, ?_⟩
      · exact ⟨xs.length, by simp, Nat.zero_le _, W'.resv D (.lst []), σ1, [], [], le0_rewr, rfl, hσ1.resv hD, Reps.nil, by rw [List.drop_zero]; exact h⟩
      · rintro i m H2 ⟨rfl, hi, Wc, σc, acc, av, l0, hR, r2, ra, hp⟩
        by_cases hlt : i < xs.length
        · refine .inr ⟨i2 i H2 (le0_of_sub l0 r2) hlt, fun H' => i + 1 ≤ xs.length ∧ ∃ Wc σc acc av, Le0 W' Wc ∧ Wc.R = (D, .lst av) :: W'.R ∧ Rel X.prog X.w X.K Wc σc H' ∧ Reps X.prog X.w X.K Wc acc av ∧
            Post X.prog X.w X.K ea Wx st W' ((compL t (ev Φ c') (ev Φ elt') (wipeE ρ own) (xs.drop (i + 1)) acc σc).bind fun ys σ2 => newL mu ys σ2) Q, fun H' ⟨a1, a2⟩ => ⟨xs.length - (i + 1), by omega, rfl, a1, a2⟩, fun x H3 y => ?_⟩
          obtain ⟨Wd1, d, le3, r3, hd, rd⟩ := i3 i Wc σc H2 x H3 l0 r2 hlt y
          have edrop : xs.drop i = d :: xs.drop (i + 1) := by
            rw [List.drop_eq_getElem_cons hlt]
            rw [List.getElem?_eq_getElem hlt] at hd
            cases hd; rfl
          rw [edrop] at hp
          have l03 : Le0 W' Wd1 := l0.trans le3.toLe0
          cases e3 : tgD t d (wipeE ρ own) with
          | none => unfold compL at hp; rw [e3] at hp; exact False.elim hp
          | some ρ2 =>
            refine ⟨Wd1, wipeE ρ own, σc, d, hρ1.mono0 l03, r3, rd, ρ2, e3, fun st2 hρ2 hsame => ⟨(hsame own hin).trans wipe_twice, ?_⟩⟩
            refine ⟨Wd1, ρ2, σc, hρ2, r3, ?_⟩
            unfold compL at hp
            rw [e3] at hp
            dsimp only at hp
            cases e4 : ev Φ c' ρ2 σc with
            | bad => rw [e4] at hp; exact False.elim hp
            | exc _ _ _ => rw [e4] at hp; exact False.elim hp
            | ok b σ3 =>
              rw [e4] at hp
              dsimp only at hp
              cases e5 : truthD (view σ3 b) with
              | none => rw [e5] at hp; exact False.elim hp
              | some tr =>
                rw [e5] at hp
                refine ⟨tr, e5, fun W4 H4 le4 r4 => ?_⟩
                have hR4 : W4.R = (D, .lst av) :: W'.R := le4.R.trans (le3.R.trans hR)
                cases tr with
                | false =>
                  dsimp only at hp
                  dsimp only
                  rw [if_neg (by decide)]
                  exact ⟨hlt, W4, σ3, acc, av, l03.trans le4.toLe0, hR4, r4, (ra.mono le3).mono le4, hp⟩
                | true =>
                  dsimp only at hp
                  dsimp only
                  rw [if_pos rfl]
                  refine ⟨W4, ρ2, σ3, hρ2.mono le4, r4, ?_⟩
                  cases e6 : ev Φ elt' ρ2 σ3 with
                  | bad => rw [e6] at hp; exact False.elim hp
                  | exc _ _ _ => rw [e6] at hp; exact False.elim hp
                  | ok v σ4 =>
                    rw [e6] at hp
                    dsimp only at hp
                    intro W5 y5 H5 le5 r5 rv
                    have hR5 : W5.R = (D, .lst av) :: W'.R := le5.R.trans hR4
                    have ra5 : Reps X.prog X.w X.K W5 acc av := ((ra.mono le3).mono le4).mono le5
                    split at hp
                    · rename_i hl
                      refine ⟨av, (r5.res D _ (by rw [hR5]; exact List.mem_cons_self)).1, by rw [← ra5.length, ← lim_eq]; exact hl, hlt, ?_⟩
                      exact ⟨W5.free ((D, .lst (av ++ [y5])) :: W'.R), σ4, acc ++ [v], av ++ [y5], ((l03.trans le4.toLe0).trans le5.toLe0).trans le0_rewr, rfl, r5.rewr hR5, (ra5.append (Reps.one rv)).mono0 le0_rewr, hp⟩
                    · exact False.elim hp
        · have e : i = xs.length := by omega
          subst e
          rw [List.drop_length] at hp
          unfold compL at hp
          refine .inl ⟨i1 _ H2 (le0_of_sub l0 r2) (Nat.le_refl _), ?_⟩
          have hp : Post X.prog X.w X.K ea Wx st W' (newL mu acc σc) Q := hp
          exact hp.newL0 l0 rfl r2 hR ra
theorem KR.mono0 {P : Program} {w : World} {K : PySem.W.Frag} {W W' : Wd} (le : Le0 W W') {a : List (Key × D)} {b : List (Key × V)} (h : KR P w K W a b) : KR P w K W' a b := by
  induction h with
  | nil => exact .nil
  | cons h _ ih => exact .cons ⟨h.1, h.2.mono0 le⟩ ih
theorem ad_dcomp (C : Pc X g N Φ ea k Wx sc) {kx vx tg iter : Expr} {ifs : List Expr} {scope : Scope} {own : List Nat} {t : Tg} {kd : IK} {its : List Ex} {c' kx' vx' : Ex} {mu : Bool} (hb : blkC N sc scope (ownP N own) = true) (hi : PI X tg iter (tI X Φ ea Wx kd its))
    (htg : chkT N scope tg t = true) (hin : tgIn own t = true) {u : TE → Prop}
    (fin : (BlkOk X.N X.env.scope scope (ownP N own)) → (∀ (s : Shared) (H : Hp) (L : Addr) (cl : List (Str × Addr)) (fp : List Addr), PG (X.blk s H scope (compEnvC scope cl L X.env) fp) tg (gT t X.prog X.w X.K)) → u (tDc (tI X Φ ea Wx kd its) (gT t X.prog X.w X.K) (tT X.prog X.w X.K ea W0 (ev Φ c')) (tE X.prog X.w X.K ea W0 (ev Φ kx')) (tE X.prog X.w X.K ea W0 (ev Φ vx')) ((ownP N own).map (·.2)))) :
    u (tDc (tI X Φ ea Wx kd its) (gT t X.prog X.w X.K) (tT X.prog X.w X.K ea W0 (ev Φ c')) (tE X.prog X.w X.K ea W0 (ev Φ kx')) (tE X.prog X.w X.K ea W0 (ev Φ vx')) own) ∧
    ∀ st H Q, Te X Φ ea Wx (.dcomp mu own t kd its c' kx' vx') st H Q → tDc (tI X Φ ea Wx kd its) (gT t X.prog X.w X.K) (tT X.prog X.w X.K ea W0 (ev Φ c')) (tE X.prog X.w X.K ea W0 (ev Φ kx')) (tE X.prog X.w X.K ea W0 (ev Φ vx')) own st H Q := by
  constructor
  · have hbo : BlkOk X.N X.env.scope scope (ownP N own) := by rw [C.hN, C.hsc]; exact blkOk_by hb
    have := fin hbo fun s H L cl fp => pg_all (X := X.blk s H scope (compEnvC scope cl L X.env) fp) C.pl.calm C.hN C.nd (fun x h => blk_loc h) htg
    rw [ownP_snd] at this
    exact this
  rintro st H Q ⟨W, ρ, σ, hρ, hσ, h⟩
  unfold ev at h
  refine ⟨W, ρ, σ, hρ, hσ, ?_⟩
  cases e1 : evs Φ its ρ σ with
  | bad => rw [e1] at h; exact h
  | exc c d σ1 => rw [e1] at h; exact h
  | ok ds σ1 =>
    rw [e1] at h
    have h : Post X.prog X.w X.K ea Wx st W (match itemsOf σ1 kd ds with
      | some xs => (dcompL t (ev Φ c') (ev Φ kx') (ev Φ vx') (wipeE ρ own) xs [] σ1).bind fun kvs σ2 => newD mu (kvs.map (·.1)) (kvs.map (·.2)) σ2
      | none => .bad) Q := h
    cases e2 : itemsOf σ1 kd ds with
    | none => rw [e2] at h; exact False.elim h
    | some xs =>
      rw [e2] at h
      have h : Post X.prog X.w X.K ea Wx st W ((dcompL t (ev Φ c') (ev Φ kx') (ev Φ vx') (wipeE ρ own) xs [] σ1).bind fun kvs σ2 => newD mu (kvs.map (·.1)) (kvs.map (·.2)) σ2) Q := h
      refine ⟨xs, e2, fun W' H1 J le hσ1 ⟨i1, i2, i3⟩ D hD => ?_⟩
      have h := Post.mono le h
      have hρ1 : EnvR X.prog X.w X.K W' (wipeE ρ own) (wipe st own) := (hρ.mono le).wiped own
      refine ⟨fun i m H => m = xs.length - i ∧ i ≤ xs.length ∧ ∃ Wc σc acc av, Le0 W' Wc ∧ Wc.R = (D, .dK av) :: W'.R ∧ Rel X.prog X.w X.K Wc σc H ∧ KR X.prog X.w X.K Wc acc av ∧
        Post X.prog X.w X.K ea Wx st W' ((dcompL t (ev Φ c') (ev Φ kx') (ev Φ vx') (wipeE ρ own) (xs.drop i) acc σc).bind fun kvs σ2 => newD mu (kvs.map (·.1)) (kvs.map (·.2)) σ2) Q, ?_, ?_⟩
      · exact ⟨xs.length, by simp, Nat.zero_le _, W'.resv D (.dK []), σ1, [], [], le0_rewr, rfl, hσ1.resv hD, .nil, by rw [List.drop_zero]; exact h⟩
      · rintro i m H2 ⟨rfl, hi, Wc, σc, acc, av, l0, hR, r2, ra, hp⟩
        by_cases hlt : i < xs.length
        · refine .inr ⟨i2 i H2 (le0_of_sub l0 r2) hlt, fun H' => i + 1 ≤ xs.length ∧ ∃ Wc σc acc av, Le0 W' Wc ∧ Wc.R = (D, .dK av) :: W'.R ∧ Rel X.prog X.w X.K Wc σc H' ∧ KR X.prog X.w X.K Wc acc av ∧
            Post X.prog X.w X.K ea Wx st W' ((dcompL t (ev Φ c') (ev Φ kx') (ev Φ vx') (wipeE ρ own) (xs.drop (i + 1)) acc σc).bind fun kvs σ2 => newD mu (kvs.map (·.1)) (kvs.map (·.2)) σ2) Q, fun H' ⟨a1, a2⟩ => ⟨xs.length - (i + 1), by omega, rfl, a1, a2⟩, fun x H3 y => ?_⟩
          obtain ⟨Wd1, d, le3, r3, hd, rd⟩ := i3 i Wc σc H2 x H3 l0 r2 hlt y
          have edrop : xs.drop i = d :: xs.drop (i + 1) := by
            rw [List.drop_eq_getElem_cons hlt]
            rw [List.getElem?_eq_getElem hlt] at hd
            cases hd; rfl
          rw [edrop] at hp
          have l03 : Le0 W' Wd1 := l0.trans le3.toLe0
          cases e3 : tgD t d (wipeE ρ own) with
          | none => unfold dcompL at hp; rw [e3] at hp; exact False.elim hp
          | some ρ2 =>
            refine ⟨Wd1, wipeE ρ own, σc, d, hρ1.mono0 l03, r3, rd, ρ2, e3, fun st2 hρ2 hsame => ⟨(hsame own hin).trans wipe_twice, ?_⟩⟩
            refine ⟨Wd1, ρ2, σc, hρ2, r3, ?_⟩
            unfold dcompL at hp
            rw [e3] at hp
            dsimp only at hp
            cases e4 : ev Φ c' ρ2 σc with
            | bad => rw [e4] at hp; exact False.elim hp
            | exc _ _ _ => rw [e4] at hp; exact False.elim hp
            | ok b σ3 =>
              rw [e4] at hp
              dsimp only at hp
              cases e5 : truthD (view σ3 b) with
              | none => rw [e5] at hp; exact False.elim hp
              | some tr =>
                rw [e5] at hp
                refine ⟨tr, e5, fun W4 H4 le4 r4 => ?_⟩
                have hR4 : W4.R = (D, .dK av) :: W'.R := le4.R.trans (le3.R.trans hR)
                cases tr with
                | false =>
                  dsimp only at hp
                  dsimp only
                  rw [if_neg (by decide)]
                  exact ⟨hlt, W4, σ3, acc, av, l03.trans le4.toLe0, hR4, r4, ra.mono0 (le3.toLe0.trans le4.toLe0), hp⟩
                | true =>
                  dsimp only at hp
                  dsimp only
                  rw [if_pos rfl]
                  refine ⟨W4, ρ2, σ3, hρ2.mono le4, r4, ?_⟩
                  cases e6 : ev Φ kx' ρ2 σ3 with
                  | bad => rw [e6] at hp; exact False.elim hp
                  | exc _ _ _ => rw [e6] at hp; exact False.elim hp
                  | ok kq σ4 =>
                    rw [e6] at hp
                    dsimp only at hp
                    intro W5 y5 H5 le5 r5 rk
                    refine ⟨W5, ρ2, σ4, (hρ2.mono le4).mono le5, r5, ?_⟩
                    cases e7 : ev Φ vx' ρ2 σ4 with
                    | bad => rw [e7] at hp; exact False.elim hp
                    | exc _ _ _ => rw [e7] at hp; exact False.elim hp
                    | ok v σ5 =>
                      rw [e7] at hp
                      dsimp only at hp
                      intro W6 y6 H6 le6 r6 rv
                      have hR6 : W6.R = (D, .dK av) :: W'.R := le6.R.trans (le5.R.trans hR4)
                      have lx : Le0 Wc W6 := ((le3.toLe0.trans le4.toLe0).trans le5.toLe0).trans le6.toLe0
                      have ra6 : KR X.prog X.w X.K W6 acc av := ra.mono0 lx
                      cases e8 : dKey kq with
                      | none => rw [e8] at hp; exact False.elim hp
                      | some key =>
                        rw [e8] at hp
                        dsimp only at hp
                        split at hp
                        · rename_i hl
                          refine ⟨av, key, (rk.mono le6).key e8, (r6.res D _ (by rw [hR6]; exact List.mem_cons_self)).1, by rw [← ra6.length, ← lim_eq]; exact hl, hlt, ?_⟩
                          exact ⟨W6.free ((D, .dK (putK av key y6)) :: W'.R), σ5, putD acc key v, putK av key y6, (l0.trans lx).trans le0_rewr, rfl, r6.rewr hR6, (ra6.put rv).mono0 le0_rewr, hp⟩
                        · exact False.elim hp
        · have e : i = xs.length := by omega
          subst e
          rw [List.drop_length] at hp
          unfold dcompL at hp
          refine .inl ⟨i1 _ H2 (le0_of_sub l0 r2) (Nat.le_refl _), ?_⟩
          have hp : Post X.prog X.w X.K ea Wx st W' (newD mu (acc.map (·.1)) (acc.map (·.2)) σc) Q := hp
          obtain ⟨f1, f2, f3⟩ := ra.parts
          exact hp.newD0 l0 rfl r2 (by rw [← f1]; exact hR) f3 f2
/-- a part of a slice that is written -/
theorem ado_any {a : Expr} {a' : Ex} (ha : PE X a (Te X Φ ea Wx a')) : PO X (some a) (To X Φ ea Wx a') := by
  refine ⟨fun pins s st H Q I q => ?_⟩
  obtain ⟨W, ρ, σ, hρ, hσ, h⟩ := q
  rw [evalPart_some]
  refine thn (ha.run pins s st H (fun v H1 => ∃ o, ((v = .non ∧ o = none) ∨ ∃ i, v = .int i ∧ o = some i) ∧ Q o H1) I ⟨W, ρ, σ, hρ, hσ, ?_⟩) fun u s1 ⟨x, H1, I1, r1, o, hx, q1⟩ => ?_
  · cases e : ev Φ a' ρ σ with
    | ok d σ1 =>
      rw [e] at h
      obtain ⟨o, e2, h⟩ := h
      intro W' v H' le r rd
      refine ⟨o, ?_, h W' H' le r⟩
      cases d with
      | non => cases e2; simp only [Rep] at rd; exact .inl ⟨rd, rfl⟩
      | int i => cases e2; simp only [Rep] at rd; exact .inr ⟨i, rd, rfl⟩
      | _ => cases e2
    | exc c d σ1 => rw [e] at h; exact h
    | bad => rw [e] at h; exact h
  · rcases hx with ⟨rfl, rfl⟩ | ⟨i, rfl, rfl⟩
    · cases r1
      exact ⟨none, H1, I1, .none, q1⟩
    · obtain ⟨t, rfl⟩ := r1
      exact ⟨some i, H1, I1, .int i t, q1⟩
end
end Iv

set_option Elab.async false
set_option linter.all false
set_option maxRecDepth 100000
/-! enumerate over a tuple -/
namespace PySem
open Sem (wp)
set_option maxHeartbeats 1000000 in
theorem meets_enumerate_new1 {v : Value} {o : Obj} {H : Heap → Prop} (B : Begins v o H) :
    Meets (Builtin.«enumerate.__new__» ⟨[.type "enumerate", v], []⟩) (fun _ R s => H s.heap ∧
      R (.ok (.ret (.ref (s.heap.push o).objs.size))) { s with heap := (s.heap.push o).push { cls := .type "enumerate", data := .fields #[.none, .bool false, .ref s.heap.objs.size, rawInt 0, .none, .none] } }) :=
  .of_wp fun prog w A R s h => by
    obtain ⟨hp, g, d, tk, os⟩ := s; obtain ⟨h1, h⟩ := h
    have hsub := sub_enumerate
    have q1 : ∀ {A' : Around} {E : Value → Shared → Prop} {Q : Value → Shared → Prop}, Q (.ref hp.objs.size) ⟨hp.push o, g, d, tk, os⟩ → wpAny (model prog w) A' (pyIter v) Q E ⟨hp, g, d, tk, os⟩ :=
      fun q => B.iter prog w _ _ ⟨hp, g, d, tk, os⟩ _ h1 q
    wp_walk using q1
    refine wpAny_stack_any fun st => wpAny_pure ?_
    split
    · rename_i c _ _ _ _ _
      cases (c == Value.type "enumerate")
      · wp_walk using q1
        exact ⟨_, rfl, h⟩
      · wp_walk using q1
        exact ⟨_, rfl, h⟩
    · wp_walk using q1
      exact ⟨_, rfl, h⟩
theorem call_enumerate_B {prog : Program} {w : World} {A : Around} {E : Value → Shared → Prop} {s : Shared} {v : Value} {o : Obj} {H : Heap → Prop} {Q : Value → Shared → Prop} (B : Begins v o H) (h1 : H s.heap)
    (h : ∀ h', IsEnum h' (s.heap.objs.size + 1) s.heap.objs.size 0 .none → h'.get? s.heap.objs.size = some o → h'.objs.size = s.heap.objs.size + 2 →
      (∀ b o, s.heap.get? b = some o → h'.get? b = some o) → Q (.ref (s.heap.objs.size + 1)) { s with heap := h' }) :
    wpAny (model prog w) A (call (.type "enumerate") [v]) Q E s := by
  refine callType_new F.called_enumerate (by decide) (F.typeCall_enumerate_1 _) (F.newCall_enumerate_1 _) (fun obj => F.args_object_init_2 obj _) F.entry_enumerate_new
    (meets_enumerate_new1 B) ⟨h1, ?_⟩
  have hz : (s.heap.push o).objs.size = s.heap.objs.size + 1 := Heap.size_push ..
  show _ ∧ _
  rw [hz]
  have he : IsEnum ((s.heap.push o).push { cls := .type "enumerate", data := .fields #[.none, .bool false, .ref s.heap.objs.size, rawInt 0, .none, .none] }) (s.heap.objs.size + 1) s.heap.objs.size 0 .none := by
    have := Heap.get?_push_size (s.heap.push o) (o := { cls := .type "enumerate", data := .fields #[.none, .bool false, .ref s.heap.objs.size, rawInt 0, .none, .none] }) rfl
    rw [hz] at this; exact this
  refine ⟨⟨_, he, rfl⟩, h _ he (Heap.get?_push_of_some _ (Heap.get?_push_size _ B.free)) (by rw [Heap.size_push, hz]) fun b o x => Heap.get?_push_of_some _ (Heap.get?_push_of_some _ x)⟩
theorem enumT_end {prog : Program} {w : World} {A : Around} {E : Value → Shared → Prop} {s : Shared} {e it t : Addr} {i : Nat} {c : Int} {items : Array Value} {old : Value} {Q : Option Value → Shared → Prop}
    (hh : A.handled = none) (he : IsEnum s.heap e it c old) (hit : s.heap.IsTupleIter it t i) (ht : s.heap.IsTuple t items) (hx : items[i]? = none)
    (hQ : ∀ h', Heap.ExtBut it s.heap h' → Q none { s with heap := h' }) : wpAny (model prog w) A (pyNext (.ref e)) Q E s := by
  have hT : s.TypeIs (.ref e) "enumerate" := ⟨_, he, rfl⟩
  unfold pyNext
  refine wpAny_bind (wpAny_attempt (wpAny_callSpecial?_slot (name := Str.ofString "__next__") hT F.slot_enumerate_next
    (wpAny_call_entry F.slot_enumerate_next hT F.entry_enumerate_next ?_ (F.args_enumerate_next_1 _))))
  show wpAny _ _ (field (.ref e) 2 >>= _) _ _ _
  refine wpAny_bind (wpAny_field he rfl (x := .ref it) rfl ?_)
  refine wpAny_bind (wpAny_nextOf_tuple_end (A := A.in1) hh hit ht hx fun h' x he' hx' => ?_)
  obtain ⟨o, ho, hc⟩ := hx'
  refine wpAny_bind (wpAny_isInstance (T := "StopIteration") (b := true) ⟨o, ho, hc⟩ isSubtype_stop ?_)
  exact wpAny_pure (hQ _ he')
end PySem
namespace Iv
open PySem PySem.Spec L2
def IteT (K : PySem.W.Frag) (a : Addr) : It :=
  ⟨fun i H => ∃ (xs : List V) (x : V), SqT K H a xs ∧ xs[i]? = some x, fun i H v H' => ∃ T x, v = .ref T ∧ H T = none ∧ H' = upd H T (.tup [.int (i : Nat), x]) ∧ ∀ xs, SqT K H a xs → xs[i]? = some x, fun i H => ∃ xs : List V, SqT K H a xs ∧ xs.length ≤ i⟩
theorem turn_enumT {P : Program} {w : World} {K : PySem.W.Frag} {elts : List Expr} {kk : Nat} {tpos : Pos} (a e it : Addr) :
    Turn P w K (.Tuple elts kk tpos) (IteT K a) [e, it] e (fun i h => (∃ old, IsEnum h e it ((i : Nat) : Int) old) ∧ h.IsTupleIter it a i ∧ e ≠ it ∧ a ≠ e ∧ a ≠ it) where
  mem := by simp
  obj := fun i h st b hb => by
    obtain ⟨⟨old, he⟩, ⟨o, ho, hc, hd⟩, _⟩ := st
    have e' : b = e ∨ b = it := by simpa using hb
    rcases e' with z | z
    · rw [z]; exact ⟨_, he, fun v q => nomatch q⟩
    · rw [z]; exact ⟨o, ho, fun v q => by rw [hd] at q; cases q⟩
  keep := fun i h h' st k => let ⟨⟨old, he⟩, hi, hne⟩ := st; ⟨⟨old, k e (by simp) _ he⟩, hi.at fun o q => k it (by simp) o q, hne⟩
  item := by
    intro X hP hw hK hc i pins s σ H E I hf st hg
    subst hP hw hK
    obtain ⟨⟨old, he⟩, hit, hne, hae, hai⟩ := st
    obtain ⟨xs, x, hq, hx⟩ := hg
    obtain ⟨its, rv, p, hz⟩ := I.tuple hq
    obtain ⟨u, hu, ru⟩ := rv.get hx
    have hel : e < s.heap.objs.size := Heap.lt_size he
    have hil : it < s.heap.objs.size := by obtain ⟨_, q, _⟩ := hit; exact Heap.lt_size q
    have p' : s.heap.IsTuple a its.toArray := p
    refine wpAny_pyNext_enum_itemC (n := its.toArray.size) (P := fun i v => its.toArray[i]? = some v) (St := fun i h => h.IsTupleIter it a i ∧ h.IsTuple a its.toArray) (Draws.tuple (A := X.A.in1) (I.ok.hd hc) it a hai its.toArray) he ⟨hit, p'⟩ (by
      have := (List.getElem?_eq_some_iff.mp hu).1
      simpa using this) hne (by simp; exact ⟨hne, fun z => hae z.symm⟩) fun v h' tk hv ho st2 hT hsz hk => ?_
    obtain rfl : v = u := by
      have hv : its.toArray[i]? = some v := hv
      rw [List.getElem?_toArray, hu] at hv
      exact (Option.some.inj hv).symm
    refine ⟨_, rfl, wpAny_letOwnedTupleGo_enum (s := { s with heap := h', toks := tk + 1 }) ho fun h'' he' sb => ?_⟩
    have hT2 : h''.get? s.heap.objs.size = some { cls := .type "tuple", data := .seq #[.int i tk, v] } := (sb.2 _ (Nat.ne_of_gt hel)).trans hT
    have new : ObjOk X.prog X.w (upd H s.heap.objs.size (.tup [.int (i : Nat), x])) h'' s.heap.objs.size (.tup [.int (i : Nat), x]) :=
      ⟨by show 2 ≤ sizeLine; decide, [.int i tk, v], .cons ⟨_, rfl⟩ (.cons ru .nil), ⟨_, hT2, rfl, _, rfl⟩⟩
    have I1 : Inv X pins σ (upd H s.heap.objs.size (.tup [.int (i : Nat), x])) { s with heap := h'', toks := tk + 1 } :=
      I.turnedNew (ch := [e, it]) (fun b ob hb q => (sb.2 b (fun z => hb (by simp [z]))).trans (hk b ob (fun z => hb (by simp [z])) (fun z => hb (by simp [z])) q)) hf (Nat.le_refl _) new
    refine ⟨.ref s.heap.objs.size, _, I1, rfl, ⟨_, x, rfl, I.hok.fresh (Nat.le_refl _), rfl, fun ys hy => by rw [I.tuple_inj hy hq]; exact hx⟩, ⟨⟨v, ?_⟩, st2.1.at fun o q => (sb.2 it (Ne.symm hne)).trans q, hne, hae, hai⟩, fun b hb => ?_⟩
    · have e1 : ((i + 1 : Nat) : Int) = (i : Int) + 1 := by omega
      rw [e1]; exact he'
    · have hb' : b < s.heap.objs.size := by
        have e' : b = e ∨ b = it := by simpa using hb
        rcases e' with z | z
        · rw [z]; exact hel
        · rw [z]; exact hil
      rw [upd_ne (Nat.ne_of_lt hb')]
      exact (hf b hb).1
  done := by
    intro X hP hw hK hc i pins s σ H E I hf st hg
    subst hP hw hK
    obtain ⟨⟨old, he⟩, hit, hne, hae, hai⟩ := st
    obtain ⟨xs, hq, hx⟩ := hg
    obtain ⟨its, rv, p, hz⟩ := I.tuple hq
    obtain ⟨f0, f1, f2, f3, f4, f5⟩ := hf it (by simp)
    have hl := rv.length
    have p' : s.heap.IsTuple a its.toArray := p
    exact enumT_end (I.ok.hd hc) he hit p' (by simp; omega) fun h' eb => ⟨rfl, I.turned (t' := s.toks) (fun b o hb q => eb b o hb q) f0 f1 f3 f4 f5⟩
  self := fun A i s Q E st h => let ⟨⟨_, he⟩, _⟩ := st; wpAny_pyIter_enum he h
end Iv

set_option Elab.async false
set_option linter.all false
set_option maxHeartbeats 8000000
set_option maxRecDepth 4000
/-! adequacy: enumerate, o.m( *e), tuple(range(..)), f-strings -/
namespace Iv
open PySem PySem.Spec L2
section
variable {X : Cx} {g : Sg} {N : List Str} {Φ : CallSem} {ea : Exa} {k : Nat} {Wx : WX} {sc : Scope} {pos : Pos}
theorem enum_len {xs : List D} : (enumD xs).length = xs.length := by unfold enumD; simp
theorem enum_get {xs : List D} {i : Nat} {d : D} (h : xs[i]? = some d) : (enumD xs)[i]? = some (.it [.int (i : Nat), d]) := by
  unfold enumD
  rw [List.getElem?_map, List.getElem?_zipIdx, h]; simp
theorem itok_enum {P : Program} {w : World} {K : PySem.W.Frag} {W : Wd} {xs : List D} {vs : List V} {a : Addr} (s1 : SqL K W.F a vs) (q1 : Reps P w K W xs vs) : ItOk P w K W (enumD xs) (Ite K a) := by
  have l1 := q1.length
  refine ⟨fun i H sub hi => ⟨vs, sqL_ext sub s1, ?_⟩, fun i H sub hi => ?_, fun i W1 σ1 H x H' le r hi y => ?_⟩
  · rw [enum_len] at hi; omega
  · rw [enum_len] at hi
    exact ⟨vs, vs[i]'(by omega), sqL_ext sub s1, List.getElem?_eq_getElem (by omega)⟩
  · rw [enum_len] at hi
    obtain ⟨T, x1, rfl, hT, rfl, h1⟩ := y
    have sub : ∀ a o, W.F a = some o → H a = some o := fun a o e => r.sub a o (le.F a o e)
    obtain ⟨d, g1, g2⟩ := itok_get q1 (i := i) (by omega) (h1 vs (sqL_ext sub s1))
    refine ⟨W1.add T (.tup [.int (i : Nat), x1]), .it [.int (i : Nat), d], r.leAdd hT, r.add hT, enum_get g1, ?_⟩
    simp only [Rep]
    exact ⟨T, [.int (i : Nat), x1], rfl, .inl (.inl upd_same), (Reps.cons (by simp only [Rep]) (Reps.one (g2.mono0 le))).mono (r.leAdd hT)⟩
theorem itok_enumT {P : Program} {w : World} {K : PySem.W.Frag} {W : Wd} {xs : List D} {vs : List V} {a : Addr} (s1 : SqT K W.F a vs) (q1 : Reps P w K W xs vs) : ItOk P w K W (enumD xs) (IteT K a) := by
  have l1 := q1.length
  refine ⟨fun i H sub hi => ⟨vs, sqT_ext sub s1, ?_⟩, fun i H sub hi => ?_, fun i W1 σ1 H x H' le r hi y => ?_⟩
  · rw [enum_len] at hi; omega
  · rw [enum_len] at hi
    exact ⟨vs, vs[i]'(by omega), sqT_ext sub s1, List.getElem?_eq_getElem (by omega)⟩
  · rw [enum_len] at hi
    obtain ⟨T, x1, rfl, hT, rfl, h1⟩ := y
    have sub : ∀ a o, W.F a = some o → H a = some o := fun a o e => r.sub a o (le.F a o e)
    obtain ⟨d, g1, g2⟩ := itok_get q1 (i := i) (by omega) (h1 vs (sqT_ext sub s1))
    refine ⟨W1.add T (.tup [.int (i : Nat), x1]), .it [.int (i : Nat), d], r.leAdd hT, r.add hT, enum_get g1, ?_⟩
    simp only [Rep]
    exact ⟨T, [.int (i : Nat), x1], rfl, .inl (.inl upd_same), (Reps.cons (by simp only [Rep]) (Reps.one (g2.mono0 le))).mono (r.leAdd hT)⟩
/-- enumerate(list), enumerate(tuple) -/
def iEnumA (K : PySem.W.Frag) (ta : TA) : TI := fun σ H R => ta σ H fun vs H1 => ∃ a xs, vs = [.ref a] ∧ ((SqL K H1 a xs ∧ R (Ite K a) H1) ∨ (SqT K H1 a xs ∧ R (IteT K a) H1))
theorem pi_enumA {e : Expr} {ta : TA} {p pos tpos : Pos} {elts : List Expr} {kk : Nat} (hg : Gl X "enumerate") (hm : X.mg "enumerate" = none) (ha : PA X [e] ta) (hs : starEach [e] X.env = [(false, eval e X.env)]) :
    PI X (.Tuple elts kk tpos) (.Call (.Name "enumerate" p) [e] [] pos) (iEnumA X.K ta) := by
  refine ⟨fun pins s σ H R I h => ?_⟩
  refine PyProof.Rows.Call_ (ld_blt I hg hm PyProof.Rows.boot_enumerate (PyProof.Rows.callWith_type1 (thn (ha.run pos pins s σ H _ I h) fun us s1 ⟨vs, H1, I1, r1, q1⟩ => ?_) hs rfl))
  obtain ⟨a, xs, ex, q1⟩ := q1
  subst ex
  cases r1 with
  | cons r rr =>
    cases rr
    cases r
    have fresh2 : ∀ b, b ∈ [s1.heap.objs.size + 1, s1.heap.objs.size] → FpOk X pins H1 b := fun b hb => by
      have e' : b = s1.heap.objs.size + 1 ∨ b = s1.heap.objs.size := by simpa using hb
      have hle : s1.heap.objs.size ≤ b := by
        rcases e' with z | z
        · rw [z]; exact Nat.le_add_right _ _
        · rw [z]; exact Nat.le_refl _
      exact I1.fpOk hle (I1.hok.fresh hle)
    rcases q1 with ⟨hq, q⟩ | ⟨hq, q⟩
    · obtain ⟨its, rv, p', hz⟩ := I1.list hq
      refine call_enumerate_list p'.isList fun h' he hit hsz hk => wpAny_pyIter_enum he ?_
      have I2 : Inv X pins σ H1 { s1 with heap := h' } := I1.kept (t' := s1.toks) hk
      exact ⟨s1.heap.objs.size + 1, [s1.heap.objs.size + 1, s1.heap.objs.size], _, _, H1, rfl, I2, turn_enum a (s1.heap.objs.size + 1) s1.heap.objs.size, ⟨⟨.none, he⟩, hit, Nat.succ_ne_self _⟩, fresh2, q⟩
    · obtain ⟨its, rv, p', hz⟩ := I1.tuple hq
      have p'' : s1.heap.IsTuple a its.toArray := p'
      have hlt : a < s1.heap.objs.size := by obtain ⟨o, ho, _⟩ := p''; exact Heap.lt_size ho
      refine call_enumerate_B (begins_tuple a its.toArray) p'' fun h' he ho hsz hk => wpAny_pyIter_enum he ?_
      have I2 : Inv X pins σ H1 { s1 with heap := h' } := I1.kept (t' := s1.toks) hk
      exact ⟨s1.heap.objs.size + 1, [s1.heap.objs.size + 1, s1.heap.objs.size], _, _, H1, rfl, I2, turn_enumT a (s1.heap.objs.size + 1) s1.heap.objs.size, ⟨⟨.none, he⟩, ⟨_, ho, rfl, rfl⟩, Nat.succ_ne_self _, by intro z; rw [z] at hlt; exact Nat.lt_irrefl _ (Nat.lt_of_le_of_lt (Nat.le_succ _) hlt), Nat.ne_of_lt hlt⟩, fresh2, q⟩
theorem pi_enu (C : Pc X g N Φ ea k Wx sc) {a : Expr} {a' : Ex} {p tpos : Pos} {elts : List Expr} {kk : Nat} (hg : gloC sc "enumerate" = true) (hn : noStar [a] = true) (hs : a'.isStar = false) (ha : PE X a (Te X Φ ea Wx a')) : PI X (.Tuple elts kk tpos) (.Call (.Name "enumerate" p) [a] [] pos) (tI X Φ ea Wx .enu [a']) := by
  refine ⟨fun pins s st H R I q => (pi_enumA (C.gl hg) (C.blt _ (by decide +kernel)) (ada_cons hn hs ha ada_nil) (starEach_ns hn)).run pins s st H R I ?_⟩
  obtain ⟨W, ρ, σ, hρ, hσ, h⟩ := q
  refine ⟨W, ρ, σ, hρ, hσ, ?_⟩
  cases e1 : evs Φ [a'] ρ σ with
  | ok ds σ1 =>
    rw [e1] at h
    obtain ⟨xs, hi, h⟩ := h
    obtain ⟨d, rfl⟩ : ∃ d, ds = [d] := by
      match ds, hi with
      | [d], _ => exact ⟨d, rfl⟩
      | [], hi => cases hi
      | d :: e :: r, hi => cases d <;> cases hi
    have hi : (seq1 d).map enumD = some xs := by cases d <;> exact hi
    rw [Option.map_eq_some_iff] at hi
    obtain ⟨zs, hq, rfl⟩ := hi
    intro W' vs H' le r rd
    obtain ⟨v, rfl, rv⟩ := one_reps rd
    unfold seq1 at hq
    split at hq <;> cases hq <;> simp only [Rep] at rv <;> obtain ⟨a, us, rfl, q1, q2⟩ := rv
    · exact ⟨a, us, rfl, .inl ⟨sqL_ext r.sub (SqL.of q1), h W' H' _ le r (itok_enum (SqL.of q1) q2)⟩⟩
    · exact ⟨a, us, rfl, .inl ⟨sqL_ext r.sub q1, h W' H' _ le r (itok_enum q1 q2)⟩⟩
    · exact ⟨a, us, rfl, .inr ⟨sqT_ext r.sub q1.sq, h W' H' _ le r (itok_enumT q1.sq q2)⟩⟩
  | exc c d σ1 => rw [e1] at h; exact h
  | bad => rw [e1] at h; exact h

/-! ranges as values -/
theorem rg0 {P : Program} {w : World} {K : PySem.W.Frag} {W : Wd} {a : Int} : ∀ n : Nat, Reps P w K W ((List.range n).map fun (i : Nat) => D.int (a + (i : Int))) ((List.range n).map fun (i : Nat) => V.int (a + (i : Int))) := by
  intro n
  generalize List.range n = l
  induction l with
  | nil => exact Reps.nil
  | cons x r ih => exact Reps.cons (by simp only [Rep]) ih
def tTupRgF (te : L2.St → Hp → (Int → Int → Hp → Prop) → Prop) : TE := fun σ H Q => te σ H fun a b H1 => RgOk a b ∧ ∀ q o, H1 q = none → o.dict = none → Q (.ref q) (upd H1 q (.frz o (.tup (rgV a b))))
theorem pe_tupRgF {e : Expr} {te : L2.St → Hp → (Int → Int → Hp → Prop) → Prop} {p pos : Pos} (hc : X.calm = true) (hg : Gl X "tuple") (hm : X.mg "tuple" = none) (he : PRg X e te) (na : starEach [e] X.env = (false, eval e X.env) :: starEach [] X.env) : PE X (.Call (.Name "tuple" p) [e] [] pos) (tTupRgF te) := by
  refine ⟨fun pins s σ H Q I h => ?_⟩
  refine PyProof.Rows.Call_ (ld_blt I hg hm PyProof.Rows.boot_tuple (PyProof.Rows.callWith_type1 (PyProof.Rows.args_cons (thn (he pins s σ H _ I h) fun x s1 ⟨r, a, b, t, u, v, H1, ex, hr, I1, ok, q⟩ => PyProof.Rows.args_nil ?_) na) na))
  subst ex
  obtain ⟨b1, b2, b3, b4, b5⟩ := ok
  refine call_tuple_range (n := (b - a).toNat) (I1.ok.hd hc) hr (small_one b1 b2 b3 b4) (PyProof.Rows.rangeSize_nat a b) b5 fun h' tk acc hk hi => ?_
  have I2 : Inv X pins σ H1 { s1 with heap := h', toks := tk } := I1.kept hk
  obtain ⟨o, ho, I3⟩ := Inv.tupNew (s := { s1 with heap := h', toks := tk }) I2 (by rw [rgV_length, sizeLine_eq]; omega) (vals_rg hi)
  refine ⟨.ref h'.objs.size, _, ?_, rfl, q _ o (I2.hok.fresh (Nat.le_refl _)) ho⟩
  simpa using I3
theorem ad_rgs1 (C : Pc X g N Φ ea k Wx sc) {tp mu : Bool} {a : Expr} {a' : Ex} {p p2 pos2 : Pos} (g1 : gloC sc (if tp then ("tuple" : Str) else "list") = true) (g2 : gloC sc "range" = true) (hn : noStar [a] = true) (hs : a'.isStar = false) (ha : PE X a (Te X Φ ea Wx a')) :
    PE X (.Call (.Name (if tp then ("tuple" : Str) else "list") p) [.Call (.Name "range" p2) [a] [] pos2] [] pos) (Te X Φ ea Wx (.rgs tp mu [a'])) := by
  have hr := prg_1 (C.gl g2) (C.blt "range" (by decide +kernel)) ha (p := p2) (pos := pos2) (starEach_ns hn)
  have key : ∀ {st : L2.St} {H : Hp} {Q : VK}, Te X Φ ea Wx (.rgs tp mu [a']) st H Q → tRg1 (Te X Φ ea Wx a') st H fun lo hi H1 => RgOk lo hi ∧ if tp then (∀ q o, H1 q = none → o.dict = none → Q (.ref q) (upd H1 q (.frz o (.tup (rgV lo hi))))) else ∀ q, H1 q = none → Q (.ref q) (upd H1 q (.lst (rgV lo hi))) := by
    rintro st H Q ⟨W, ρ, σ, hρ, hσ, h⟩
    unfold ev at h
    rw [evs_cons hs] at h
    show Te X Φ ea Wx a' st H _
    have h : Post X.prog X.w X.K ea Wx st W ((ev Φ a' ρ σ).bind fun x σ1 => match rngOf [x] with
      | some xs => if tp = true then newT xs σ1 else newL mu xs σ1
      | none => .bad) Q := by
      cases q : ev Φ a' ρ σ with
      | ok x σ1 => rw [q] at h; unfold evs at h; exact h
      | exc c d σ1 => rw [q] at h; exact h
      | bad => rw [q] at h; exact h
    refine tE.bind hρ hσ h fun x σ1 W1 v H1 le1 hσ1 r1 h1 => ?_
    split at h1
    · rename_i xs hx
      unfold rngOf at hx
      split at hx
      · rename_i n e
        injection e with e _
        subst e
        split at hx
        · rename_i hb
          cases hx
          have hv : v = .int n := by simpa only [Rep] using r1
          subst hv
          refine ⟨n, rfl, ⟨by decide, by decide, hb.1, by omega, by omega⟩, ?_⟩
          have e1 : ((List.range n.toNat).map fun (i : Nat) => D.int (i : Int)) = (List.range n.toNat).map fun (i : Nat) => D.int (0 + (i : Int)) := by simp
          have e2 : rgV 0 n = (List.range n.toNat).map fun (i : Nat) => V.int (0 + (i : Int)) := by unfold rgV; rw [Int.sub_zero]
          rw [e1] at h1
          rw [e2]
          cases tp
          · exact (h1.newL hσ1 (rg0 n.toNat)).2
          · exact (h1.newT hσ1 (rg0 n.toNat)).2
        · cases hx
      · rename_i e; injection e with _ e; cases e
      · cases hx
    · exact False.elim h1
  cases tp
  · exact (pe_listRg C.pl.calm (C.gl g1) (C.blt "list" (by decide +kernel)) hr (starEach_ns (by rfl))).imp fun st H Q h => key h
  · exact (pe_tupRgF C.pl.calm (C.gl g1) (C.blt "tuple" (by decide +kernel)) hr (starEach_ns (by rfl))).imp fun st H Q h => key h
theorem ad_rgs2 (C : Pc X g N Φ ea k Wx sc) {tp mu : Bool} {a b : Expr} {a' b' : Ex} {p p2 pos2 : Pos} (g1 : gloC sc (if tp then ("tuple" : Str) else "list") = true) (g2 : gloC sc "range" = true) (hn : noStar [a, b] = true) (hs : a'.isStar = false) (hs2 : b'.isStar = false) (ha : PE X a (Te X Φ ea Wx a')) (hb : PE X b (Te X Φ ea Wx b')) :
    PE X (.Call (.Name (if tp then ("tuple" : Str) else "list") p) [.Call (.Name "range" p2) [a, b] [] pos2] [] pos) (Te X Φ ea Wx (.rgs tp mu [a', b'])) := by
  obtain ⟨n1, n2⟩ := noStar_cons hn
  have hr := prg_2 (C.gl g2) (C.blt "range" (by decide +kernel)) ha hb (p := p2) (pos := pos2) (starEach_ns n1) (starEach_ns n2) (plain_ns n2).1
  have key : ∀ {st : L2.St} {H : Hp} {Q : VK}, Te X Φ ea Wx (.rgs tp mu [a', b']) st H Q → tRg2 (Te X Φ ea Wx a') (Te X Φ ea Wx b') st H fun lo hi H1 => RgOk lo hi ∧ if tp then (∀ q o, H1 q = none → o.dict = none → Q (.ref q) (upd H1 q (.frz o (.tup (rgV lo hi))))) else ∀ q, H1 q = none → Q (.ref q) (upd H1 q (.lst (rgV lo hi))) := by
    rintro st H Q ⟨W, ρ, σ, hρ, hσ, h⟩
    unfold ev at h
    rw [evs_cons hs] at h
    show Te X Φ ea Wx a' st H _
    have h : Post X.prog X.w X.K ea Wx st W ((ev Φ a' ρ σ).bind fun x σ1 => (ev Φ b' ρ σ1).bind fun y σ2 => match rngOf [x, y] with
      | some xs => if tp = true then newT xs σ2 else newL mu xs σ2
      | none => .bad) Q := by
      cases q : ev Φ a' ρ σ with
      | ok x σ1 =>
        rw [q] at h
        have h : Post X.prog X.w X.K ea Wx st W (((evs Φ [b'] ρ σ1).bind fun ds σ2 => Res.ok (x :: ds) σ2).bind fun ds σ1 => match rngOf ds with
          | some xs => if tp = true then newT xs σ1 else newL mu xs σ1
          | none => .bad) Q := h
        rw [evs_cons hs2] at h
        show Post X.prog X.w X.K ea Wx st W ((ev Φ b' ρ σ1).bind fun y σ2 => match rngOf [x, y] with
          | some xs => if tp = true then newT xs σ2 else newL mu xs σ2
          | none => .bad) Q
        cases q2 : ev Φ b' ρ σ1 with
        | ok y σ2 => rw [q2] at h; unfold evs at h; exact h
        | exc c d σ1 => rw [q2] at h; exact h
        | bad => rw [q2] at h; exact h
      | exc c d σ1 => rw [q] at h; exact h
      | bad => rw [q] at h; exact h
    refine tE.bind hρ hσ h fun x σ1 W1 v H1 le1 hσ1 r1 h1 => tE.bind (hρ.mono le1) hσ1 h1 fun y σ2 W2 u H2 le2 hσ2 r2 h1 => ?_
    split at h1
    · rename_i xs hx
      unfold rngOf at hx
      split at hx
      · rename_i n e; injection e with _ e; cases e
      · rename_i i j e
        injection e with e1 e2
        injection e2 with e2 _
        subst e1 e2
        split at hx
        · rename_i hb
          cases hx
          have hv : v = .int i := by simpa only [Rep] using r1
          have hu : u = .int j := by simpa only [Rep] using r2
          subst hv hu
          refine ⟨i, j, rfl, rfl, ⟨hb.1, hb.2.1, hb.2.2.1, hb.2.2.2.1, by have := hb.2.2.2.2; omega⟩, ?_⟩
          have e2 : rgV i j = (List.range (j - i).toNat).map fun (n : Nat) => V.int (i + (n : Int)) := rfl
          rw [e2]
          cases tp
          · exact (h1.newL hσ2 (rg0 _)).2
          · exact (h1.newT hσ2 (rg0 _)).2
        · cases hx
      · cases hx
    · exact False.elim h1
  cases tp
  · exact (pe_listRg C.pl.calm (C.gl g1) (C.blt "list" (by decide +kernel)) hr (starEach_ns (by rfl))).imp fun st H Q h => key h
  · exact (pe_tupRgF C.pl.calm (C.gl g1) (C.blt "tuple" (by decide +kernel)) hr (starEach_ns (by rfl))).imp fun st H Q h => key h

/-! o.m( *e) -/
theorem fcB_bm {K : PySem.W.Frag} {c m : Str} {f : Addr} (h : fcB K (.bm c m) = true) (hm : Meth K (He.ga K c) m f) : BMeth K (He.ga K c) m f := by
  unfold fcB at h
  obtain ⟨h1, h⟩ := He.ba h
  obtain ⟨h2, h⟩ := He.ba h
  obtain ⟨h3, h⟩ := He.ba h
  obtain ⟨h4, h5⟩ := He.ba h
  have e := He.eqO_ok h1
  rw [hm.at_] at e
  have e : f = He.ma K (He.ga K c) m := by injection e with e; injection e with e; injection e
  subst e
  exact ⟨hm, He.eqO_ok h2, of_decide_eq_true h3, by simpa using h4, h5⟩
theorem permL_range : ∀ vs : List V, permL vs (List.range vs.length) = some vs := by
  have : ∀ (vs : List V) (n : Nat) (us : List V), us.length = n → permL (us ++ vs) ((List.range vs.length).map (n + ·)) = some vs := by
    intro vs
    induction vs with
    | nil => intro n us h; simp [permL]
    | cons v r ih =>
      intro n us h
      rw [List.length_cons, List.range_succ_eq_map, List.map_cons, List.map_map]
      unfold permL
      rw [List.mapM_cons]
      have e1 : (us ++ v :: r)[n + 0]? = some v := by rw [Nat.add_zero, ← h, List.getElem?_append_right (Nat.le_refl _), Nat.sub_self]; rfl
      have e2 := ih (n + 1) (us ++ [v]) (by simp [h])
      unfold permL at e2
      rw [List.append_assoc, List.singleton_append] at e2
      have e3 : (List.range r.length).map ((n + ·) ∘ Nat.succ) = (List.range r.length).map (n + 1 + ·) := List.map_congr_left fun x _ => by show n + (x + 1) = n + 1 + x; omega
      rw [e1, e3, e2]; rfl
  intro vs
  have h := this vs 0 [] rfl
  simpa using h
theorem permD_range : ∀ vs : List D, permD vs (List.range vs.length) = some vs := by
  have : ∀ (vs : List D) (n : Nat) (us : List D), us.length = n → permD (us ++ vs) ((List.range vs.length).map (n + ·)) = some vs := by
    intro vs
    induction vs with
    | nil => intro n us h; simp [permD]
    | cons v r ih =>
      intro n us h
      rw [List.length_cons, List.range_succ_eq_map, List.map_cons, List.map_map]
      unfold permD
      rw [List.mapM_cons]
      have e1 : (us ++ v :: r)[n + 0]? = some v := by rw [Nat.add_zero, ← h, List.getElem?_append_right (Nat.le_refl _), Nat.sub_self]; rfl
      have e2 := ih (n + 1) (us ++ [v]) (by simp [h])
      unfold permD at e2
      rw [List.append_assoc, List.singleton_append] at e2
      have e3 : (List.range r.length).map ((n + ·) ∘ Nat.succ) = (List.range r.length).map (n + 1 + ·) := List.map_congr_left fun x _ => by show n + (x + 1) = n + 1 + x; omega
      rw [e1, e3, e2]; rfl
  intro vs
  have h := this vs 0 [] rfl
  simpa using h
/-- .. what is run: as run_call, the outcome as a call node has it -/
theorem run_callS (C : Pc X g N Φ ea k Wx sc) {pins : List (Addr × Obj)} {st : L2.St} {H : Hp} {s : Shared} {Q : VK} {f : Addr} {fd : FuncData} {ps : List Str} {np i : Nat} {sh : Shp} {us : List Value} {vs : List V} {W : Wd} {σ : Store} {xs : List D}
    (F : FnG X.prog X.w X.K X.mg X.base k f fd ps (spC X.prog X.w X.K ea Φ np i)) (hp : sh.pm.length = np ∧ ps.length = np ∧ ShOk X.prog X.w X.K fd ps sh) (I : Inv X pins st H s) (rv : Vals vs us) (l1 : us.length = sh.np) (l2 : sh.ks = []) (l3 : sh.ds.length = 0) (l4 : sh.pm = List.range sh.np)
    (hσ : Rel X.prog X.w X.K W σ H) (rx : Reps X.prog X.w X.K W xs vs)
    (h : Post X.prog X.w X.K ea Wx st W (Φ i xs σ) Q) : codeAny (model X.prog X.w) X.A (.call (.ref f) ⟨us, []⟩) (fun r s' => match r with | .ok (.ret v) => EP X pins st Q v s' | .ok _ => False | .error e => X.xe e s') s := by
  obtain ⟨hp1, hp2, ⟨dv, du, rd, rdd, hb⟩⟩ := hp
  obtain ⟨bs, e1, hbb⟩ := hb s us [] I.kIn l1 (by rw [l2]; rfl)
  have l3' : sh.ds = [] := List.eq_nil_of_length_eq_zero l3
  have hl : vs.length = sh.np := by rw [rv.length, l1]
  have hdv : dv = [] := by
    have := (rdd ⟨0, fun _ => 0, fun _ => none, []⟩).length
    rw [l3'] at this
    exact List.eq_nil_of_length_eq_zero this.symm
  subst hdv
  cases rd
  have hc : permL (vs ++ [] ++ []) sh.pm = some vs := by rw [List.append_nil, List.append_nil, l4, ← hl]; exact permL_range vs
  obtain ⟨bs', e3, rb⟩ := permL_vals ((rv.append (.nil : Vals [] [])).append .nil) hc
  rw [e1] at e3
  cases e3
  rw [l2] at hbb
  refine codeAny_mono (F.run X.A X.stack s H ⟨us, []⟩ bs vs Q (fun c d H => Wx c d st H) (C.room.mono (Nat.le_succ _)) C.pl.guards I.env0 hbb rb ⟨by rw [hl, ← hp1, l4, List.length_range], W, σ, xs, hσ, rx, ?_⟩) fun r s' hq => ?_
  · cases q : Φ i xs σ with
    | ok d σ' => rw [q] at h; exact h
    | exc c d σ' => rw [q] at h; exact h
    | bad => rw [q] at h; exact h
  · cases r with
    | error e => exact C.tk e s' (XE.of_call I (fun _ _ _ h => h) hq)
    | ok fl =>
      cases fl with
      | ret u => exact I.after hq
      | next => exact False.elim hq
      | brk => exact False.elim hq
      | cont => exact False.elim hq
theorem ad_mcallS (C : Pc X g N Φ ea k Wx sc) {c m : Str} {apos p : Pos} {a e : Expr} {a' e' : Ex} {f np' : Nat} {shs : List Shp} {sh : Shp} (hb : baseOk a = true) (ho : PE X a (Te X Φ ea Wx a')) (he : PE X e (Te X Φ ea Wx e')) (hfc : g.fcs.contains (.bm c m) = true)
    (hf : g.mes.lookup (c, m) = some (f, shs)) (hm : sh ∈ shs) (h1 : sh.np = np') (h2 : sh.ks = []) (h3 : sh.ds.length = 0) (h4 : sh.pm = List.range sh.np) : PE X (.Call (.Attribute a m apos) [.Starred e p] [] pos) (Te X Φ ea Wx (.mcallS c m f np' a' e')) := by
  subst h1
  obtain ⟨ad, fd, ps, np, hme, F, hsh⟩ := C.meths c m f shs hf
  have B := fcB_bm (C.fcs _ hfc) hme
  refine ⟨fun pins s st H Q I q => ?_⟩
  obtain ⟨W, ρ, σ, hρ, hσ, h⟩ := q
  unfold ev at h
  refine starcall_of (base_ok hb) (thn (ho.run pins s st H _ I (tE.bind (Q := Q) (T := fun x H1 => ∃ n cc fs W1 σ1, x = .ref (W1.μ n) ∧ Rel X.prog X.w X.K W1 σ1 H1 ∧ EnvR X.prog X.w X.K W1 ρ st ∧ σ1[n]? = some (.obj cc fs) ∧ cc = c ∧ n < W1.n ∧
      Post X.prog X.w X.K ea Wx st W1 ((ev Φ e' ρ σ1).bind fun y σ2 => match y with
        | .tup ys => if ys.length + 1 = sh.np then Φ f (.ref n :: ys) σ2 else .bad
        | _ => .bad) Q) hρ hσ h fun x σ1 W1 v H1 le1 hσ1 r1 h1 => ?_)) fun u s1 ⟨x, H1, I1, rx, n, cc, fs, W1, σ1, ex, hσ1, hρ1, ec, ecc, hn, hp⟩ => ?_)
  · split at h1
    · rename_i hi
      unfold isObj at hi
      split at hi
      · rename_i n
        unfold isObjC at hi
        split at hi
        · rename_i cc fs ec
          simp only [Rep] at r1
          exact ⟨n, cc, fs, W1, σ1, r1.2, hσ1, hρ.mono le1, ec, of_decide_eq_true hi, r1.1, h1⟩
        · cases hi
      · cases hi
    · exact False.elim h1
  subst ecc ex
  obtain rfl : u = Value.ref (W1.μ n) := rx
  obtain ⟨c1, c2, vs0, dx, c3, c4⟩ := obj_at hσ1 ec
  have hnl : ((fs.map (·.1)).zip vs0).lookup m = none := lookup_none_obj fun hmm => by
    have q1 := c2 m hmm
    have q2 := hme.at_
    unfold NoAttr at q1
    rw [q1] at q2
    cases q2
  refine getbound_ok I1 c3 c1.cl B hnl fun q1 s2 hq1 I2 => ?_
  refine PySem.W.ks_call (P := PySem.W.MethP X.K q1 ad (.ref (W1.μ n))) rfl (PySem.W.keeps_M B.fi) (PySem.W.ks_lone ?_)
  have hle : Le W1 (W1.add q1 (.met ad (W1.μ n))) := hσ1.leAdd hq1
  have hσ2 : Rel X.prog X.w X.K (W1.add q1 (.met ad (W1.μ n))) σ1 (upd H1 q1 (.met ad (W1.μ n))) := hσ1.add hq1
  refine thn (he.run pins s2 st _ _ I2 (tE.bind (Q := Q) (T := fun y H2 => ∃ t vs W2 σ2 ys, y = .ref t ∧ SqT X.K H2 t vs ∧ H2 q1 = some (.met ad (W1.μ n)) ∧ Rel X.prog X.w X.K W2 σ2 H2 ∧ Reps X.prog X.w X.K W2 (.ref n :: ys) (.ref (W1.μ n) :: vs) ∧ ys.length + 1 = sh.np ∧
      Post X.prog X.w X.K ea Wx st W2 (Φ f (.ref n :: ys) σ2) Q) (hρ1.mono hle) hσ2 (Post.mono hle hp) fun y σ2 W2 v H2 le2 hσ2' r2 hp2 => ?_)) fun v s3 ⟨y, H2, I3, ry, t, vs, W2, σ2, ys, ey, ht, hmt, hσ3, rr, hl, hp3⟩ => ?_
  · split at hp2
    · rename_i ys
      split at hp2
      · rename_i hl
        simp only [Rep] at r2
        obtain ⟨t, vs, rfl, s1', s2'⟩ := r2
        refine ⟨t, vs, W2, σ2, ys, rfl, sqT_ext hσ2'.sub s1'.sq, hσ2'.sub _ _ (le2.F _ _ upd_same), hσ2', Reps.cons (Rep.mono (hle.trans le2) (by simp only [Rep]; exact ⟨hn, trivial⟩)) s2', hl, hp2⟩
      · exact False.elim hp2
    · exact False.elim hp2
  subst ey
  obtain rfl : v = Value.ref t := ry
  refine star_tup I3 ht fun us s4 I4 rv => ⟨met_P I4 hmt, ?_⟩
  refine wpAny_call (PySem.W.method_call (met_P I4 hmt).1 (run_callS C F (hsh sh hm) (us := Value.ref (W1.μ n) :: us) (vs := V.ref (W1.μ n) :: vs) I4 (.cons rfl rv) ?_ h2 h3 h4 hσ3 rr hp3))
  have l1 := rr.length
  have l2 := rv.length
  rw [List.length_cons] at l1 ⊢
  rw [List.length_cons] at l1
  omega
/-! f-strings -/
/-- what the parts, put together, end in -/
def JPost (X : Cx) (W : Wd) (r : Res (List D)) (acc : Str) (Q : Str → Hp → Prop) : Prop := match r with
  | .ok ds σ => match fjoin ds acc with
    | some x => ∀ W' H', Le W W' → Rel X.prog X.w X.K W' σ H' → Q x H'
    | none => False
  | _ => False
theorem JPost.mono {W W1 : Wd} {r : Res (List D)} {acc : Str} {Q : Str → Hp → Prop} (le : Le W W1) (h : JPost X W r acc Q) : JPost X W1 r acc Q := by
  unfold JPost at *
  split at h
  · split at h
    · exact fun W' H' l r => h W' H' (le.trans l) r
    · exact h
  · exact h
theorem fj_str {x acc : Str} {r : List D} {y : Str} (h : fjoin (.str x :: r) acc = some y) : x.length ≤ lim ∧ (acc ++ x).length ≤ lim ∧ fjoin r (acc ++ x) = some y := by
  unfold fjoin at h
  split at h
  · rename_i hh; exact ⟨hh.1, hh.2, h⟩
  · cases h
theorem fj_int {i : Int} {acc : Str} {r : List D} {y : Str} (h : fjoin (.int i :: r) acc = some y) : i.natAbs.log2 < 1920 ∧ (acc ++ toString i : Str).length ≤ lim ∧ fjoin r (acc ++ (toString i : Str)) = some y := by
  unfold fjoin at h
  split at h
  · rename_i hh; exact ⟨hh.1, hh.2, h⟩
  · cases h
end
end Iv

set_option Elab.async false
set_option linter.all false
set_option maxHeartbeats 16000000
set_option maxRecDepth 8000
/-! adequacy: all expressions -/
namespace Iv
open PySem PySem.Spec L2
structure AdE (g : Sg) (N : List Str) (Φ : CallSem) (ea : Exa) (k n : Nat) : Prop where
  fE : ∀ {X : Cx} {Wx : WX} {sc : Scope}, Pc X g N Φ ea k Wx sc → ∀ {a : Expr} {a' : Ex}, chkE g N n sc a a' = true → PE X a (Te X Φ ea Wx a') ∧ PT X a (Tt X Φ ea Wx a')
  fW : ∀ {X : Cx} {Wx : WX} {sc : Scope}, Pc X g N Φ ea k Wx sc → ∀ {op : BoolOp} {vs : List Expr} {p : Pos} {a' : Ex}, chkE g N n sc (.BoolOp op vs p) a' = true → PW X (.BoolOp op vs p) (Tt X Φ ea Wx a')
  fO : ∀ {X : Cx} {Wx : WX} {sc : Scope}, Pc X g N Φ ea k Wx sc → ∀ {a : Option Expr} {a' : Ex}, chkO g N n sc a a' = true → PO X a (To X Φ ea Wx a')
  fF : ∀ {X : Cx} {Wx : WX} {sc : Scope}, Pc X g N Φ ea k Wx sc → ∀ {a : List Expr} {a' : Ex}, chkIf g N n sc a a' = true → PTs X a (Tt X Φ ea Wx a')
  fA : ∀ {X : Cx} {Wx : WX} {sc : Scope}, Pc X g N Φ ea k Wx sc → ∀ {a : List Expr} {a' : List Ex}, chkA g N n sc a a' = true → PA X a (Ta X Φ ea Wx a') ∧ (noStar a = true → a.length = a'.length ∧ (a'.all fun e => !e.isStar) = true)
  fK : ∀ {X : Cx} {Wx : WX} {sc : Scope}, Pc X g N Φ ea k Wx sc → ∀ {a : List Keyword} {a' : List Ex}, chkK g N n sc a a' = true → PK X a (Ta X Φ ea Wx a') ∧ a.length = a'.length ∧ (a'.all fun e => !e.isStar) = true
  fD : ∀ {X : Cx} {Wx : WX} {sc : Scope}, Pc X g N Φ ea k Wx sc → ∀ {pos : Pos} {a : List (Option Expr)} {b : List Expr} {a' : List Ex}, chkD g N n sc a b a' = true → PPs X pos a b (trsOf X Φ ea Wx a') ∧ a.all (·.isSome) = true ∧ a.length = b.length ∧ evenP a' = true ∧ (a = [] → a' = [])
  fI : ∀ {X : Cx} {Wx : WX} {sc : Scope}, Pc X g N Φ ea k Wx sc → ∀ {tg a : Expr} {kd : IK} {a' : List Ex}, chkI g N n sc tg a kd a' = true → PI X tg a (tI X Φ ea Wx kd a') ∧ ∀ x, foldedSetIterable a X.env x = pure x
  fJ : ∀ {X : Cx} {Wx : WX} {sc : Scope}, Pc X g N Φ ea k Wx sc → ∀ {a : List Expr} {a' : List Ex}, chkJ g N n sc a a' = true → ∃ ts, PJ X a ts ∧ ∀ acc st H Q W ρ σ, EnvR X.prog X.w X.K W ρ st → Rel X.prog X.w X.K W σ H → JPost X W (evs Φ a' ρ σ) acc Q → tJs ts acc st H Q
section
variable {X : Cx} {g : Sg} {N : List Str} {Φ : CallSem} {ea : Exa} {k : Nat} {Wx : WX} {sc : Scope} {n : Nat}
theorem adE0 : AdE g N Φ ea k 0 where
  fE := by intro X Wx sc _ a a' h; rw [chkE.eq_def] at h; cases h
  fW := by intro X Wx sc _ op vs p a' h; rw [chkE.eq_def] at h; cases h
  fO := by intro X Wx sc _ a a' h; rw [chkO.eq_def] at h; cases h
  fJ := by intro X Wx sc _ a a' h; rw [chkJ.eq_def] at h; cases h
  fF := by intro X Wx sc _ a a' h; rw [chkIf.eq_def] at h; cases h
  fA := by intro X Wx sc _ a a' h; rw [chkA.eq_def] at h; cases h
  fK := by intro X Wx sc _ a a' h; rw [chkK.eq_def] at h; cases h
  fD := by intro X Wx sc _ pos a b a' h; rw [chkD.eq_def] at h; cases h
  fI := by intro X Wx sc _ tg a kd a' h; rw [chkI.eq_def] at h; cases h
theorem fold_pure {e : Expr} {env : PySem.Env} (h : (match e with
    | .Set .. => false
    | _ => true) = true) : ∀ x, foldedSetIterable e env x = pure x := by
  intro x
  cases e <;> first | rfl | cases h
theorem adA (ih : AdE g N Φ ea k n) (C : Pc X g N Φ ea k Wx sc) {a : List Expr} {a' : List Ex} (h : chkA g N (n + 1) sc a a' = true) : PA X a (Ta X Φ ea Wx a') ∧ (noStar a = true → a.length = a'.length ∧ (a'.all fun e => !e.isStar) = true) := by
  unfold chkA at h
  split at h
  · rename_i q; cases q
  · exact ⟨ada_nil, fun _ => ⟨rfl, rfl⟩⟩
  · rename_i m sc' e p es e' es' q
    cases q
    simp only [Bool.and_eq_true] at h
    exact ⟨ada_star (ih.fE C h.1).1 (ih.fA C h.2).1, fun z => by cases z⟩
  · rename_i m sc' e es e' es' hne q
    cases q
    simp only [Bool.and_eq_true, Bool.not_eq_true'] at h
    obtain ⟨⟨⟨h1, h2⟩, h3⟩, h4⟩ := h
    obtain ⟨i1, i2⟩ := ih.fA C h4
    refine ⟨ada_cons h1 h2 (ih.fE C h3).1 i1, fun z => ?_⟩
    obtain ⟨j1, j2⟩ := i2 (noStar_cons z).2
    exact ⟨congrArg (· + 1) j1, by rw [List.all_cons, j2, h2]; rfl⟩
  · cases h
theorem adK (ih : AdE g N Φ ea k n) (C : Pc X g N Φ ea k Wx sc) {a : List Keyword} {a' : List Ex} (h : chkK g N (n + 1) sc a a' = true) : PK X a (Ta X Φ ea Wx a') ∧ a.length = a'.length ∧ (a'.all fun e => !e.isStar) = true := by
  unfold chkK at h
  split at h
  · rename_i q; cases q
  · exact ⟨adk_nil, rfl, rfl⟩
  · rename_i m sc' e es e' es' q
    cases q
    simp only [Bool.and_eq_true, Bool.not_eq_true'] at h
    obtain ⟨⟨h1, h2⟩, h3⟩ := h
    obtain ⟨i1, i2, i3⟩ := ih.fK C h3
    exact ⟨adk_cons h1 (ih.fE C h2).1 i1, congrArg (· + 1) i2, by rw [List.all_cons, i3, h1]; rfl⟩
  · cases h
theorem adD (ih : AdE g N Φ ea k n) (C : Pc X g N Φ ea k Wx sc) {pos : Pos} {a : List (Option Expr)} {b : List Expr} {a' : List Ex} (h : chkD g N (n + 1) sc a b a' = true) : PPs X pos a b (trsOf X Φ ea Wx a') ∧ a.all (·.isSome) = true ∧ a.length = b.length ∧ evenP a' = true ∧ (a = [] → a' = []) := by
  unfold chkD at h
  split at h
  · rename_i q; cases q
  · exact ⟨pps_nil, rfl, rfl, rfl, fun _ => rfl⟩
  · rename_i m sc' e es v vs e' v' r q
    cases q
    simp only [Bool.and_eq_true, Bool.not_eq_true'] at h
    obtain ⟨⟨⟨⟨h1, h2⟩, h3⟩, h4⟩, h5⟩ := h
    obtain ⟨i1, i2, i3, i4, _⟩ := ih.fD C (pos := pos) h5
    refine ⟨pps_cons (ih.fE C h3).1 (ih.fE C h4).1 i1, by rw [List.all_cons, i2]; rfl, congrArg (· + 1) i3, by unfold evenP; rw [h1, h2, i4]; rfl, fun z => by cases z⟩
  · cases h
theorem adO (ih : AdE g N Φ ea k n) (C : Pc X g N Φ ea k Wx sc) {a : Option Expr} {a' : Ex} (h : chkO g N (n + 1) sc a a' = true) : PO X a (To X Φ ea Wx a') := by
  unfold chkO at h
  split at h
  · rename_i q; cases q
  · exact ado_none
  · rename_i m sc' e e' q
    cases q
    exact ado_any (ih.fE C h).1
  · cases h
theorem adF (ih : AdE g N Φ ea k n) (C : Pc X g N Φ ea k Wx sc) {a : List Expr} {a' : Ex} (h : chkIf g N (n + 1) sc a a' = true) : PTs X a (Tt X Φ ea Wx a') := by
  unfold chkIf at h
  split at h
  · rename_i q; cases q
  · refine pts_nil.imp ?_
    rintro st H Q ⟨W, ρ, σ, hρ, hσ, h⟩
    have h : TPost X.prog X.w X.K ea Wx st W (ev Φ (.bl true) ρ σ) Q := h
    unfold ev at h
    exact h.here hσ rfl
  · rename_i m sc' e e' q
    cases q
    exact pts_one (ih.fE C h).2
  · cases h
theorem adI (ih : AdE g N Φ ea k n) (C : Pc X g N Φ ea k Wx sc) {tg a : Expr} {kd : IK} {a' : List Ex} (h : chkI g N (n + 1) sc tg a kd a' = true) : PI X tg a (tI X Φ ea Wx kd a') ∧ ∀ x, foldedSetIterable a X.env x = pure x := by
  unfold chkI at h
  split at h
  · rename_i q; cases q
  · rename_i m sc' tg' x p e pos e' q
    cases q
    simp only [Bool.and_eq_true, Bool.not_eq_true', decide_eq_true_eq] at h
    obtain ⟨⟨⟨⟨h1, h2⟩, h3⟩, h4⟩, h5⟩ := h
    subst h1
    exact ⟨pi_rng C h2 h3 h4 (ih.fE C h5).1, fun _ => rfl⟩
  · rename_i m sc' tg' x p e f pos e' f' q
    cases q
    simp only [Bool.and_eq_true, Bool.not_eq_true', decide_eq_true_eq] at h
    obtain ⟨⟨⟨⟨⟨⟨h1, h2⟩, h3⟩, h4⟩, h5⟩, h6⟩, h7⟩ := h
    subst h1
    exact ⟨pi_rng2 C h2 h3 h4 h5 (ih.fE C h6).1 (ih.fE C h7).1, fun _ => rfl⟩
  · rename_i m sc' elts kk tpos x p e f pos e' f' q
    cases q
    simp only [Bool.and_eq_true, Bool.not_eq_true', decide_eq_true_eq] at h
    obtain ⟨⟨⟨⟨⟨⟨h1, h2⟩, h3⟩, h4⟩, h5⟩, h6⟩, h7⟩ := h
    subst h1
    exact ⟨pi_zp C h2 h3 h4 h5 (ih.fE C h6).1 (ih.fE C h7).1, fun _ => rfl⟩
  · rename_i m sc' elts kk tpos x p e pos e' q
    cases q
    simp only [Bool.and_eq_true, Bool.not_eq_true', decide_eq_true_eq] at h
    obtain ⟨⟨⟨⟨h1, h2⟩, h3⟩, h4⟩, h5⟩ := h
    subst h1
    exact ⟨pi_enu C h2 h3 h4 (ih.fE C h5).1, fun _ => rfl⟩
  · rename_i m sc' tg' e e' q
    cases q
    simp only [Bool.and_eq_true, Bool.not_eq_true'] at h
    obtain ⟨⟨h1, h2⟩, h3⟩ := h
    exact ⟨pi_on h1 (ih.fE C h3).1, fold_pure h2⟩
  · cases h
theorem adJ (ih : AdE g N Φ ea k n) (C : Pc X g N Φ ea k Wx sc) {a : List Expr} {a' : List Ex} (h : chkJ g N (n + 1) sc a a' = true) : ∃ ts, PJ X a ts ∧ ∀ acc st H Q W ρ σ, EnvR X.prog X.w X.K W ρ st → Rel X.prog X.w X.K W σ H → JPost X W (evs Φ a' ρ σ) acc Q → tJs ts acc st H Q := by
  unfold chkJ at h
  split at h
  · rename_i q; cases q
  · refine ⟨[], .nil, fun acc st H Q W ρ σ hρ hσ hj => ?_⟩
    unfold evs at hj
    exact hj W H (Le.refl _) hσ
  · rename_i m sc' x kk p es y es' q
    cases q
    rw [Bool.and_eq_true, decide_eq_true_eq] at h
    obtain ⟨rfl, h⟩ := h
    obtain ⟨ts, t1, t2⟩ := ih.fJ C h
    refine ⟨_, .cons (ad_str (Φ := Φ) (ea := ea) (Wx := Wx)) t1, fun acc st H Q W ρ σ hρ hσ hj => ?_⟩
    rw [evs_cons (by rfl)] at hj
    unfold ev at hj
    have hj : JPost X W ((evs Φ es' ρ σ).bind fun ds σ2 => Res.ok (.str x :: ds) σ2) acc Q := hj
    show Te X Φ ea Wx (.str x) st H _
    refine ⟨W, ρ, σ, hρ, hσ, ?_⟩
    unfold ev
    intro W' v H' le r rd
    have hv : v = .str x := by simpa only [Rep] using rd
    cases q : evs Φ es' ρ σ with
    | ok ds σ2 =>
      rw [q] at hj
      unfold JPost at hj
      dsimp only [Res.bind] at hj
      split at hj
      · rename_i z hz
        obtain ⟨z1, z2, z3⟩ := fj_str hz
        refine ⟨x, hv, by rw [← lim_eq]; exact z2, t2 _ _ _ _ W' ρ σ (hρ.mono le) r ?_⟩
        rw [q]
        unfold JPost
        dsimp only
        rw [z3]
        exact fun W2 H2 l2 r2 => hj W2 H2 (le.trans l2) r2
      · exact False.elim hj
    | exc c d σ2 => rw [q] at hj; exact False.elim hj
    | bad => rw [q] at hj; exact False.elim hj
  · rename_i m sc' e p es e' es' q
    cases q
    simp only [Bool.and_eq_true, Bool.not_eq_true'] at h
    obtain ⟨⟨h1, h2⟩, h3⟩ := h
    obtain ⟨ts, t1, t2⟩ := ih.fJ C h3
    refine ⟨_, .cons (pe_fmt (ih.fE C h2).1) t1, fun acc st H Q W ρ σ hρ hσ hj => ?_⟩
    rw [evs_cons h1] at hj
    show Te X Φ ea Wx e' st H _
    refine ⟨W, ρ, σ, hρ, hσ, ?_⟩
    cases q1 : ev Φ e' ρ σ with
    | ok d σ1 =>
      rw [q1] at hj
      have hj : JPost X W ((evs Φ es' ρ σ1).bind fun ds σ2 => Res.ok (d :: ds) σ2) acc Q := hj
      intro W' v H' le r rd
      cases q : evs Φ es' ρ σ1 with
      | ok ds σ2 =>
        rw [q] at hj
        unfold JPost at hj
        dsimp only [Res.bind] at hj
        split at hj
        · rename_i z hz
          have fin : ∀ y, fjoin ds (acc ++ y) = some z → tJs ts (acc ++ y) st H' Q := fun y hy => by
            refine t2 _ _ _ _ W' ρ σ1 (hρ.mono le) r ?_
            rw [q]
            unfold JPost
            dsimp only
            rw [hy]
            exact fun W2 H2 l2 r2 => hj W2 H2 (le.trans l2) r2
          cases d with
          | str y =>
            obtain ⟨z1, z2, z3⟩ := fj_str hz
            exact .inl ⟨y, by simpa only [Rep] using rd, by rw [← lim_eq]; exact z1, y, rfl, by rw [← lim_eq]; exact z2, fin y z3⟩
          | int i =>
            obtain ⟨z1, z2, z3⟩ := fj_int hz
            exact .inr ⟨i, by simpa only [Rep] using rd, z1, toString i, rfl, by rw [← lim_eq]; exact z2, fin _ z3⟩
          | _ => cases hz
        · exact False.elim hj
      | exc c d σ2 => rw [q] at hj; exact False.elim hj
      | bad => rw [q] at hj; exact False.elim hj
    | exc c d σ1 => rw [q1] at hj; exact False.elim hj
    | bad => rw [q1] at hj; exact False.elim hj
  · cases h
theorem ad_fstr (ih : AdE g N Φ ea k n) (C : Pc X g N Φ ea k Wx sc) {a b : Expr} {r : List Expr} {es' : List Ex} {pos : Pos} (h : chkJ g N n sc (a :: b :: r) es' = true) : PE X (.JoinedStr (a :: b :: r) pos) (Te X Φ ea Wx (.fstr es')) := by
  obtain ⟨ts, t1, t2⟩ := ih.fJ C h
  refine (pe_joined t1).imp ?_
  rintro st H Q ⟨W, ρ, σ, hρ, hσ, h⟩
  unfold ev at h
  refine t2 _ _ _ _ W ρ σ hρ hσ ?_
  cases q : evs Φ es' ρ σ with
  | ok ds σ1 =>
    rw [q] at h
    unfold JPost
    dsimp only
    have h : Post X.prog X.w X.K ea Wx st W (match fjoin ds Str.empty with
      | some x => .ok (.str x) σ1
      | none => .bad) Q := h
    split at h
    · rename_i x hx
      try rw [hx]
      exact fun W' H' le r => h W' (.str x) H' le r (by simp only [Rep])
    · exact False.elim h
  | exc c d σ1 => rw [q] at h; exact False.elim h
  | bad => rw [q] at h; exact False.elim h
theorem pl_of {a : Expr} {a' : Ex} (h : PE X a (Te X Φ ea Wx a')) (ht : ∀ whole, isTrue a X.env whole = (do let v ← whole; standAt a.pos; holding [v] (truthy v))) (hn : ∀ op vs p, a = .BoolOp op vs p → False) :
    PE X a (Te X Φ ea Wx a') ∧ PT X a (Tt X Φ ea Wx a') ∧ ∀ op vs p, a = .BoolOp op vs p → PW X a (Tt X Φ ea Wx a') := ⟨h, adt_plain h ht, fun op vs p e => (hn op vs p e).elim⟩
theorem minus1 {st : Option Expr} (h : isMinus1 st = true) : ∃ k p1 p2, st = some (.UnaryOp .USub (.Constant (.int 1) k p1) p2) := by
  unfold isMinus1 at h
  split at h
  · exact ⟨_, _, _, rfl⟩
  · cases h
theorem adE (ih : AdE g N Φ ea k n) (C : Pc X g N Φ ea k Wx sc) {a : Expr} {a' : Ex} (h : chkE g N (n + 1) sc a a' = true) : PE X a (Te X Φ ea Wx a') ∧ PT X a (Tt X Φ ea Wx a') ∧ ∀ op vs p, a = .BoolOp op vs p → PW X a (Tt X Φ ea Wx a') := by
  rw [chkE.eq_def] at h
  split at h
  · rename_i q; cases q
  all_goals (rename_i q0; try (injection q0 with q0; subst q0))
  · exact pl_of (ad_loc C h) (fun _ => rfl) (fun _ _ _ e => nomatch e)
  · exact pl_of (ad_glo C h) (fun _ => rfl) (fun _ _ _ e => nomatch e)
  · exact pl_of ad_non (fun _ => rfl) (fun _ _ _ e => nomatch e)
  · obtain rfl := beq_iff_eq.mp h
    exact pl_of ad_bl (fun _ => rfl) (fun _ _ _ e => nomatch e)
  · obtain rfl := of_decide_eq_true h
    exact pl_of ad_int (fun _ => rfl) (fun _ _ _ e => nomatch e)
  · obtain rfl := of_decide_eq_true h
    exact pl_of ad_str (fun _ => rfl) (fun _ _ _ e => nomatch e)
  · simp only [Bool.and_eq_true, decide_eq_true_eq] at h
    obtain ⟨⟨rfl, h1⟩, h2⟩ := h
    exact pl_of (ad_bin C (ih.fE C h1).1 (ih.fE C h2).1) (fun _ => rfl) (fun _ _ _ e => nomatch e)
  · exact pl_of (ad_neg (ih.fE C h).1) (fun _ => rfl) (fun _ _ _ e => nomatch e)
  · have := ad_not (pos := by assumption) (ih.fE C h).1 (ih.fE C h).2
    exact ⟨this.1, this.2, fun _ _ _ e => nomatch e⟩
  · simp only [Bool.and_eq_true, decide_eq_true_eq, Bool.not_eq_true'] at h
    obtain ⟨⟨⟨rfl, h1⟩, h2⟩, h3⟩ := h
    have := ad_cmp C (pos := by assumption) h1 (ih.fE C h2).1 (ih.fE C h3).1
    exact ⟨this.1, this.2, fun _ _ _ e => nomatch e⟩
  · simp only [Bool.and_eq_true, decide_eq_true_eq, Bool.not_eq_true'] at h
    obtain ⟨⟨⟨⟨⟨rfl, rfl⟩, h1⟩, h2⟩, h3⟩, h4⟩ := h
    have := ad_chain C (pos := by assumption) h1 (ih.fE C h2).1 (ih.fE C h3).1 (ih.fE C h4).1
    exact ⟨this.1, this.2, fun _ _ _ e => nomatch e⟩
  · simp only [Bool.and_eq_true] at h
    have hw := adw_and (ih.fE C h.1).2 (ih.fW C h.2)
    exact ⟨ad_and (ih.fE C h.1).1 (ih.fE C h.2).1, hw.pt, fun _ _ _ _ => hw⟩
  · simp only [Bool.and_eq_true] at h
    have hw := adw_or (ih.fE C h.1).2 (ih.fW C h.2)
    exact ⟨ad_or (ih.fE C h.1).1 (ih.fE C h.2).1, hw.pt, fun _ _ _ _ => hw⟩
  · rename_i op a0 p0
    cases op with
    | And => exact ⟨pe_one (ih.fE C h).1, (pw_and1 (ih.fE C h).2).pt, fun _ _ _ _ => pw_and1 (ih.fE C h).2⟩
    | Or => exact ⟨pe_one (ih.fE C h).1, (pw_or1 (ih.fE C h).2).pt, fun _ _ _ _ => pw_or1 (ih.fE C h).2⟩
  · simp only [Bool.and_eq_true] at h
    obtain ⟨⟨h1, h2⟩, h3⟩ := h
    exact ⟨ad_ite (ih.fE C h1).2 (ih.fE C h2).1 (ih.fE C h3).1, adt_ite (ih.fE C h1).2 (ih.fE C h2).2 (ih.fE C h3).2, fun _ _ _ e => nomatch e⟩
  · exact pl_of (ad_tup (ih.fA C h).1) (fun _ => rfl) (fun _ _ _ e => nomatch e)
  · exact pl_of (ad_lst (ih.fA C h).1) (fun _ => rfl) (fun _ _ _ e => nomatch e)
  · simp only [Bool.and_eq_true, decide_eq_true_eq] at h
    obtain ⟨i1, i2, i3, i4, i5⟩ := ih.fD C (pos := by assumption) h.1
    exact pl_of (ad_dic i1 i2 i3 h.2 i4 i5) (fun _ => rfl) (fun _ _ _ e => nomatch e)
  · simp only [Bool.and_eq_true] at h
    obtain ⟨⟨h1, h2⟩, h3⟩ := h
    exact pl_of (ad_slice (ih.fE C h1).1 (ih.fO C h2) (ih.fO C h3)) (fun _ => rfl) (fun _ _ _ e => nomatch e)
  · simp only [Bool.and_eq_true] at h
    obtain ⟨j, p1, p2, rfl⟩ := minus1 h.1
    exact pl_of (ad_rev (ih.fE C h.2).1) (fun _ => rfl) (fun _ _ _ e => nomatch e)
  · simp only [Bool.and_eq_true] at h
    obtain ⟨⟨h1, h2⟩, h3⟩ := h
    exact pl_of (ad_idx C h1 (ih.fE C h2).1 (ih.fE C h3).1) (fun _ => rfl) (fun _ _ _ e => nomatch e)
  · simp only [Bool.and_eq_true, decide_eq_true_eq] at h
    obtain ⟨⟨⟨⟨⟨h1, h2⟩, h3⟩, h4⟩, h5⟩, h6⟩ := h
    obtain ⟨i1, i2⟩ := ih.fA C h4
    obtain ⟨k1, k2⟩ := ih.fK C h5
    split at h6
    · rename_i j shs hl
      simp only [Bool.and_eq_true, decide_eq_true_eq, List.any_eq_true] at h6
      obtain ⟨rfl, sh, hm, ⟨⟨g1, g2⟩, g3⟩, g4⟩ := h6
      exact pl_of (ad_call C h1 h2 h3 i1 k1 (i2 h3) k2 hl hm g1 g2 (D.sames_eq g3) g4) (fun _ => rfl) (fun _ _ _ e => nomatch e)
    · cases h6
  · simp only [Bool.and_eq_true, decide_eq_true_eq] at h
    obtain ⟨⟨⟨⟨⟨⟨⟨h1, h2⟩, h3⟩, h4⟩, h5⟩, rfl⟩, hmk⟩, h6⟩ := h
    obtain ⟨i1, i2⟩ := ih.fA C h4
    obtain ⟨k1, k2⟩ := ih.fK C h5
    split at h6
    · rename_i j shs hl
      simp only [Bool.and_eq_true, decide_eq_true_eq, List.any_eq_true] at h6
      obtain ⟨rfl, sh, hm, ⟨⟨g1, g2⟩, g3⟩, g4⟩ := h6
      exact pl_of (ad_mk C h1 h2 h3 i1 k1 (i2 h3) k2 hmk hl hm g1 g2 (D.sames_eq g3) g4) (fun _ => rfl) (fun _ _ _ e => nomatch e)
    · cases h6
  · simp only [Bool.and_eq_true, decide_eq_true_eq] at h
    obtain ⟨⟨⟨⟨⟨⟨⟨⟨rfl, h1⟩, hln⟩, h30⟩, h3⟩, ho⟩, h4⟩, h5⟩, h6⟩ := h
    obtain ⟨i1, i2⟩ := ih.fA C h4
    obtain ⟨k1, k2⟩ := ih.fK C h5
    split at h6
    · rename_i j shs hl
      simp only [Bool.and_eq_true, decide_eq_true_eq, List.any_eq_true] at h6
      obtain ⟨rfl, sh, hm, ⟨⟨g1, g2⟩, g3⟩, g4⟩ := h6
      exact pl_of (ad_mcall C h1 hln h30 h3 (ih.fE C ho).1 i1 k1 (i2 h3) k2 hl hm g1 g2 (D.sames_eq g3) g4) (fun _ => rfl) (fun _ _ _ e => nomatch e)
    · cases h6
  · simp only [Bool.and_eq_true, decide_eq_true_eq] at h
    obtain ⟨⟨rfl, h1⟩, h2⟩ := h
    exact pl_of (ad_fld h1 (ih.fE C h2).1) (fun _ => rfl) (fun _ _ _ e => nomatch e)
  · simp only [Bool.and_eq_true, decide_eq_true_eq] at h
    obtain ⟨⟨⟨rfl, h1⟩, h2⟩, h3⟩ := h
    exact pl_of (ad_bi C h1 h2 (ih.fE C h3).1) (fun _ => rfl) (fun _ _ _ e => nomatch e)
  · simp only [Bool.and_eq_true, decide_eq_true_eq] at h
    obtain ⟨⟨⟨⟨⟨rfl, h1⟩, h2⟩, rfl⟩, h4⟩, h3⟩ := h
    exact pl_of (ad_is1 C h1 h4 h2 (ih.fE C h3).1) (fun _ => rfl) (fun _ _ _ e => nomatch e)
  · simp only [Bool.and_eq_true, decide_eq_true_eq] at h
    obtain ⟨⟨⟨⟨⟨rfl, h1⟩, h2⟩, h4⟩, h5⟩, h3⟩ := h
    exact pl_of (ad_isN C h1 h4 h2 (Nat.le_trans h5 (by decide)) (ih.fE C h3).1) (fun _ => rfl) (fun _ _ _ e => nomatch e)
  · simp only [Bool.and_eq_true, decide_eq_true_eq] at h
    obtain ⟨⟨⟨⟨⟨⟨rfl, h1⟩, h2⟩, h3⟩, h4⟩, h5⟩, h6⟩ := h
    obtain ⟨i1, i2⟩ := ih.fA C h6
    exact pl_of (ad_me C h1 h2 h3 h4 (i2 h3).1 (ih.fE C h5).1 i1) (fun _ => rfl) (fun _ _ _ e => nomatch e)
  · rename_i elt tg iter ifs scope pos mu own t kd its c' elt'
    simp only [Bool.and_eq_true] at h
    obtain ⟨⟨⟨⟨⟨h1, h2⟩, h3⟩, h4⟩, h5⟩, h6⟩ := h
    obtain ⟨i1, i2⟩ := ih.fI C (tg := tg) h2
    have hk : ∀ {N : List Str} {sc scope : Scope} {own : List (Str × Nat)}, blkC N sc scope own = true → scope.kind = .function := fun h => (blkOk_by h).kind
    refine pl_of ?_ (fun _ => rfl) (fun _ _ _ e => nomatch e)
    have := ad_comp C h1 i1 h3 h4 (fun s H L cl fp => ih.fF (C.blk (hk h1)) h5) (fun s H L cl fp => (ih.fE (C.blk (hk h1)) h6).1) i2 (mu := mu) (u := fun te => PE X (.ListComp elt [⟨tg, iter, ifs, 0⟩] scope pos) te)
      fun ok hg => pe_lc C.pl.calm (by rw [C.hN]; exact C.nd) i1 ok hg (fun s H L cl fp => ih.fF (C.blk (hk h1)) h5) (fun s H L cl fp => (ih.fE (C.blk (hk h1)) h6).1) i2
    exact this.1.imp this.2
  · rename_i kx vx tg iter ifs scope pos mu own t kd its c' kx' vx'
    simp only [Bool.and_eq_true] at h
    obtain ⟨⟨⟨⟨⟨⟨h1, h2⟩, h3⟩, h4⟩, h5⟩, h6⟩, h7⟩ := h
    obtain ⟨i1, i2⟩ := ih.fI C (tg := tg) h2
    have hk : ∀ {N : List Str} {sc scope : Scope} {own : List (Str × Nat)}, blkC N sc scope own = true → scope.kind = .function := fun h => (blkOk_by h).kind
    refine pl_of ?_ (fun _ => rfl) (fun _ _ _ e => nomatch e)
    have := ad_dcomp C h1 i1 h3 h4 (c' := c') (kx' := kx') (vx' := vx') (kx := kx) (vx := vx) (ifs := ifs) (mu := mu) (u := fun te => PE X (.DictComp kx vx [⟨tg, iter, ifs, 0⟩] scope pos) te)
      fun ok hg => pe_dc C.pl.calm (by rw [C.hN]; exact C.nd) i1 ok hg (fun s H L cl fp => ih.fF (C.blk (hk h1)) h5) (fun s H L cl fp => (ih.fE (C.blk (hk h1)) h6).1) (fun s H L cl fp => (ih.fE (C.blk (hk h1)) h7).1) i2
    exact this.1.imp this.2
  · simp only [Bool.and_eq_true, decide_eq_true_eq] at h
    obtain ⟨⟨⟨⟨⟨rfl, h1⟩, h2⟩, h3⟩, h5⟩, h4⟩ := h
    split at h4
    · rename_i j shs hl
      simp only [Bool.and_eq_true, decide_eq_true_eq, List.any_eq_true] at h4
      obtain ⟨rfl, sh, hm, ⟨⟨g1, g2⟩, g3⟩, g4⟩ := h4
      exact pl_of (ad_mcallS C h1 (ih.fE C h2).1 (ih.fE C h3).1 h5 hl hm g1 g2 g3 g4) (fun _ => rfl) (fun _ _ _ e => nomatch e)
    · cases h4
  · simp only [Bool.and_eq_true, decide_eq_true_eq, Bool.not_eq_true'] at h
    obtain ⟨⟨⟨⟨⟨⟨rfl, rfl⟩, h1⟩, h2⟩, h3⟩, h4⟩, h5⟩ := h
    exact pl_of (ad_rgs1 C h1 h2 h3 h4 (ih.fE C h5).1) (fun _ => rfl) (fun _ _ _ e => nomatch e)
  · simp only [Bool.and_eq_true, decide_eq_true_eq, Bool.not_eq_true'] at h
    obtain ⟨⟨⟨⟨⟨⟨⟨⟨rfl, rfl⟩, h1⟩, h2⟩, h3⟩, h4⟩, h5⟩, h6⟩, h7⟩ := h
    exact pl_of (ad_rgs2 C h1 h2 h3 h4 h5 (ih.fE C h6).1 (ih.fE C h7).1) (fun _ => rfl) (fun _ _ _ e => nomatch e)
  · exact pl_of (ad_fstr ih C h) (fun _ => rfl) (fun _ _ _ e => nomatch e)
  · cases h
theorem adE_all : ∀ n, AdE g N Φ ea k n
  | 0 => adE0
  | n + 1 =>
    have ih := adE_all n
    { fE := fun C _ _ h => ⟨(adE ih C h).1, (adE ih C h).2.1⟩
      fW := fun C _ _ _ _ h => (adE ih C h).2.2 _ _ _ rfl
      fO := fun C _ _ h => adO ih C h
      fF := fun C _ _ h => adF ih C h
      fA := fun C _ _ h => adA ih C h
      fK := fun C _ _ h => adK ih C h
      fD := fun C _ _ _ _ h => adD ih C h
      fI := fun C _ _ _ _ h => adI ih C h
      fJ := fun C _ _ h => adJ ih C h }
end
end Iv

set_option Elab.async false
set_option linter.all false
set_option maxHeartbeats 4000000
/-! the statements against the mini-AST; side conditions of assignments -/
namespace Iv
open PySem PySem.Spec L2
def isSt : Expr → Bool
  | .Starred .. => true
  | _ => false
def swNames (sc : Scope) (ts : List Expr) : List Str := ts.filterMap fun
  | .Name id pos => if (sc.names.lookup id == some .local && pos.line == (Option.map (fun (x : Expr) => x.pos.line) ts.head?).getD 0) = true then some id else none
  | _ => none
/-- what swappedStores answers, where it surely answers -/
def swR (sc : Scope) (tg e : Expr) : Option (Option (List Str)) := match tg, e with
  | .Tuple ts _ _, .Tuple vs _ _ =>
    if (!(ts.length == 2 || ts.length == 3) || vs.length != ts.length) = true then some none
    else if vs.any isSt = true then some none
    else if ((swNames sc ts).length != ts.length || (swNames sc ts).eraseDups.length != (swNames sc ts).length) = true then some none
    else if vs.all (foldedForSure 8) = true then some none
    else if vs.all (constantsAlone 8) = true then none
    else some (some (swNames sc ts))
  | .List .., .Tuple .. => none
  | _, _ => some none
theorem swR_ok {sc : Scope} {tg e : Expr} {env : PySem.Env} {r : Option (List Str)} (hs : env.scope = sc) (hk : sc.kind = .function) (h : swR sc tg e = some r) : swappedStores [tg] e env = pure r := by
  have hb : (env.blockKind != ScopeKind.function) = false := by unfold Env.blockKind; rw [hs, hk]; rfl
  subst hs
  cases tg with
  | Tuple ts k1 p1 =>
    cases e with
    | Tuple vs k2 p2 =>
      unfold swappedStores
      dsimp only
      rw [hb, Bool.or_false]
      unfold swR at h
      dsimp only at h
      show (if (!(ts.length == 2 || ts.length == 3) || vs.length != ts.length) = true then (pure none : Sem (Option (List Str)))
        else if vs.any isSt = true then pure none
        else if ((swNames env.scope ts).length != ts.length || (swNames env.scope ts).eraseDups.length != (swNames env.scope ts).length) = true then pure none
        else if vs.all (foldedForSure 8) = true then pure none
        else if vs.all (constantsAlone 8) = true then (do unsupported "assign.tuple-of-constant-expressions:order-of-the-stores"; pure (some (swNames env.scope ts)))
        else pure (some (swNames env.scope ts))) = pure r
      split at h
      · rename_i c; cases h; rw [if_pos c]
      · rename_i c1
        rw [if_neg c1]
        split at h
        · rename_i c; cases h; rw [if_pos c]
        · rename_i c2
          rw [if_neg c2]
          split at h
          · rename_i c; cases h; rw [if_pos c]
          · rename_i c3
            rw [if_neg c3]
            split at h
            · rename_i c; cases h; rw [if_pos c]
            · rename_i c4
              rw [if_neg c4]
              split at h
              · cases h
              · rename_i c5
                cases h
                rw [if_neg c5]
    | _ => cases h; rfl
  | List ts p1 =>
    cases e with
    | Tuple vs k2 p2 => cases h
    | _ => cases h; rfl
  | _ => cases h; rfl
/-- does a comprehension's value go to the name by itself -/
def swB (sc : Scope) (tg e : Expr) : Bool := match e with
  | .ListComp _ _ s _ => (match tg with
    | .Name t pos => sc.names.lookup t == some .local && pos.line == e.pos.line && !(s.names.any fun (n, k) => n == t && (k == .local || k == .cell))
    | _ => false)
  | .SetComp .. => true
  | .DictComp .. => true
  | _ => false
theorem swB_ok {sc : Scope} {tg e : Expr} {env : PySem.Env} {l : Nat} (hs : env.scope = sc) (hk : sc.kind = .function) (h : swB sc tg e = false) : swapsWith e (some tg) l env = pure false := by
  have hb : (env.blockKind == ScopeKind.function) = true := by unfold Env.blockKind; rw [hs, hk]; rfl
  subst hs
  cases e with
  | ListComp el gs s p =>
    cases tg with
    | Name t pos =>
      unfold swapsWith
      dsimp only
      rw [hb, Bool.true_and]
      have h : (env.scope.names.lookup t == some NameKind.local && pos.line == p.line && !(s.names.any fun (n, k) => n == t && (k == .local || k == .cell))) = false := h
      have h2 : (env.kindOf t == some NameKind.local && pos.line == (Expr.ListComp el gs s p).pos.line && !(s.names.any fun (n, k) => n == t && (k == .local || k == .cell))) = false := h
      rw [h2]
    | _ => rfl
  | SetComp _ _ _ _ => cases h
  | DictComp _ _ _ _ _ => cases h
  | _ => rfl
def notComp : Expr → Bool
  | .ListComp .. => false
  | .SetComp .. => false
  | .DictComp .. => false
  | _ => true
theorem notComp_ok {e : Expr} {env : PySem.Env} {l : Nat} {tg : Option Expr} (h : notComp e = true) : swapsWith e tg l env = pure false := by
  cases e <;> first | rfl | cases h
theorem swS_ok {e : Expr} {env : PySem.Env} {l : Nat} {o i : Expr} {p : Pos} : swapsWith e (some (.Subscript o i p)) l env = pure false := by
  unfold swapsWith
  cases e <;> rfl
theorem swA_ok {e : Expr} {env : PySem.Env} {l : Nat} {o : Expr} {x : Str} {p : Pos} : swapsWith e (some (.Attribute o x p)) l env = pure false := by
  unfold swapsWith
  cases e <;> rfl
def strConst : Expr → Bool
  | .Constant (.str _) _ _ => true
  | _ => false
section
variable (g : Sg) (N : List Str)
mutual
def chkS : Nat → Scope → Stmt → Stt → Bool
  | 0, _, _, _ => false
  | n + 1, sc, .Assign [.Subscript o i _] e _, .put o' i' e' => plainIx i && chkE g N n sc o o' && chkE g N n sc i i' && chkE g N n sc e e'
  | n + 1, sc, .Assign [.Tuple [.Name x px, .Name y py] k1 pt] (.Tuple [a, b] k2 pt2) _, .par i j a' b' => decide (N[i]? = some x) && decide (N[j]? = some y) && decide (i ≠ j) && (sc.names.lookup x == some .local) && (sc.names.lookup y == some .local) && noStar [a, b] && !a'.isStar && !b'.isStar && chkE g N n sc a a' && chkE g N n sc b b' && decide (swR sc (.Tuple [.Name x px, .Name y py] k1 pt) (.Tuple [a, b] k2 pt2) = some (some [x, y]))
  | n + 1, sc, .Assign [tg] e _, .asg t e' => !swB sc tg e && (match swR sc tg e with
    | some none => true
    | _ => false) && chkT N sc tg t && chkE g N n sc e e'
  | _ + 1, _, .Expr (.Constant (.str _) _ _) _, .pass => true
  | n + 1, sc, .Expr e _, .exp e' => notComp e && chkE g N n sc e e'
  | n + 1, sc, .Return (some e) _, .ret e' => chkE g N n sc e e'
  | _ + 1, _, .Return none _, .ret .non => true
  | n + 1, sc, .If c a b _, .ite c' a' b' => chkE g N n sc c c' && chkB n sc a a' && chkB n sc b b'
  | n + 1, sc, .While c b [] _, .whl c' b' => chkE g N n sc c c' && chkB n sc b b'
  | n + 1, sc, .For tg it b [] _, .for t kd its b' => chkI g N n sc tg it kd its && chkT N sc tg t && chkB n sc b b'
  | _ + 1, _, .Break _, .brk => true
  | _ + 1, _, .Continue _, .cont => true
  | _ + 1, _, .Pass _, .pass => true
  | n + 1, sc, .Assign [.Attribute o x _] e _, .sfld c o' y e' => decide (x = y) && baseOk o && g.flds.contains (c, y) && chkE g N n sc e e' && chkE g N n sc o o'
  | _ + 1, _, _, .never => true
  | _ + 1, _, _, _ => false
def chkB : Nat → Scope → List Stmt → List Stt → Bool
  | 0, _, _, _ => false
  | n + 1, sc, ss, .frz _ :: ss' => chkB n sc ss ss'
  | _ + 1, _, [], [] => true
  | n + 1, sc, .Assign [.Name y py] (.ListComp elt [⟨tg, iter, ifs, 0⟩] scope pos) sp :: ss, .asg (.nm i) (.comp mu own t kd its c elt') :: ss' =>
    (if swB sc (.Name y py) (.ListComp elt [⟨tg, iter, ifs, 0⟩] scope pos) then decide (N[i]? = some y) && chkE g N n sc (.ListComp elt [⟨tg, iter, ifs, 0⟩] scope pos) (.comp mu own t kd its c elt') else
      chkS n sc (.Assign [.Name y py] (.ListComp elt [⟨tg, iter, ifs, 0⟩] scope pos) sp) (.asg (.nm i) (.comp mu own t kd its c elt'))) && chkB n sc ss ss'
  | n + 1, sc, s :: ss, s' :: ss' => chkS n sc s s' && chkB n sc ss ss'
  | _ + 1, _, _, _ => false
end
end
end Iv

set_option Elab.async false
set_option linter.all false
set_option maxHeartbeats 8000000
set_option maxRecDepth 4000
/-! adequacy: statements -/
namespace Iv
open PySem PySem.Spec L2
section
variable (P : Program) (w : World) (K : PySem.W.Frag) (ea : Exa) (Wx : WX)
def PostO (W : Wd) (o : Out) (D : Ends) : Prop := match o with
  | .nx ρ σ => ∀ W' st H, Le W W' → EnvR P w K W' ρ st → Rel P w K W' σ H → D.nx st H
  | .bk ρ σ => ∀ W' st H, Le W W' → EnvR P w K W' ρ st → Rel P w K W' σ H → D.bk st H
  | .ct ρ σ => ∀ W' st H, Le W W' → EnvR P w K W' ρ st → Rel P w K W' σ H → D.ct st H
  | .rt d σ => ∀ W' v H, Le W W' → Rel P w K W' σ H → Rep P w K W' d v → D.rt v H
  | .exc c d σ => ∀ W' st H cls dx, Le W W' → Rel P w K W' σ H → ExcR P w K ea W' c d cls dx H → Wx cls dx st H
  | .bad => False
def tS (f : Env → Store → Out) : TS := fun D st H => ∃ W ρ σ, EnvR P w K W ρ st ∧ Rel P w K W σ H ∧ PostO P w K ea Wx W (f ρ σ) D
end
section
variable {P : Program} {w : World} {K : PySem.W.Frag} {ea : Exa} {Wx : WX} {st : St} {W W1 : Wd} {ρ : Env} {σ : Store} {H : Hp} {D : Ends}
theorem PostO.mono {o : Out} (le : Le W W1) (h : PostO P w K ea Wx W o D) : PostO P w K ea Wx W1 o D := by
  cases o with
  | nx => exact fun W' st H l => h W' st H (le.trans l)
  | bk => exact fun W' st H l => h W' st H (le.trans l)
  | ct => exact fun W' st H l => h W' st H (le.trans l)
  | rt => exact fun W' st H l => h W' st H (le.trans l)
  | exc => exact fun W' st H cls dx l => h W' st H cls dx (le.trans l)
  | bad => exact h
theorem PostO.bindE {f : Env → Store → Res Iv.D} {k : Iv.D → Store → Out} {T : VK} (hρ : EnvR P w K W ρ st) (hσ : Rel P w K W σ H) (h : PostO P w K ea Wx W (Out.of (f ρ σ) k) D)
    (c : ∀ d σ1 W1 v H1, Le W W1 → Rel P w K W1 σ1 H1 → Rep P w K W1 d v → PostO P w K ea Wx W1 (k d σ1) D → T v H1) : tE P w K ea Wx f st H T := by
  refine ⟨W, ρ, σ, hρ, hσ, ?_⟩
  cases e : f ρ σ with
  | ok d σ1 => rw [e] at h; exact fun W1 v H1 le r q => c d σ1 W1 v H1 le r q (PostO.mono le h)
  | exc c d σ1 => rw [e] at h; exact fun W' H cls dx l r q => h W' st H cls dx l r q
  | bad => rw [e] at h; exact h
theorem PostO.bindA {f : Env → Store → Res (List Iv.D)} {k : List Iv.D → Store → Out} {T : List V → Hp → Prop} (hρ : EnvR P w K W ρ st) (hσ : Rel P w K W σ H) (h : PostO P w K ea Wx W (Out.of (f ρ σ) k) D)
    (c : ∀ d σ1 W1 v H1, Le W W1 → Rel P w K W1 σ1 H1 → Reps P w K W1 d v → PostO P w K ea Wx W1 (k d σ1) D → T v H1) : tA P w K ea Wx f st H T := by
  refine ⟨W, ρ, σ, hρ, hσ, ?_⟩
  cases e : f ρ σ with
  | ok d σ1 => rw [e] at h; exact fun W1 v H1 le r q => c d σ1 W1 v H1 le r q (PostO.mono le h)
  | exc c d σ1 => rw [e] at h; exact fun W' H cls dx l r q => h W' st H cls dx l r q
  | bad => rw [e] at h; exact h
theorem PostO.bindT {f : Env → Store → Res Iv.D} {k1 k2 : Store → Out} {T : Bool → Hp → Prop} (hρ : EnvR P w K W ρ st) (hσ : Rel P w K W σ H)
    (h : PostO P w K ea Wx W (Out.of (f ρ σ) fun d σ1 => match truthD (view σ1 d) with
      | some true => k1 σ1
      | some false => k2 σ1
      | none => .bad) D)
    (c : ∀ b σ1 W1 H1, Le W W1 → Rel P w K W1 σ1 H1 → PostO P w K ea Wx W1 (if b = true then k1 σ1 else k2 σ1) D → T b H1) : tT P w K ea Wx f st H T := by
  refine ⟨W, ρ, σ, hρ, hσ, ?_⟩
  cases e : f ρ σ with
  | ok d σ1 =>
    rw [e] at h
    have h : PostO P w K ea Wx W (match truthD (view σ1 d) with
      | some true => k1 σ1
      | some false => k2 σ1
      | none => .bad) D := h
    cases q : truthD (view σ1 d) with
    | none => rw [q] at h; exact False.elim h
    | some b =>
      rw [q] at h
      refine ⟨b, q, fun W1 H1 le r => c b σ1 W1 H1 le r (PostO.mono le ?_)⟩
      cases b <;> exact h
  | exc c d σ1 => rw [e] at h; exact fun W' H cls dx l r q => h W' st H cls dx l r q
  | bad => rw [e] at h; exact h
theorem PostO.here {ρ : Env} (h : PostO P w K ea Wx W (.nx ρ σ) D) (hρ : EnvR P w K W ρ st) (hσ : Rel P w K W σ H) : D.nx st H := h W st H (Le.refl W) hρ hσ
theorem EnvR.alt {d : Iv.D} {v : V} {i : Nat} (h : EnvR P w K W ρ st) (hv : st[i]? = some (some v)) (r : Rep P w K W d v) : EnvR P w K W (ρ.set i (some d)) st := by
  refine ⟨by rw [List.length_set]; exact h.1, fun j e q => ?_⟩
  rcases get_set q with ⟨rfl, z⟩ | ⟨_, q⟩
  · cases z; exact ⟨v, hv, r⟩
  · exact h.2 j e q
end
section
variable {X : Cx} {g : Sg} {N : List Str} {Φ : CallSem} {ea : Exa} {k : Nat} {Wx : WX} {sc : Scope} {pos p2 : Pos}
abbrev Ts (X : Cx) (Φ : CallSem) (ea : Exa) (Wx : WX) (s : Stt) : TS := tS X.prog X.w X.K ea Wx (ex Φ s)
abbrev Tb (X : Cx) (Φ : CallSem) (ea : Exa) (Wx : WX) (s : List Stt) : TS := tS X.prog X.w X.K ea Wx (exs Φ s)
theorem _root_.L2.PS.imp {s : Stmt} {t t' : TS} (h : PS X s t) (i : ∀ D st H, t' D st H → t D st H) : PS X s t' := ⟨fun pins s σ H D I q => h.run pins s σ H D I (i _ _ _ q)⟩
theorem _root_.L2.PSs.imp {s : List Stmt} {t t' : TS} (h : PSs X s t) (i : ∀ D st H, t' D st H → t D st H) : PSs X s t' := ⟨fun pins s σ H D I q => h.run pins s σ H D I (i _ _ _ q)⟩
variable {a b c e tg : Expr} {a' b' c' e' : Ex} {t : Tg} {B B2 : List Stmt} {B' B2' : List Stt}
theorem st_asg (C : Pc X g N Φ ea k Wx sc) (hs : Stores X N sc) (h1 : swB sc tg e = false) (h2 : swR sc tg e = some none) (h3 : chkT N sc tg t = true) (he : PE X e (Te X Φ ea Wx e')) : PS X (.Assign [tg] e pos) (Ts X Φ ea Wx (.asg t e')) := by
  have hsw : swapsWithSole [tg] e pos.line X.env = pure false := swB_ok C.hsc C.kind h1
  refine (ps_asg he (pg_all C.pl.calm C.hN C.nd hs h3) hsw (swR_ok C.hsc C.kind h2) ?_).imp ?_
  · cases tg <;> first | rfl | (unfold chkT at h3; cases h3)
  rintro D st H ⟨W, ρ, σ, hρ, hσ, h⟩
  unfold ex at h
  refine PostO.bindE hρ hσ h fun d σ1 W1 v H1 le1 hσ1 r1 h1 => ?_
  split at h1
  · rename_i ρ1 e1
    exact ⟨W1, ρ, σ1, d, hρ.mono le1, hσ1, r1, ρ1, e1, fun st' hρ' _ => h1.here hρ' hσ1⟩
  · exact False.elim h1
theorem st_put (C : Pc X g N Φ ea k Wx sc) (h2 : plainIx b = true) (ha : PE X a (Te X Φ ea Wx a')) (hb : PE X b (Te X Φ ea Wx b')) (he : PE X e (Te X Φ ea Wx e')) : PS X (.Assign [.Subscript a b p2] e pos) (Ts X Φ ea Wx (.put a' b' e')) := by
  have hsw : swapsWithSole [.Subscript a b p2] e pos.line X.env = pure false := swS_ok (l := pos.line) (env := X.env) (o := a) (i := b) (p := p2)
  have hsr : swappedStores [.Subscript a b p2] e X.env = pure none := swR_ok C.hsc C.kind (by cases e <;> rfl)
  refine (ps_asg he (pg_sub ha hb (put_all C.pl) ?_) hsw hsr ?_).imp ?_
  · intro v
    cases b <;> first | rfl | cases h2
  · rfl
  rintro D st H ⟨W, ρ, σ, hρ, hσ, h⟩
  unfold ex at h
  refine PostO.bindE hρ hσ h fun d σ1 W1 v H1 le1 hσ1 r1 h1 => PostO.bindE (hρ.mono le1) hσ1 h1 fun o σ2 W2 vo H2 le2 hσ2 r2 h2 => PostO.bindE ((hρ.mono le1).mono le2) hσ2 h2 fun i σ3 W3 vi H3 le3 hσ3 r3 h3 => ?_
  split at h3
  · rename_i σ4 e4
    exact ⟨W3, σ3, o, i, d, hσ3, r2.mono le3, r3, (r1.mono le2).mono le3, σ4, e4, fun H' hr => h3.here (((hρ.mono le1).mono le2).mono le3) hr⟩
  · exact False.elim h3
theorem st_par (C : Pc X g N Φ ea k Wx sc) {x y : Str} {i j k1 k2 : Nat} {px py pt pt2 : Pos} (hi : N[i]? = some x) (hj : N[j]? = some y) (hij : i ≠ j) (hx : sc.names.lookup x = some .local) (hy : sc.names.lookup y = some .local)
    (hn : noStar [a, b] = true) (sa : a'.isStar = false) (sb : b'.isStar = false) (ha : PE X a (Te X Φ ea Wx a')) (hb : PE X b (Te X Φ ea Wx b')) (hw : swR sc (.Tuple [.Name x px, .Name y py] k1 pt) (.Tuple [a, b] k2 pt2) = some (some [x, y])) :
    PS X (.Assign [.Tuple [.Name x px, .Name y py] k1 pt] (.Tuple [a, b] k2 pt2) pos) (Ts X Φ ea Wx (.par i j a' b')) := by
  obtain ⟨n1, n2⟩ := noStar_cons hn
  refine (ps_par (i := i) (j := j) (X := X) C.pl.calm (by rw [C.hN]; exact C.nd) (by rw [C.hN]; exact hi) (by rw [C.hN]; exact hj) hij (by rw [C.hsc]; exact hx) (by rw [C.hsc]; exact hy) (ada_cons n1 sa ha (ada_cons n2 sb hb ada_nil)) (swR_ok C.hsc C.kind hw) rfl).imp ?_
  rintro D st H ⟨W, ρ, σ, hρ, hσ, h⟩
  unfold ex at h
  refine ⟨W, ρ, σ, hρ, hσ, ?_⟩
  rw [evs_cons sa]
  cases e1 : ev Φ a' ρ σ with
  | bad => rw [e1] at h; exact h
  | exc c d σ1 => rw [e1] at h; exact fun W' H cls dx l r q => h W' st H cls dx l r q
  | ok x1 σ1 =>
    rw [e1] at h
    have h : PostO X.prog X.w X.K ea Wx W (Out.of (ev Φ b' ρ σ1) fun y σ2 => .nx ((ρ.set i (some x1)).set j (some y)) σ2) D := h
    show Posts X.prog X.w X.K ea Wx st W ((evs Φ [b'] ρ σ1).bind fun ds σ2 => .ok (x1 :: ds) σ2) _
    rw [evs_cons sb]
    cases e2 : ev Φ b' ρ σ1 with
    | bad => rw [e2] at h; exact h
    | exc c d σ2 => rw [e2] at h; exact fun W' H cls dx l r q => h W' st H cls dx l r q
    | ok y1 σ2 =>
      rw [e2] at h
      have h : PostO X.prog X.w X.K ea Wx W (.nx ((ρ.set i (some x1)).set j (some y1)) σ2) D := h
      show Posts X.prog X.w X.K ea Wx st W (((evs Φ [] ρ σ2).bind fun ds σ3 => .ok (y1 :: ds) σ3).bind fun ds σ3 => .ok (x1 :: ds) σ3) _
      unfold evs
      intro W' vs H' le r q
      obtain ⟨v, u, rfl, rv, ru⟩ := two_reps q
      exact ⟨v, u, rfl, h W' _ H' le (((hρ.mono le).set rv i).set ru j) r⟩
theorem st_exp (h1 : notComp e = true) (he : PE X e (Te X Φ ea Wx e')) : PS X (.Expr e pos) (Ts X Φ ea Wx (.exp e')) := by
  refine (ps_expr he (notComp_ok h1)).imp ?_
  rintro D st H ⟨W, ρ, σ, hρ, hσ, h⟩
  unfold ex at h
  exact PostO.bindE hρ hσ h fun d σ1 W1 v H1 le1 hσ1 r1 h1 => h1.here (hρ.mono le1) hσ1
theorem st_ret (he : PE X e (Te X Φ ea Wx e')) : PS X (.Return (some e) pos) (Ts X Φ ea Wx (.ret e')) := by
  refine (ps_ret he).imp ?_
  rintro D st H ⟨W, ρ, σ, hρ, hσ, h⟩
  unfold ex at h
  exact PostO.bindE hρ hσ h fun d σ1 W1 v H1 le1 hσ1 r1 h1 => h1 W1 v H1 (Le.refl _) hσ1 r1
theorem st_ret0 : PS X (.Return none pos) (Ts X Φ ea Wx (.ret .non)) := by
  refine ps_retN.imp ?_
  rintro D st H ⟨W, ρ, σ, hρ, hσ, h⟩
  unfold ex ev at h
  exact h W .non H (Le.refl _) hσ (by simp only [Rep])
theorem st_if (hc : PT X c (Tt X Φ ea Wx c')) (ha : PSs X B (Tb X Φ ea Wx B')) (hb : PSs X B2 (Tb X Φ ea Wx B2')) : PS X (.If c B B2 pos) (Ts X Φ ea Wx (.ite c' B' B2')) := by
  refine (ps_if hc ha hb).imp ?_
  rintro D st H ⟨W, ρ, σ, hρ, hσ, h⟩
  unfold ex at h
  refine PostO.bindT (k1 := fun σ1 => exs Φ B' ρ σ1) (k2 := fun σ1 => exs Φ B2' ρ σ1) hρ hσ h fun b σ1 W1 H1 le1 hσ1 h1 => ?_
  cases b <;> exact ⟨W1, ρ, σ1, hρ.mono le1, hσ1, h1⟩
theorem st_whl (hp : PassesOwn (model X.prog X.w) X.A X.env X.xe) (hc : PT X c (Tt X Φ ea Wx c')) (hb : PSs X B (Tb X Φ ea Wx B')) : PS X (.While c B [] pos) (Ts X Φ ea Wx (.whl c' B')) := by
  refine (ps_while hp hc hb).imp ?_
  rintro D st H ⟨W, ρ, σ, hρ, hσ, h⟩
  unfold ex at h
  refine ⟨fun m st2 H2 => ∃ W2 ρ2 σ2, EnvR X.prog X.w X.K W2 ρ2 st2 ∧ Rel X.prog X.w X.K W2 σ2 H2 ∧ PostO X.prog X.w X.K ea Wx W2 (whlN (ev Φ c') (exs Φ B') m ρ2 σ2) D, ⟨whFuel, W, ρ, σ, hρ, hσ, h⟩, ?_⟩
  rintro m st2 H2 ⟨W2, ρ2, σ2, hρ2, hσ2, h2⟩
  cases m with
  | zero => exact False.elim h2
  | succ m =>
    unfold whlN at h2
    refine PostO.bindT (k1 := fun σ1 => match exs Φ B' ρ2 σ1 with
      | .nx ρ2 σ2 => whlN (ev Φ c') (exs Φ B') m ρ2 σ2
      | .ct ρ2 σ2 => whlN (ev Φ c') (exs Φ B') m ρ2 σ2
      | .bk ρ2 σ2 => .nx ρ2 σ2
      | o => o) (k2 := fun σ1 => .nx ρ2 σ1) hρ2 hσ2 h2 fun b σ3 W3 H3 le3 hσ3 h3 => ?_
    cases b with
    | false => exact h3.here (hρ2.mono le3) hσ3
    | true =>
      refine ⟨fun st4 H4 => ∃ W2 ρ2 σ2, EnvR X.prog X.w X.K W2 ρ2 st4 ∧ Rel X.prog X.w X.K W2 σ2 H4 ∧ PostO X.prog X.w X.K ea Wx W2 (whlN (ev Φ c') (exs Φ B') m ρ2 σ2) D, fun st4 H4 q => ⟨m, Nat.lt_succ_self m, q⟩, W3, ρ2, σ3, hρ2.mono le3, hσ3, ?_⟩
      have h3 : PostO X.prog X.w X.K ea Wx W3 (match exs Φ B' ρ2 σ3 with
        | .nx ρ2 σ2 => whlN (ev Φ c') (exs Φ B') m ρ2 σ2
        | .ct ρ2 σ2 => whlN (ev Φ c') (exs Φ B') m ρ2 σ2
        | .bk ρ2 σ2 => .nx ρ2 σ2
        | o => o) D := h3
      cases e4 : exs Φ B' ρ2 σ3 with
      | nx ρ4 σ4 => rw [e4] at h3; exact fun W' st' H' le hr hs => ⟨W', ρ4, σ4, hr, hs, PostO.mono le h3⟩
      | ct ρ4 σ4 => rw [e4] at h3; exact fun W' st' H' le hr hs => ⟨W', ρ4, σ4, hr, hs, PostO.mono le h3⟩
      | bk ρ4 σ4 => rw [e4] at h3; exact h3
      | rt d σ4 => rw [e4] at h3; exact h3
      | exc c d σ4 => rw [e4] at h3; exact h3
      | bad => rw [e4] at h3; exact h3
theorem st_for (C : Pc X g N Φ ea k Wx sc) (hs : Stores X N sc) (hp : PassesOwn (model X.prog X.w) X.A X.env X.xe) {kd : IK} {its : List Ex} (hi : PI X tg e (tI X Φ ea Wx kd its)) (hf : ∀ x, foldedSetIterable e X.env x = pure x) (ht : chkT N sc tg t = true) (hb : PSs X B (Tb X Φ ea Wx B')) :
    PS X (.For tg e B [] pos) (Ts X Φ ea Wx (.for t kd its B')) := by
  refine (ps_for hp C.pl.calm hi (pg_all C.pl.calm C.hN C.nd hs ht) hb hf).imp ?_
  rintro D st H ⟨W, ρ, σ, hρ, hσ, h⟩
  unfold ex at h
  refine ⟨W, ρ, σ, hρ, hσ, ?_⟩
  cases e1 : evs Φ its ρ σ with
  | bad => rw [e1] at h; exact h
  | exc c d σ1 => rw [e1] at h; exact fun W' H cls dx l r q => h W' st H cls dx l r q
  | ok ds σ1 =>
    rw [e1] at h
    have h : PostO X.prog X.w X.K ea Wx W (match itemsOf σ1 kd ds with
      | some xs => forL t (exs Φ B') xs ρ σ1
      | none => .bad) D := h
    cases e2 : itemsOf σ1 kd ds with
    | none => rw [e2] at h; exact False.elim h
    | some xs =>
      rw [e2] at h
      have h : PostO X.prog X.w X.K ea Wx W (forL t (exs Φ B') xs ρ σ1) D := h
      refine ⟨xs, e2, fun W' H1 J le hσ1 ⟨i1, i2, i3⟩ => ?_⟩
      refine ⟨fun i m st2 H2 => m = xs.length - i ∧ i ≤ xs.length ∧ ∃ Wc ρc σc, Le W' Wc ∧ EnvR X.prog X.w X.K Wc ρc st2 ∧ Rel X.prog X.w X.K Wc σc H2 ∧ PostO X.prog X.w X.K ea Wx Wc (forL t (exs Φ B') (xs.drop i) ρc σc) D, ?_, ?_⟩
      · exact ⟨xs.length, by simp, Nat.zero_le _, W', ρ, σ1, Le.refl _, hρ.mono le, hσ1, by rw [List.drop_zero]; exact PostO.mono le h⟩
      · rintro i m st2 H2 ⟨rfl, hi, Wc, ρc, σc, l0, hρc, r2, hp⟩
        by_cases hlt : i < xs.length
        · refine .inr ⟨i2 i H2 (le0_of_sub l0.toLe0 r2) hlt, fun st3 H3 => i + 1 ≤ xs.length ∧ ∃ Wc ρc σc, Le W' Wc ∧ EnvR X.prog X.w X.K Wc ρc st3 ∧ Rel X.prog X.w X.K Wc σc H3 ∧ PostO X.prog X.w X.K ea Wx Wc (forL t (exs Φ B') (xs.drop (i + 1)) ρc σc) D,
            fun st3 H3 ⟨a1, a2⟩ => ⟨xs.length - (i + 1), by omega, rfl, a1, a2⟩, fun x H3 y => ?_⟩
          obtain ⟨Wd1, d, le3, r3, hd, rd⟩ := i3 i Wc σc H2 x H3 l0.toLe0 r2 hlt y
          have edrop : xs.drop i = d :: xs.drop (i + 1) := by
            rw [List.drop_eq_getElem_cons hlt]
            rw [List.getElem?_eq_getElem hlt] at hd
            cases hd; rfl
          rw [edrop] at hp
          unfold forL at hp
          cases e3 : tgD t d ρc with
          | none => rw [e3] at hp; exact False.elim hp
          | some ρ2 =>
            rw [e3] at hp
            dsimp only at hp
            have hp := PostO.mono le3 hp
            refine ⟨Wd1, ρc, σc, d, hρc.mono le3, r3, rd, ρ2, e3, fun st4 hρ4 _ => ⟨Wd1, ρ2, σc, hρ4, r3, ?_⟩⟩
            cases e4 : exs Φ B' ρ2 σc with
            | nx ρ4 σ4 => rw [e4] at hp; exact fun W5 st5 H5 le5 hr5 hs5 => ⟨hlt, W5, ρ4, σ4, (l0.trans le3).trans le5, hr5, hs5, PostO.mono le5 hp⟩
            | ct ρ4 σ4 => rw [e4] at hp; exact fun W5 st5 H5 le5 hr5 hs5 => ⟨hlt, W5, ρ4, σ4, (l0.trans le3).trans le5, hr5, hs5, PostO.mono le5 hp⟩
            | bk ρ4 σ4 => rw [e4] at hp; exact hp
            | rt d σ4 => rw [e4] at hp; exact hp
            | exc c d σ4 => rw [e4] at hp; exact hp
            | bad => rw [e4] at hp; exact hp
        · have e : i = xs.length := by omega
          subst e
          rw [List.drop_length] at hp
          unfold forL at hp
          exact .inl ⟨i1 _ H2 (le0_of_sub l0.toLe0 r2) (Nat.le_refl _), hp.here hρc r2⟩
theorem mem_putO {x y : Str} {d : Iv.D} : ∀ {fs : List (Str × Iv.D)}, y ∈ (putO x d fs).map (·.1) → y = x ∨ y ∈ fs.map (·.1)
  | [], h => by simp [putO] at h; exact .inl h
  | (z, e) :: fs, h => by
    unfold putO at h
    split at h
    · exact .inr h
    · rw [List.map_cons, List.mem_cons] at h
      rcases h with h | h
      · exact .inr (by rw [List.map_cons, h]; exact List.mem_cons_self ..)
      · rcases mem_putO h with h | h
        · exact .inl h
        · exact .inr (List.mem_cons_of_mem _ h)
theorem st_sfld (C : Pc X g N Φ ea k Wx sc) {cn x : Str} (hb : baseOk a = true) (hf : g.flds.contains (cn, x) = true) (he : PE X e (Te X Φ ea Wx e')) (ha : PE X a (Te X Φ ea Wx a')) : PS X (.Assign [.Attribute a x p2] e pos) (Ts X Φ ea Wx (.sfld cn a' x e')) := by
  refine (ps_fld ha he swA_ok).imp ?_
  rintro D st H ⟨W, ρ, σ, hρ, hσ, h⟩
  unfold ex at h
  refine PostO.bindE hρ hσ h fun d σ1 W1 v H1 le1 hσ1 r1 h1 => PostO.bindE (hρ.mono le1) hσ1 h1 fun o σ2 W2 vo H2 le2 hσ2 r2 h2 => ?_
  split at h2
  · rename_i σ3 e3
    unfold putFld at e3
    split at e3
    · rename_i n
      unfold putFC at e3
      split at e3
      · rename_i c' fs ec
        split at e3
        · rename_i hc
          obtain ⟨rfl, hlen⟩ := hc
          simp only [Rep] at r2
          obtain ⟨hn, rfl⟩ := r2
          obtain ⟨c1, c2, vs, dx, c3, c4⟩ := obj_at hσ2 ec
          have l := c4.length
          rw [List.length_map] at l
          have hna := C.flds _ _ hf
          refine ⟨W2.μ n, _, dx, _, rfl, c3, c1.cl, hna, by rw [List.length_zip, List.length_map]; omega, ?_⟩
          cases e3
          refine h2 W2 st _ (Le.refl _) ((hρ.mono le1).mono le2) (hσ2.put ec (by simp) ⟨c1, fun y hy => ?_, _, dx, ?_, putO_reps (r1.mono le2) c4⟩ (by simp))
          · rcases mem_putO hy with rfl | hy
            · exact hna
            · exact c2 y hy
          · rw [upd_same, putF_zip (d := d) (by omega)]
        · cases e3
      · cases e3
    · cases e3
  · exact False.elim h2
/-! blocks -/
theorem st_nil : PSs X [] (Tb X Φ ea Wx []) := pss_nil.imp fun D st H ⟨W, ρ, σ, hρ, hσ, h⟩ => by
  unfold exs at h
  exact h.here hρ hσ
theorem st_cons {s : Stmt} {s' : Stt} (h1 : PS X s (Ts X Φ ea Wx s')) (h2 : PSs X B (Tb X Φ ea Wx B')) : PSs X (s :: B) (Tb X Φ ea Wx (s' :: B')) := by
  refine (pss_cons h1 h2).imp ?_
  rintro D st H ⟨W, ρ, σ, hρ, hσ, h⟩
  unfold exs at h
  refine ⟨W, ρ, σ, hρ, hσ, ?_⟩
  cases e : ex Φ s' ρ σ with
  | nx ρ4 σ4 => rw [e] at h; exact fun W' st' H' le hr hs => ⟨W', ρ4, σ4, hr, hs, PostO.mono le h⟩
  | ct ρ4 σ4 => rw [e] at h; exact h
  | bk ρ4 σ4 => rw [e] at h; exact h
  | rt d σ4 => rw [e] at h; exact h
  | exc c d σ4 => rw [e] at h; exact h
  | bad => rw [e] at h; exact h
theorem st_frz {i : Nat} (h2 : PSs X B (Tb X Φ ea Wx B')) : PSs X B (Tb X Φ ea Wx (.frz i :: B')) := by
  refine h2.imp ?_
  rintro D st H ⟨W, ρ, σ, hρ, hσ, h⟩
  unfold exs ex at h
  cases e1 : ρ[i]? with
  | none => rw [e1] at h; exact False.elim h
  | some o =>
    cases o with
    | none => rw [e1] at h; exact False.elim h
    | some d =>
      cases d with
      | ref n =>
        rw [e1] at h
        dsimp only at h
        obtain ⟨v, hv, rv⟩ := hρ.2 i _ e1
        simp only [Rep] at rv
        obtain ⟨_, rfl⟩ := rv
        cases e2 : σ[n]? with
        | none => rw [e2] at h; exact False.elim h
        | some c =>
          cases c with
          | dead => rw [e2] at h; exact False.elim h
          | obj _ _ => rw [e2] at h; exact False.elim h
          | lst xs =>
            rw [e2] at h
            dsimp only at h
            obtain ⟨vs, hH, q⟩ := hσ.cell n _ e2
            obtain ⟨le, r⟩ := hσ.freeze e2 (by simp) hH
            refine ⟨_, _, _, (hρ.mono le).alt (d := .lst xs) hv ?_, r, PostO.mono le h⟩
            simp only [Rep]
            exact ⟨W.μ n, vs, rfl, upd_same, q.mono le⟩
          | dic ks xs =>
            rw [e2] at h
            dsimp only at h
            obtain ⟨vs, hH, l, q⟩ := hσ.cell n _ e2
            obtain ⟨le, r⟩ := hσ.freeze e2 (by simp) hH
            refine ⟨_, _, _, (hρ.mono le).alt (d := .dic ks xs) hv ?_, r, PostO.mono le h⟩
            simp only [Rep]
            exact ⟨W.μ n, vs, rfl, upd_same, l, q.mono le⟩
      | _ => rw [e1] at h; exact False.elim h
end
end Iv

set_option Elab.async false
set_option linter.all false
set_option maxHeartbeats 8000000
set_option maxRecDepth 4000
/-! adequacy: blocks, defs -/
namespace Iv
open PySem PySem.Spec L2
section
variable {X : Cx} {g : Sg} {N : List Str} {Φ : CallSem} {ea : Exa} {k : Nat} {Wx : WX} {sc : Scope}
theorem st_setC (C : Pc X g N Φ ea k Wx sc) {y : Str} {py pos sp : Pos} {elt tg iter : Expr} {ifs : List Expr} {scope : Scope} {i : Nat} {mu : Bool} {own : List Nat} {t : Tg} {kd : IK} {its : List Ex} {c elt' : Ex} {n : Nat}
    (h0 : swB sc (.Name y py) (.ListComp elt [⟨tg, iter, ifs, 0⟩] scope pos) = true) (hy : N[i]? = some y) (h : chkE g N n sc (.ListComp elt [⟨tg, iter, ifs, 0⟩] scope pos) (.comp mu own t kd its c elt') = true) :
    PS X (.Assign [.Name y py] (.ListComp elt [⟨tg, iter, ifs, 0⟩] scope pos) sp) (Ts X Φ ea Wx (.asg (.nm i) (.comp mu own t kd its c elt'))) := by
  cases n with
  | zero => rw [chkE.eq_def] at h; cases h
  | succ n =>
    rw [chkE] at h
    simp only [Bool.and_eq_true] at h
    obtain ⟨⟨⟨⟨⟨h1, h2⟩, h3⟩, h4⟩, h5⟩, h6⟩ := h
    have ih := adE_all (g := g) (N := N) (Φ := Φ) (ea := ea) (k := k) n
    obtain ⟨i1, i2⟩ := ih.fI C (tg := tg) h2
    have hk : scope.kind = .function := (blkOk_by h1).kind
    have h0 : (sc.names.lookup y == some NameKind.local && py.line == pos.line && !(scope.names.any fun (n, k) => n == y && (k == .local || k == .cell))) = true := h0
    simp only [Bool.and_eq_true, Bool.not_eq_true', beq_iff_eq] at h0
    obtain ⟨⟨g1, g2⟩, g3⟩ := h0
    have := ad_comp C h1 i1 h3 h4 (fun s H L cl fp => ih.fF (C.blk hk) h5) (fun s H L cl fp => (ih.fE (C.blk hk) h6).1) i2 (mu := mu) (u := fun te => PS X (.Assign [.Name y py] (.ListComp elt [⟨tg, iter, ifs, 0⟩] scope pos) sp) (tAsg te (gName i)))
      fun ok hg => ps_setLc C.pl.calm (by rw [C.hN]; exact C.nd) (by rw [C.hN]; exact hy) (by rw [C.hsc]; exact g1) (sw_true (by rw [C.hsc]; exact C.kind) (by rw [C.hsc]; exact g1) (by rw [g2]; exact beq_self_eq_true _) g3) i1 ok hg (fun s H L cl fp => ih.fF (C.blk hk) h5) (fun s H L cl fp => (ih.fE (C.blk hk) h6).1) i2
    refine this.1.imp ?_
    rintro D st H ⟨W, ρ, σ, hρ, hσ, h⟩
    unfold ex at h
    refine this.2 _ _ _ (PostO.bindE hρ hσ h fun d σ1 W1 v H1 le1 hσ1 r1 h1 => ?_)
    exact h1 W1 _ H1 (Le.refl _) ((hρ.mono le1).set r1 i) hσ1
structure AdS (X : Cx) (g : Sg) (N : List Str) (Φ : CallSem) (ea : Exa) (Wx : WX) (sc : Scope) (n : Nat) : Prop where
  s : ∀ {a : Stmt} {a' : Stt}, chkS g N n sc a a' = true → PS X a (Ts X Φ ea Wx a')
  b : ∀ {a : List Stmt} {a' : List Stt}, chkB g N n sc a a' = true → PSs X a (Tb X Φ ea Wx a')
theorem adS_all (C : Pc X g N Φ ea k Wx sc) (hs : Stores X N sc) (hp : PassesOwn (model X.prog X.w) X.A X.env X.xe) : ∀ n, AdS X g N Φ ea Wx sc n
  | 0 => ⟨(by intro a a' h; rw [chkS.eq_def] at h; cases h), (by intro a a' h; rw [chkB.eq_def] at h; cases h)⟩
  | n + 1 => by
    have ih := adS_all C hs hp n
    have ie := adE_all (g := g) (N := N) (Φ := Φ) (ea := ea) (k := k) n
    refine ⟨?_, ?_⟩
    · intro a a' h
      rw [chkS.eq_def] at h
      split at h
      · rename_i q; cases q
      all_goals (rename_i q0; try (injection q0 with q0; subst q0))
      · simp only [Bool.and_eq_true] at h
        obtain ⟨⟨⟨h2, h3⟩, h4⟩, h5⟩ := h
        exact st_put C h2 (ie.fE C h3).1 (ie.fE C h4).1 (ie.fE C h5).1
      · simp only [Bool.and_eq_true, Bool.not_eq_true', decide_eq_true_eq, beq_iff_eq] at h
        obtain ⟨⟨⟨⟨⟨⟨⟨⟨⟨⟨h1, h2⟩, h3⟩, h4⟩, h5⟩, h6⟩, h7⟩, h8⟩, h9⟩, h10⟩, h11⟩ := h
        exact st_par C h1 h2 h3 h4 h5 h6 h7 h8 (ie.fE C h9).1 (ie.fE C h10).1 h11
      · simp only [Bool.and_eq_true, Bool.not_eq_true'] at h
        obtain ⟨⟨⟨h1, h2⟩, h3⟩, h4⟩ := h
        refine st_asg C hs h1 ?_ h3 (ie.fE C h4).1
        split at h2
        · assumption
        · cases h2
      · refine ps_doc.imp ?_
        rintro D st H ⟨W, ρ, σ, hρ, hσ, h⟩
        unfold ex at h
        exact h.here hρ hσ
      · simp only [Bool.and_eq_true] at h
        exact st_exp h.1 (ie.fE C h.2).1
      · exact st_ret (ie.fE C h).1
      · exact st_ret0
      · simp only [Bool.and_eq_true] at h
        obtain ⟨⟨h1, h2⟩, h3⟩ := h
        exact st_if (ie.fE C h1).2 (ih.b h2) (ih.b h3)
      · simp only [Bool.and_eq_true] at h
        exact st_whl hp (ie.fE C h.1).2 (ih.b h.2)
      · simp only [Bool.and_eq_true] at h
        obtain ⟨⟨h1, h2⟩, h3⟩ := h
        exact st_for C hs hp (ie.fI C h1).1 (ie.fI C h1).2 h2 (ih.b h3)
      · refine ps_break.imp ?_
        rintro D st H ⟨W, ρ, σ, hρ, hσ, h⟩
        unfold ex at h
        exact h W st H (Le.refl _) hρ hσ
      · refine ps_continue.imp ?_
        rintro D st H ⟨W, ρ, σ, hρ, hσ, h⟩
        unfold ex at h
        exact h W st H (Le.refl _) hρ hσ
      · refine ps_pass.imp ?_
        rintro D st H ⟨W, ρ, σ, hρ, hσ, h⟩
        unfold ex at h
        exact h.here hρ hσ
      · simp only [Bool.and_eq_true, decide_eq_true_eq] at h
        obtain ⟨⟨⟨⟨rfl, h1⟩, h3⟩, h4⟩, h5⟩ := h
        exact st_sfld C h1 h3 (ie.fE C h4).1 (ie.fE C h5).1
      · refine ps_never.imp ?_
        rintro D st H ⟨W, ρ, σ, hρ, hσ, h⟩
        unfold ex at h
        exact h
      · cases h
    · intro a a' h
      rw [chkB.eq_def] at h
      split at h
      · rename_i q; cases q
      all_goals (rename_i q0; try (injection q0 with q0; subst q0))
      · exact st_frz (ih.b h)
      · exact st_nil
      · rw [Bool.and_eq_true] at h
        obtain ⟨h1, h2⟩ := h
        refine st_cons ?_ (ih.b h2)
        split at h1
        · rename_i hsw
          simp only [Bool.and_eq_true, decide_eq_true_eq] at h1
          exact st_setC C hsw h1.1 h1.2
        · exact ih.s h1
      · rw [Bool.and_eq_true] at h
        exact st_cons (ih.s h.1) (ih.b h.2)
      · cases h
end
end Iv

set_option Elab.async false
set_option linter.all false
set_option maxHeartbeats 8000000
/-! adequacy: defs -/
namespace Iv
open PySem PySem.Spec L2
section
variable {P : Program} {w : World} {K : PySem.W.Frag} {mg : Str → Option Value} {base : Heap} {ea : Exa} {g : Sg} {pr : List Fd}
/-- a def of the text keeps its promise where its body does -/
theorem fnG_of {k : Nat} {f : Addr} {name qual : Str} {params : Arguments} {body : List Stmt} {scope : Scope} {dV kV doc pm cdv ct oc : Value} {an od : Option Addr} {osl : Array (Option Value)} {N ps : List Str} {sp : Sp}
    (lk : K.lookup f = some ⟨oc, od, .func (PySem.W.fnOf name qual params body scope dV kV doc pm an cdv ct), osl⟩) (hcd : PySem.W.codeIn K cdv qual = true) (S : FnScope N ps scope) (len : ∀ vs H Q E, sp vs H Q E → vs.length = ps.length)
    (hbody : ∀ (A : Around) (outer : List PySem.Env) (s : Shared) (H : Hp) (vs : List V) (Q : VK) (E : XK), RoomI (2 * k + 1) (A.deeper (PyProof.Rows.envOfC qual scope s.heap.objs.size f cdv)) → A.guards = some [] → sp vs H Q E →
      ∃ t, PSs (cxOf (CX P w) P w K mg base N qual scope f cdv A outer s H E) body t ∧ t { nx := fun _ H' => Q .non H', rt := Q } (L2.start N vs) H) :
    FnG P w K mg base (k + 1) f (PySem.W.fnOf name qual params body scope dV kV doc pm an cdv ct) ps sp := by
  refine ⟨len, fun A outer s H args us vs Q E hr hgd e0 hb r hsp => ?_⟩
  have hl := len _ _ _ _ hsp
  have kept : ∀ b o, base.get? b = some o → s.heap.get? b = some o := fun b o e => (e0.bs b o e).1
  have KX : K.In s.heap := e0.mod.kin.keeps kept
  have lim : s.heap.NoLimit := e0.mod.nolimit.keeps kept
  have hkind : ∀ y ∈ ps.zip us, scope.names.lookup y.1 = some .local ∨ (scope.names.lookup y.1 = some .cell ∧ ((cellsFrom (s.heap.objs.size + 1) scope.names []).lookup y.1).isSome = true) := by
    rintro ⟨n, v⟩ hy
    rcases S.par n (List.of_mem_zip hy).1 with q | q
    · exact .inl q
    · exact .inr ⟨q, PySem.W.cellsFrom_some _ _ _ (.inl q)⟩
  refine codeAny_call_function hr.depth (KX _ _ lk) rfl S.co S.gen rfl (PySem.W.codeRec_of KX hcd) (hb _ _ _ _ ?_)
  refine wpAny_newFunctionEnv_cells S.kind hkind fun env he s1 x => ?_
  subst he
  refine ⟨lim.keeps x.toInCall.keep, codeAny_func ?_⟩
  obtain ⟨t, ht, hq⟩ := hbody A outer s H vs Q E (RoomI.deeper (k := 2 * k + 1) hr _) hgd hsp
  have I : L2.Inv (cxOf (CX P w) P w K mg base N qual scope f cdv A outer s H E) [] (L2.start N vs) H s1 := inv_start S hr.hd e0 hl r x
  refine wpAny_mono (ht.run [] s1 (L2.start N vs) H _ I hq) (fun fl s' hs => ?_) fun e s' hs => hs
  have done : ∀ {st' : L2.St} {H' : Hp} {v : V} {u : Value}, L2.Inv (cxOf (CX P w) P w K mg base N qual scope f cdv A outer s H E) [] st' H' s' → RelV v u → Q v H' → CE outer P w H s Q u s' := by
    intro st' H' v u J rv q
    exact ⟨v, H', J.os, J.bare, J.base, J.hok, rv, q⟩
  cases fl with
  | ret u =>
    obtain ⟨v, st', H', J, rv, q⟩ := hs
    exact done J rv q
  | next =>
    obtain ⟨st', H', J, q⟩ := hs
    exact done (v := V.non) (u := Value.none) J rfl q
  | brk =>
    obtain ⟨_, _, _, q⟩ := hs
    exact False.elim q
  | cont =>
    obtain ⟨_, _, _, q⟩ := hs
    exact False.elim q
/-- what the text's def at f is -/
structure DefOk (K : PySem.W.Frag) (g : Sg) (f : Addr) (fd : FuncData) (ps N : List Str) (b : Fd) : Prop where
  ex : ∃ (fuel : Nat) (name qual : Str) (params : Arguments) (body : List Stmt) (scope : Scope) (dV kV doc pm cdv ct oc : Value) (an od : Option Addr) (osl : Array (Option Value)),
    fd = PySem.W.fnOf name qual params body scope dV kV doc pm an cdv ct ∧ K.lookup f = some ⟨oc, od, .func fd, osl⟩ ∧ PySem.W.codeIn K cdv qual = true ∧ FnScope N ps scope ∧ chkB g N fuel scope body b.body = true
  np : ps.length = b.np
  ns : N.length = b.ns
/-- all that the text's globals are -/
structure Lib (P : Program) (w : World) (K : PySem.W.Frag) (mg : Str → Option Value) (base : Heap) (g : Sg) (pr : List Fd) : Prop where
  defs : ∀ x i shs, g.fns.lookup x = some (i, shs) → ∃ f fd ps N b, mg x = some (.ref f) ∧ PySem.W.keepIn K (.ref f) = true ∧ pr[i]? = some b ∧ DefOk K g f fd ps N b ∧ ∀ sh ∈ shs, sh.pm.length = b.np ∧ ShOk P w K fd ps sh
  mes : ∀ c m i shs, g.mes.lookup (c, m) = some (i, shs) → ∃ f fd ps N b, Meth K (He.ga K c) m f ∧ pr[i]? = some b ∧ DefOk K g f fd ps N b ∧ ∀ sh ∈ shs, sh.pm.length = b.np ∧ ShOk P w K fd ps sh
  mks : ∀ c, g.mks.contains c = true → ClsF K (He.ga K c) ∧ mg c = some (.ref (He.ga K c)) ∧ ∃ f, Mk K (He.ga K c) f
  flds : ∀ c x, g.flds.contains (c, x) = true → NoAttr K (He.ga K c) x
  fcs : ∀ f, g.fcs.contains f = true → fcB K f = true
  glo : ∀ x d, g.glo.lookup x = some d → ∃ v u, mg x = some u ∧ RelV v u ∧ ∀ W, Rep P w K W d v
  blt : ∀ x ∈ bltNames, mg x = none
  sy : ∃ o, base.get? sysModules = some o ∧ o.cls ≠ .type "list"
theorem leave_post {Q : VK} {Wx : WX} {W0 W : Wd} {σ0 σ : Store} {H0 H : Hp} {d : D} {v : V} (r0 : Rel P w K W0 σ0 H0) (le : Le W0 W) (r : Rel P w K W σ H) (rd : Rep P w K W d v) (h : Post P w K ea Wx [] W0 (leave σ0 d σ) Q) : Q v H := by
  unfold leave at h
  split at h
  · rename_i c
    have c := dropOk_iff.mp c
    obtain ⟨l2, r2⟩ := Rel.cut r0 le r c.2
    exact h _ v H l2 r2 (rd.cut c.1)
  · exact h W v H le r rd
theorem envR_start {W : Wd} {N : List Str} {ds : List D} {vs : List V} {ns : Nat} (hn : N.length = ns) (q : Reps P w K W ds vs) : EnvR P w K W (ds.map some ++ List.replicate (ns - ds.length) none) (L2.start N vs) := by
  subst hn
  have l := q.length
  refine ⟨?_, fun i d e => ?_⟩
  · unfold L2.start; simp [l]
  · have hi : i < ds.length := by
      by_cases hi : i < ds.length
      · exact hi
      · rw [List.getElem?_append_right (by simpa using hi), List.getElem?_replicate] at e
        split at e <;> cases e
    rw [List.getElem?_append_left (by simpa using hi), List.getElem?_map, List.getElem?_eq_getElem hi] at e
    have e : ds[i] = d := by simpa using e
    obtain ⟨v, h1, h2⟩ := q.get (List.getElem?_eq_getElem hi)
    refine ⟨v, ?_, e ▸ h2⟩
    unfold L2.start
    rw [List.getElem?_append_left (by rw [List.length_map]; omega), List.getElem?_map, h1]; rfl
/-- all defs and methods keep their promises -/
structure AllG (P : Program) (w : World) (K : PySem.W.Frag) (mg : Str → Option Value) (base : Heap) (ea : Exa) (g : Sg) (pr : List Fd) (k : Nat) : Prop where
  fns : ∀ x i shs, g.fns.lookup x = some (i, shs) → ∃ f fd ps np, mg x = some (.ref f) ∧ PySem.W.keepIn K (.ref f) = true ∧ FnG P w K mg base k f fd ps (spC P w K ea (callK pr k) np i) ∧ ∀ sh ∈ shs, sh.pm.length = np ∧ ps.length = np ∧ ShOk P w K fd ps sh
  mes : ∀ c m i shs, g.mes.lookup (c, m) = some (i, shs) → ∃ f fd ps np, Meth K (He.ga K c) m f ∧ FnG P w K mg base k f fd ps (spC P w K ea (callK pr k) np i) ∧ ∀ sh ∈ shs, sh.pm.length = np ∧ ps.length = np ∧ ShOk P w K fd ps sh
/-- a def keeps its promise, where the defs that it calls keep theirs -/
theorem fn_step {k i : Nat} {f : Addr} {fd : FuncData} {ps N : List Str} {b : Fd} (L : Lib P w K mg base g pr) (ih : AllG P w K mg base ea g pr k)
    (h3 : pr[i]? = some b) (h4 : DefOk K g f fd ps N b) : FnG P w K mg base (k + 1) f fd ps (spC P w K ea (callK pr (k + 1)) b.np i) := by
  obtain ⟨fuel, name, qual, params, body, scope, dV, kV, doc, pm, cdv, ct, oc, an, od, osl, rfl, lk, hcd, S, hchk⟩ := h4.ex
  refine fnG_of lk hcd S (fun vs H Q E q => q.1.trans h4.np.symm) fun A outer s H vs Q E hr hgd hsp => ?_
  refine ⟨Tb (cxOf (CX P w) P w K mg base N qual scope f cdv A outer s H E) (callK pr k) ea (fun cls d _ H => E cls d H) b.body, ?_, ?_⟩
  · have C : Pc (cxOf (CX P w) P w K mg base N qual scope f cdv A outer s H E) g N (callK pr k) ea k (fun cls d _ H => E cls d H) scope :=
      ⟨⟨rfl, by have := hr.un; show (A.deeper _).units + 200 < cLine; omega, hgd⟩, ⟨L.sy⟩, rfl, S.nd, rfl, S.kind, hr, ih.fns, ih.mes, L.mks, L.flds, L.fcs, L.glo, L.blt, takes_of rfl rfl rfl rfl⟩
    exact (adS_all C (fun y hy => ⟨locC_or hy, .inl rfl⟩) (passes_of rfl) fuel).b hchk
  · obtain ⟨hl, W, σ, ds, hσ, rd, hp⟩ := hsp
    refine ⟨W, ds.map some ++ List.replicate (b.ns - ds.length) none, σ, envR_start h4.ns rd, hσ, ?_⟩
    unfold callK at hp
    rw [h3] at hp
    dsimp only at hp
    rw [if_pos (by rw [rd.length]; exact hl)] at hp
    cases e : exs (callK pr k) b.body (ds.map some ++ List.replicate (b.ns - ds.length) none) σ with
    | nx ρ1 σ1 => rw [e] at hp; exact fun W' st' H' le _ r => leave_post hσ le r (by simp only [Rep]) hp
    | rt d σ1 => rw [e] at hp; exact fun W' v H' le r rd => leave_post hσ le r rd hp
    | exc c d σ1 => rw [e] at hp; exact fun W' st' H' cls dx le r q => hp W' H' cls dx le r q
    | bk _ _ => rw [e] at hp; exact False.elim hp
    | ct _ _ => rw [e] at hp; exact False.elim hp
    | bad => rw [e] at hp; exact False.elim hp
theorem fns_all (L : Lib P w K mg base g pr) : ∀ k, AllG P w K mg base ea g pr k
  | 0 => by
    refine ⟨fun x i shs h => ?_, fun c m i shs h => ?_⟩
    · obtain ⟨f, fd, ps, N, b, h1, h2, h3, h4, h5⟩ := L.defs x i shs h
      refine ⟨f, fd, ps, b.np, h1, h2, ⟨fun vs H Q E q => q.1.trans h4.np.symm, fun A outer s H args us vs Q E _ _ _ _ _ q => ?_⟩, fun sh hs => ⟨(h5 sh hs).1, h4.np, (h5 sh hs).2⟩⟩
      obtain ⟨_, W, σ, ds, _, _, q⟩ := q
      exact False.elim q
    · obtain ⟨f, fd, ps, N, b, h1, h3, h4, h5⟩ := L.mes c m i shs h
      refine ⟨f, fd, ps, b.np, h1, ⟨fun vs H Q E q => q.1.trans h4.np.symm, fun A outer s H args us vs Q E _ _ _ _ _ q => ?_⟩, fun sh hs => ⟨(h5 sh hs).1, h4.np, (h5 sh hs).2⟩⟩
      obtain ⟨_, W, σ, ds, _, _, q⟩ := q
      exact False.elim q
  | k + 1 => by
    refine ⟨fun x i shs h => ?_, fun c m i shs h => ?_⟩
    · obtain ⟨f, fd, ps, N, b, h1, h2, h3, h4, h5⟩ := L.defs x i shs h
      exact ⟨f, fd, ps, b.np, h1, h2, fn_step L (fns_all L k) h3 h4, fun sh hs => ⟨(h5 sh hs).1, h4.np, (h5 sh hs).2⟩⟩
    · obtain ⟨f, fd, ps, N, b, h1, h3, h4, h5⟩ := L.mes c m i shs h
      exact ⟨f, fd, ps, b.np, h1, fn_step L (fns_all L k) h3 h4, fun sh hs => ⟨(h5 sh hs).1, h4.np, (h5 sh hs).2⟩⟩
theorem fn_all {i : Nat} {f : Addr} {fd : FuncData} {ps N : List Str} {b : Fd} (L : Lib P w K mg base g pr) (h3 : pr[i]? = some b) (h4 : DefOk K g f fd ps N b) : ∀ k, FnG P w K mg base (k + 1) f fd ps (spC P w K ea (callK pr (k + 1)) b.np i) :=
  fun k => fn_step L (fns_all L k) h3 h4
end
end Iv

set_option Elab.async false
set_option linter.all false
set_option maxHeartbeats 8000000
/-! the head: from the evaluator's answer to the law -/
namespace Iv
open PySem PySem.Spec L2
/-- the law's def is called on the script -/
theorem law_callG {P : Program} {w : World} {K : PySem.W.Frag} {mg mb : Str → Option Value} {k : Nat} {fa a : Addr} {fd : FuncData} {x : Str} {sp : Sp} {s₁ : Shared} {vs : List Value} {ns : List Int}
    (KX : K.In s₁.heap) (hns : s₁.heap.Ns mainGlobals mg) (hb : s₁.heap.Ns builtinsNs mb) (hbb : ∀ x : Str, x ≠ "__name__" → mb x = bootBuiltins x) (hlim : s₁.heap.NoLimit) (hg : s₁.gens = #[])
    (ha : s₁.heap.get? a = some { cls := .type "list", data := .seq vs.toArray }) (hi : PyProof.Rows.IntsAre vs ns) (hl : ns.length ≤ sizeLine) (hr : Room k callerA)
    (F : ∀ base : Heap, K.In base → FnG P w K mg base k fa fd [x] sp) (hbind : ∀ (s : Shared) (u : Value), K.In s.heap → BindsTo s fd ⟨[u], []⟩ [(x, u)])
    (hsp : ∀ H : Hp, Only H → SqL K H a (ns.map V.int) → sp [.ref a] H (fun v _ => v = .bl true) fun _ _ _ => False) :
    codeAny (model P w) callerA (.call (.ref fa) ⟨[.ref a], []⟩) (fun r s' => r = .ok (.ret (.bool true)) ∧ OldK s₁.heap s'.heap ∧ s'.os = s₁.os ∧ PyProof.Rows.AllBare s'.gens) s₁ := by
  have rv := vals_ints hi
  have lenV := hi.length
  have core : ∀ H : Hp, Only H → SqL K H a (ns.map V.int) → HOk P w H s₁.heap → (∀ b, H b ≠ none → b = a) → (H a ≠ none → K.lookup a = none) →
      codeAny (model P w) callerA (.call (.ref fa) ⟨[.ref a], []⟩) (fun r s' => r = .ok (.ret (.bool true)) ∧ OldK s₁.heap s'.heap ∧ s'.os = s₁.os ∧ PyProof.Rows.AllBare s'.gens) s₁ := by
    intro H hO hS hok hA hK
    have only : ∀ {b : Addr}, b ≠ a → H b = none := by
      intro b hb
      cases q : H b with
      | none => rfl
      | some u => exact absurd (hA b (by rw [q]; simp)) hb
    have kept : ∀ {b : Addr} {o : Obj}, s₁.heap.get? b = some o → H b = none → (hidT s₁.heap H).get? b = some o := fun e n => hidT_get e n
    have dictFree : ∀ {b : Addr} {o : Obj} {es : Array DictEntry} {ep : Nat}, s₁.heap.get? b = some o → o.data = .dict es ep → H b = none := by
      intro b o es ep e d
      refine only fun z => ?_
      subst z
      rw [ha] at e
      cases e
      cases d
    have nsK : ∀ {b : Addr} {m : Str → Option Value}, s₁.heap.Ns b m → (hidT s₁.heap H).Ns b m := fun ⟨o, es, ep, e, d, r⟩ => ⟨o, es, ep, kept e (dictFree e d), d, r⟩
    have hKb : K.In (hidT s₁.heap H) := by
      intro b o e
      refine kept (KX b o e) ?_
      by_cases z : b = a
      · subst z
        cases q : H b with
        | none => rfl
        | some u => rw [hK (by rw [q]; simp)] at e; cases e
      · exact only z
    have hM : Mod K mg (hidT s₁.heap H) := ⟨hKb, nsK hns, ⟨mb, nsK hb, hbb⟩, let ⟨mc, h1, h2⟩ := hlim; ⟨mc, nsK h1, h2⟩⟩
    have e0 : Env0 P w K mg (hidT s₁.heap H) callerA [] s₁ H := ⟨rfl, hM, fun b o e => of_hidT e, Nat.le_of_eq (hidT_size _ _), trivial, (by intro b z; cases z), hok, .of_eq hg⟩
    refine codeAny_mono ((F _ hKb).run callerA [] s₁ H ⟨[.ref a], []⟩ [.ref a] [.ref a] _ _ (RoomI.of hr) rfl e0 (hbind s₁ (.ref a) KX) (.cons rfl .nil) (hsp H hO hS)) fun r s' h => ?_
    cases r with
    | error e =>
      obtain ⟨_, _, _, _, _, _, _, _, _, _, _, _, z⟩ := h
      exact z.elim
    | ok fl =>
      cases fl with
      | next => exact False.elim h
      | brk => exact False.elim h
      | cont => exact False.elim h
      | ret u =>
        obtain ⟨v, H', os, bare, un, hok', r', q⟩ := h
        have q' : v = .bl true := q
        subst q'
        obtain rfl : u = Value.bool true := r'
        refine ⟨rfl, OldK.of_keep fun b o e => ?_, os, bare⟩
        cases q : H b with
        | none => exact un.keep b o e q (by intro z; cases z) (by intro z; cases z)
        | some u =>
          rcases hO b with z | ⟨ob, xs, z⟩
          · rw [q] at z; cases z
          · obtain ⟨e1, _⟩ := hok b _ z
            obtain ⟨e2, _⟩ := hok' b _ (un.frzs b ob _ z)
            rw [e] at e1; cases e1
            exact e2
  cases hk : K.lookup a with
  | some o =>
    have e := KX a o hk
    rw [ha] at e
    cases e
    exact core (fun _ => none) (fun _ => .inl rfl) (.inr ⟨_, vs.toArray, _, hk, rfl, rfl, rfl, by rw [List.size_toArray, lenV]; exact hl, by simpa using rv⟩) (fun b u z => nomatch (show (none : Option HO) = some u from z)) (fun b z => absurd rfl z) fun z => absurd rfl z
  | none =>
    refine core (fun b => if b = a then some (.frz { cls := .type "list", data := .seq vs.toArray } (.lst (ns.map V.int))) else none) (fun b => ?_) (.inl (.inr ⟨{ cls := .type "list", data := .seq vs.toArray }, if_pos rfl⟩)) (fun b u z => ?_) (fun b z => ?_) fun _ => hk
    · by_cases hb : b = a
      · exact .inr ⟨_, _, if_pos hb⟩
      · exact .inl (if_neg hb)
    · by_cases hb : b = a
      · have z' := (if_pos hb).symm.trans z
        cases z'
        subst hb
        exact ⟨ha, by rw [List.length_map]; exact hl, vs, _, rv, ha⟩
      · cases (if_neg hb).symm.trans z
    · by_cases hb : b = a
      · exact hb
      · exact absurd (if_neg hb) z
theorem walk_ofG {l : PySem.W.OpenLaw} {n k : Nat} {q : Program} {loose : List Str} {XP : (Str → Option Value) → Heap → Prop} {YP : World → Heap → Prop} {d : DefRec} {x : Str}
    (hn : l.most = some n) (hn2 : n ≤ sizeLine) (hdf : d.params.defaults = []) (hr : Room k callerA)
    (F : ∀ (w : World) (mg : Str → Option Value) (fa : Addr) (h : Heap), YP w h → h.Ns mainGlobals mg → mg d.name = some (.ref fa) →
      ∃ (K : PySem.W.Frag) (fd : FuncData) (sp : Sp), K.In h ∧ (∀ (s : Shared) (u : Value), K.In s.heap → BindsTo s fd ⟨[u], []⟩ [(x, u)]) ∧
        (∀ (H : Hp) (a : Addr) (ns : List Int), ns.length ≤ n → Only H → SqL K H a (ns.map V.int) → sp [.ref a] H (fun v _ => v = .bl true) fun _ _ _ => False) ∧
        ∀ base : Heap, K.In base → FnG l.prog w K mg base k fa fd [x] sp) :
    PySem.W.WalkO q loose XP YP l.row.toRowW d [] (fun f vs => PySem.call f vs) := by
  refine Att.attach_call hn hdf fun w s₀ s₁ mg mb fa o pm cd doc a vs ns G Y ho hd hcd hmg hobj hints hlen hg => ?_
  obtain ⟨K, fd, sp, KX, hb, hsp, hF⟩ := F w mg fa _ Y G.T.g hmg
  exact law_callG KX G.T.g G.T.b G.T.builtins G.T.nolimit hg hobj hints (Nat.le_trans hlen hn2) hr hF hb (fun H hO hS => hsp H a ns hlen hO hS)
/-! ### what is known of a def -/
structure Info where
  num : Nat
  d : He.DefD
  N : List Str
  b : Fd
  shs : List Shp
def psOf (d : He.DefD) : List Str := d.params.args.map (·.arg)
def scopeC (N ps : List Str) (sc : Scope) : Bool := (match sc.kind with
    | .function => true
    | _ => false) && !sc.isCoroutine && !sc.isGenerator && decide N.Nodup && decide (N.take ps.length = ps) && (ps.all fun x => locC sc x) && sc.names.all fun y => !(y.2 == .free)
theorem scopeC_ok {N ps : List Str} {sc : Scope} (h : scopeC N ps sc = true) : FnScope N ps sc := by
  unfold scopeC at h
  simp only [Bool.and_eq_true, Bool.not_eq_true', decide_eq_true_eq, List.all_eq_true] at h
  obtain ⟨⟨⟨⟨⟨⟨h1, h2⟩, h3⟩, h4⟩, h5⟩, h6⟩, h7⟩ := h
  refine ⟨?_, h2, h3, h4, h5, fun x hx => locC_or (h6 x hx), fun y hy e => ?_⟩
  · split at h1
    · assumption
    · cases h1
  · have := h7 y hy
    rw [e] at this
    cases this
def infoC (g : Sg) (fuel : Nat) (i : Info) : Bool := chkB g i.N fuel i.d.scope i.d.body i.b.body && scopeC i.N (psOf i.d) i.d.scope && decide ((psOf i.d).length = i.b.np) && decide (i.N.length = i.b.ns) && (i.shs.all fun sh => decide (sh.pm.length = i.b.np)) && (match i.d.at_.2 with
  | none => decide (i.d.at_ = (i.d.name, none))
  | some _ => true)
/-- how it may be called -/
def ShsOk (i : Info) : Prop := ∀ (P : Program) (w : World) (K : PySem.W.Frag) (f : Addr) (fd : FuncData), FunD K i.d.name i.d.qual i.d.params i.d.body i.d.scope (i.d.dvs K) (i.d.kws K) f fd → ∀ sh ∈ i.shs, ShOk P w K fd (psOf i.d) sh
mutual
/-- data that the module's top holds -/
def dvB (K : PySem.W.Frag) : D → Value → Bool
  | .int i, .int j _ => decide (i = j)
  | .str x, .str y _ => decide (x = y)
  | .bl b, .bool c => b == c
  | .non, .none => true
  | .tup ds, .ref a => match K.lookup a with
    | some ⟨.type c, none, .seq its _, _⟩ => decide (c = "tuple") && decide (its.size ≤ sizeLine) && dvsB K ds its.toList
    | _ => false
  | _, _ => false
def dvsB (K : PySem.W.Frag) : List D → List Value → Bool
  | [], [] => true
  | d :: ds, u :: us => dvB K d u && dvsB K ds us
  | _, _ => false
end
mutual
theorem dvB_ok {P : Program} {w : World} {K : PySem.W.Frag} : ∀ {d : D} {u : Value}, dvB K d u = true → ∃ v, RelV v u ∧ ∀ W, Rep P w K W d v
  | .int i, u, h => by
    cases u <;> simp only [dvB, Bool.false_eq_true, decide_eq_true_eq] at h
    subst h
    exact ⟨.int _, ⟨_, rfl⟩, fun W => by simp only [Rep]⟩
  | .str i, u, h => by
    cases u <;> simp only [dvB, Bool.false_eq_true, decide_eq_true_eq] at h
    subst h
    exact ⟨.str _, ⟨_, rfl⟩, fun W => by simp only [Rep]⟩
  | .bl i, u, h => by
    cases u <;> simp only [dvB, Bool.false_eq_true, beq_iff_eq] at h
    subst h
    exact ⟨.bl _, rfl, fun W => by simp only [Rep]⟩
  | .non, u, h => by
    cases u <;> simp only [dvB, Bool.false_eq_true] at h
    exact ⟨.non, rfl, fun W => by simp only [Rep]⟩
  | .tup ds, u, h => by
    cases u with
    | ref a =>
      simp only [dvB] at h
      split at h
      · rename_i c its n sl e
        simp only [Bool.and_eq_true, decide_eq_true_eq] at h
        obtain ⟨⟨rfl, h2⟩, h3⟩ := h
        obtain ⟨vs, r1, r2⟩ := dvsB_ok (P := P) (w := w) h3
        refine ⟨.ref a, rfl, fun W => ?_⟩
        simp only [Rep]
        exact ⟨a, vs, rfl, .inr ⟨_, its, n, e, rfl, rfl, rfl, h2, r1⟩, r2 W⟩
      · cases h
    | _ => simp only [dvB, Bool.false_eq_true] at h
  | .it _, u, h => by simp only [dvB, Bool.false_eq_true] at h
  | .lst _, u, h => by simp only [dvB, Bool.false_eq_true] at h
  | .dic _ _, u, h => by simp only [dvB, Bool.false_eq_true] at h
  | .set _, u, h => by simp only [dvB, Bool.false_eq_true] at h
  | .ro _, u, h => by simp only [dvB, Bool.false_eq_true] at h
  | .rod _ _, u, h => by simp only [dvB, Bool.false_eq_true] at h
  | .gv _, u, h => by simp only [dvB, Bool.false_eq_true] at h
  | .ref _, u, h => by simp only [dvB, Bool.false_eq_true] at h
theorem dvsB_ok {P : Program} {w : World} {K : PySem.W.Frag} : ∀ {ds : List D} {us : List Value}, dvsB K ds us = true → ∃ vs, Vals vs us ∧ ∀ W, Reps P w K W ds vs
  | [], us, h => by
    cases us <;> simp only [dvsB, Bool.false_eq_true] at h
    exact ⟨[], .nil, fun W => Reps.nil⟩
  | d :: ds, us, h => by
    cases us with
    | nil => simp only [dvsB, Bool.false_eq_true] at h
    | cons u us =>
      simp only [dvsB, Bool.and_eq_true] at h
      obtain ⟨v, r1, r2⟩ := dvB_ok (P := P) (w := w) h.1
      obtain ⟨vs, r3, r4⟩ := dvsB_ok (P := P) (w := w) h.2
      exact ⟨v :: vs, .cons r1 r3, fun W => Reps.cons (r2 W) (r4 W)⟩
end
def gloB (K : PySem.W.Frag) : Str × D → Bool
  | (x, .gv y) => decide (x = y) && (He.Fa.glo x).ok K
  | (x, .rod ks vs) => (He.Fa.glo x).ok K && decide ks.Nodup && decide (ks.length = vs.length) && (ks.zip vs).all fun q => match PySem.W.nsIn K (He.ga K x) q.1 with
    | some (some u) => dvB K q.2 u
    | _ => false
  | (x, d) => match PySem.W.nsIn K mainGlobals x with
    | some (some u) => dvB K d u
    | _ => false
/-- the dicts among them -/
def rodsOf (glo : List (Str × D)) : List (Str × List Str) := glo.filterMap fun p => match p.2 with
  | .rod ks _ => some (p.1, ks)
  | _ => none
def clsFB (K : PySem.W.Frag) (c : Str) : Bool := (He.Fa.cls c).ok K && (He.eqO (PySem.W.findIn K (.ref (He.ga K c)) "__class__") (some (some (.builtin "object.__class__"))) && (He.eqO (PySem.W.specialIn K (.builtin "object.__class__") "__get__") (some (some (.builtin "getset_descriptor.__get__"))) &&
  (decide (PySem.W.takesIn K (.builtin "object.__class__") = some true) && decide (PySem.W.mroIn K (He.ga K c) (.type "object") = some true))))
theorem clsFB_ok {K : PySem.W.Frag} {c : Str} (h : clsFB K c = true) : ClsF K (He.ga K c) := by
  unfold clsFB at h
  obtain ⟨h1, h⟩ := He.ba h
  obtain ⟨h2, h⟩ := He.ba h
  obtain ⟨h3, h⟩ := He.ba h
  obtain ⟨h4, h5⟩ := He.ba h
  exact ⟨He.cls_ok h1, He.eqO_ok h2, He.eqO_ok h3, of_decide_eq_true h4, of_decide_eq_true h5⟩
theorem ns_none {P : Params} {K : PySem.W.Frag} {a : Addr} {ks : List Str} {z : Str} (h : He.dicW K a = some (He.keysIn P ks)) (hz : z ∉ ks) : PySem.W.nsIn K a z = some none := by
  unfold He.dicW at h
  unfold PySem.W.nsIn
  split at h
  · rename_i c es n sl e
    rw [e]
    dsimp only
    split at h
    · have h := Option.some.inj h
      have key : ∀ {l : List DictEntry} {ks : List Str}, l.map He.keyOf = He.keysIn P ks → z ∉ ks → l.find? (·.key.isStr z) = none ∧ (l.any (·.refKey)) = false := by
        intro l
        induction l with
        | nil => intro ks _ _; exact ⟨rfl, rfl⟩
        | cons d r ih =>
          intro ks h hz
          cases ks with
          | nil => cases h
          | cons k ks =>
            have h1 : He.keyOf d :: r.map He.keyOf = some (k, PyData.keyHash P k) :: He.keysIn P ks := h
            injection h1 with h2 h3
            obtain ⟨i1, i2⟩ := ih h3 (fun hm => hz (List.mem_cons_of_mem _ hm))
            unfold He.keyOf at h2
            split at h2
            · rename_i x t q
              have h4 := Option.some.inj h2
              obtain ⟨h5, h6⟩ := Prod.mk.inj h4
              subst h5
              have hne : x ≠ z := fun e => hz (by rw [e]; exact List.mem_cons_self ..)
              refine ⟨?_, ?_⟩
              · rw [List.find?_cons, i1, q]
                have : (Value.str x t).isStr z = false := by
                  cases e : (Value.str x t).isStr z with
                  | false => rfl
                  | true => exact absurd (by simpa [Value.isStr] using e) hne
                rw [this]
              · rw [List.any_cons, i2, Bool.or_false]
                unfold DictEntry.refKey
                rw [q]
            · cases h2
      obtain ⟨k1, k2⟩ := key h hz
      rw [k1]
      dsimp only
      rw [k2]
      rfl
    · cases h
  · cases h
def sysB (K : PySem.W.Frag) : Bool := match K.lookup sysModules with
  | some o => !(o.cls == .type "list")
  | none => false
/-! ### the Hook -/
/-- what is asked of the program's top -/
structure Cf where
  is : List Info
  glo : List (Str × D)
  mks : List Str
  flds : List (Str × Str)
  fcs : List Fc
abbrev AlI : Type := Bool × List He.FnW × List (Option (List (Option (Str × Int))))
def infB (K : PySem.W.Frag) (i : Info) : Bool := i.d.ok K && match i.d.at_.2 with
  | none => (He.Fa.glo i.d.name).ok K
  | some m => (He.Fa.meth i.d.at_.1 m).ok K
def mkB (K : PySem.W.Frag) (c : Str) : Bool := (He.Fa.glo c).ok K && ((He.Fa.mkr c).ok K && clsFB K c)
def obsI (cf : Cf) (K : PySem.W.Frag) : AlI :=
  ((cf.is.all fun i => infB K i) && (bltNames.all fun x => (He.Fa.free x).ok K) && (cf.glo.all fun p => gloB K p) && (cf.mks.all fun c => mkB K c) && (cf.flds.all fun p => (He.Fa.noat p.1 p.2).ok K) && (cf.fcs.all fun f => fcB K f) && sysB K, cf.is.map fun i => He.fnW K i.d.at_, (rodsOf cf.glo).map fun t => He.dicW K (He.ga K t.1))
def valI (cf : Cf) (w : World) : AlI := (true, cf.is.map fun i => i.d.val, (rodsOf cf.glo).map fun t => some (He.keysIn w.params t.2))
def obsIG (n : Nat) (cf : Cf) (g : Addr → Option Obj) : AlI := obsI cf (He.frG g (sysModules :: He.asD g n))
def hookI (n : Nat) (cf : Cf) : PySem.W.Hook where
  α := AlI
  obs := fun s => obsIG n cf s.heap.get?
  val := fun w => valI cf w
  says := fun w h => ∃ K : PySem.W.Frag, K.In h ∧ obsI cf K = valI cf w
  of := fun _ _ e => ⟨_, He.frG_in, e⟩
  keeps := fun _ _ _ ⟨K, hK, c⟩ k => ⟨K, PySem.W.Frag.In.keeps hK k, c⟩
theorem obsIG_eq {n : Nat} {cf : Cf} {g : Addr → Option Obj} {s : Shared} (h : ∀ a, g a = s.heap.get? a) : obsIG n cf g = (hookI n cf).obs s := by
  have e : g = s.heap.get? := funext h
  rw [e] <;> rfl
def obI (n : Nat) (cf : Cf) (s : PySem.W.SharedT) : AlI := obsIG n cf (HandSHeadRun.getT s)
theorem obI_eq {n : Nat} {cf : Cf} (s : PySem.W.SharedT) : obI n cf s = (hookI n cf).obs s.abs := obsIG_eq (HandSHeadRun.getT_eq s)
def fnsOf : List Info → List (Str × Nat × List Shp)
  | [] => []
  | i :: r => match i.d.at_.2 with
    | none => (i.d.name, i.num, i.shs) :: fnsOf r
    | some _ => fnsOf r
def mesOf : List Info → List ((Str × Str) × Nat × List Shp)
  | [] => []
  | i :: r => match i.d.at_.2 with
    | none => mesOf r
    | some m => ((i.d.at_.1, m), i.num, i.shs) :: mesOf r
theorem fnsOf_get {x : Str} {j : Nat} {shs : List Shp} : ∀ {is : List Info}, (fnsOf is).lookup x = some (j, shs) → ∃ i ∈ is, j = i.num ∧ i.d.name = x ∧ i.shs = shs ∧ i.d.at_.2 = none
  | [], h => by cases h
  | i :: r, h => by
    have later : (fnsOf r).lookup x = some (j, shs) → ∃ i' ∈ i :: r, j = i'.num ∧ i'.d.name = x ∧ i'.shs = shs ∧ i'.d.at_.2 = none := fun h => by
      obtain ⟨i', h1, h2⟩ := fnsOf_get h
      exact ⟨i', List.mem_cons_of_mem _ h1, h2⟩
    unfold fnsOf at h
    split at h
    · rename_i hat
      rw [List.lookup_cons] at h
      split at h
      · rename_i e
        cases h
        exact ⟨i, List.mem_cons_self, rfl, (by simpa using e : x = i.d.name).symm, rfl, hat⟩
      · exact later h
    · exact later h
theorem mesOf_get {x : Str × Str} {j : Nat} {shs : List Shp} : ∀ {is : List Info}, (mesOf is).lookup x = some (j, shs) → ∃ i ∈ is, j = i.num ∧ i.d.at_ = (x.1, some x.2) ∧ i.shs = shs
  | [], h => by cases h
  | i :: r, h => by
    have later : (mesOf r).lookup x = some (j, shs) → ∃ i' ∈ i :: r, j = i'.num ∧ i'.d.at_ = (x.1, some x.2) ∧ i'.shs = shs := fun h => by
      obtain ⟨i', h1, h2⟩ := mesOf_get h
      exact ⟨i', List.mem_cons_of_mem _ h1, h2⟩
    unfold mesOf at h
    split at h
    · exact later h
    · rename_i mm hat
      rw [List.lookup_cons] at h
      split at h
      · rename_i e
        cases h
        refine ⟨i, List.mem_cons_self, rfl, ?_, rfl⟩
        have e : x = (i.d.at_.1, mm) := by simpa using e
        rw [e, ← hat]
      · exact later h
structure Parts (cf : Cf) (w : World) (K : PySem.W.Frag) : Prop where
  is : ∀ i ∈ cf.is, infB K i = true ∧ He.fnW K i.d.at_ = i.d.val
  blt : ∀ x ∈ bltNames, (He.Fa.free x).ok K = true
  glo : ∀ p ∈ cf.glo, gloB K p = true
  mks : ∀ c ∈ cf.mks, mkB K c = true
  flds : ∀ p ∈ cf.flds, (He.Fa.noat p.1 p.2).ok K = true
  fcs : ∀ f ∈ cf.fcs, fcB K f = true
  sys : sysB K = true
  rods : ∀ t ∈ rodsOf cf.glo, He.dicW K (He.ga K t.1) = some (He.keysIn w.params t.2)
theorem obsI_parts {cf : Cf} {w : World} {K : PySem.W.Frag} (c : obsI cf K = valI cf w) : Parts cf w K := by
  have c1 : ((cf.is.all fun i => infB K i) && (bltNames.all fun x => (He.Fa.free x).ok K) && (cf.glo.all fun p => gloB K p) && (cf.mks.all fun c => mkB K c) && (cf.flds.all fun p => (He.Fa.noat p.1 p.2).ok K) && (cf.fcs.all fun f => fcB K f) && sysB K) = true := congrArg (fun z : AlI => z.1) c
  have c2 : (cf.is.map fun i => He.fnW K i.d.at_) = cf.is.map fun i => i.d.val := congrArg (fun z : AlI => z.2.1) c
  have c3 : ((rodsOf cf.glo).map fun t => He.dicW K (He.ga K t.1)) = (rodsOf cf.glo).map fun t => some (He.keysIn w.params t.2) := congrArg (fun z : AlI => z.2.2) c
  simp only [Bool.and_eq_true, List.all_eq_true] at c1
  obtain ⟨⟨⟨⟨⟨⟨h1, h2⟩, h3⟩, h4⟩, h5⟩, h5'⟩, h6⟩ := c1
  exact ⟨fun i hi => ⟨h1 i hi, (List.map_inj_left.mp c2) i hi⟩, h2, h3, h4, h5, h5', h6, List.map_inj_left.mp c3⟩
theorem rod_at {w : World} {K : PySem.W.Frag} {a : Addr} {ks : List Str} {vs : List D} (h : He.dicW K a = some (He.keysIn w.params ks)) : ∀ {ls : List Str} {ds : List D} (P : Program), ls.length = ds.length → ls.Nodup →
    ((ls.zip ds).all fun q => match PySem.W.nsIn K a q.1 with
      | some (some u) => dvB K q.2 u
      | _ => false) = true →
    ∃ us : List V, ls.length = us.length ∧ (∀ W, Reps P w K W ds us) ∧ ∀ z ∈ ls, ∃ u q, lookV ls us z = some u ∧ PySem.W.nsIn K a z = some (some q) ∧ RelV u q
  | [], ds, P, l, _, _ => by
    cases ds with
    | cons _ _ => cases l
    | nil => exact ⟨[], rfl, fun W => Reps.nil, fun z hz => nomatch hz⟩
  | x :: ls, ds, P, l, nd, hc => by
    cases ds with
    | nil => cases l
    | cons d ds =>
      rw [List.zip_cons_cons, List.all_cons, Bool.and_eq_true] at hc
      obtain ⟨hc1, hc2⟩ := hc
      rw [List.nodup_cons] at nd
      obtain ⟨us, i1, i2, i3⟩ := rod_at (vs := vs) h P (by simpa using l) nd.2 hc2
      split at hc1
      · rename_i u e
        obtain ⟨v, r1, r2⟩ := dvB_ok (P := P) (w := w) hc1
        refine ⟨v :: us, congrArg (· + 1) i1, fun W => Reps.cons (r2 W) (i2 W), fun z hz => ?_⟩
        by_cases ez : x = z
        · subst ez
          exact ⟨v, u, by simp [lookV], e, r1⟩
        · rcases List.mem_cons.mp hz with rfl | hz
          · exact absurd rfl ez
          · obtain ⟨u', q, g1, g2, g3⟩ := i3 z hz
            refine ⟨u', q, ?_, g2, g3⟩
            have : decide (x = z) = false := decide_eq_false ez
            unfold lookV at g1 ⊢
            rw [List.zip_cons_cons, List.find?_cons]
            dsimp only
            rw [this]
            exact g1
      · cases hc1
theorem lookV_none {ks : List Str} {vs : List V} {z : Str} (h : z ∉ ks) : lookV ks vs z = none := by
  unfold lookV
  rw [Option.map_eq_none_iff, List.find?_eq_none]
  intro p hp
  simp only [decide_eq_true_eq]
  exact fun e => h (e ▸ (List.of_mem_zip hp).1)
theorem lib_of {P : Program} {w : World} {K : PySem.W.Frag} {h : Heap} {mg : Str → Option Value} {base : Heap} {cf : Cf} {pr : List Fd} {g : Sg} {fuel : Nat} (X : K.In h) (G : h.Ns mainGlobals mg) (c : obsI cf K = valI cf w)
    (hg : g.fns = fnsOf cf.is) (hgm : g.mes = mesOf cf.is) (hgk : g.mks = cf.mks) (hgf : g.flds = cf.flds) (hgc : g.fcs = cf.fcs) (hglo : g.glo = cf.glo) (hpr : ∀ i ∈ cf.is, pr[i.num]? = some i.b) (hi : ∀ i ∈ cf.is, infoC g fuel i = true) (hs : ∀ i ∈ cf.is, ShsOk i) (hK : K.In base) : Lib P w K mg base g pr := by
  have p := obsI_parts c
  refine ⟨fun x j shs hx => ?_, fun cn m j shs hx => ?_, fun cn hc => ?_, fun cn x hc => ?_, fun f hf => ?_, fun x d hx => ?_, fun x hx => He.free_ok X G (p.blt x hx), ?_⟩
  · rw [hg] at hx
    obtain ⟨i, hm, e1, e3, e4, e5⟩ := fnsOf_get hx
    obtain ⟨g1, g3⟩ := p.is i hm
    unfold infB at g1
    rw [e5] at g1
    obtain ⟨g2, g1⟩ := He.ba g1
    have g1 : (He.Fa.glo i.d.name).ok K = true := g1
    obtain ⟨fd, F⟩ := He.DefD.funD g3 g2
    have hI := hi i hm
    unfold infoC at hI
    simp only [Bool.and_eq_true, decide_eq_true_eq, List.all_eq_true] at hI
    obtain ⟨⟨⟨⟨⟨i1, i2⟩, i3⟩, i4⟩, i5⟩, i6⟩ := hI
    rw [e5] at i6
    have i6 : i.d.at_ = (i.d.name, none) := of_decide_eq_true i6
    refine ⟨He.fAd K i.d.at_, fd, psOf i.d, i.N, i.b, ?_, F.kp, ?_, ⟨?_, i3, i4⟩, fun sh hsh => ⟨i5 sh (by rw [e4]; exact hsh), hs i hm P w K _ fd F sh (by rw [e4]; exact hsh)⟩⟩
    · rw [i6, ← e3]
      exact He.glo_ok X G g1
    · rw [e1]; exact hpr i hm
    · obtain ⟨oc, od, dV, kV, doc, pm, an, cdv, ct, osl, rfl, lk, hcd, _, _⟩ := F.ex
      exact ⟨fuel, _, _, _, _, _, _, _, _, _, _, _, _, _, _, _, rfl, lk, hcd, scopeC_ok i2, i1⟩
  · rw [hgm] at hx
    obtain ⟨i, hm, e1, e3, e4⟩ := mesOf_get hx
    have e3 : i.d.at_ = (cn, some m) := e3
    obtain ⟨g1, g3⟩ := p.is i hm
    unfold infB at g1
    rw [e3] at g1
    obtain ⟨g2, g1⟩ := He.ba g1
    have g1 : (He.Fa.meth cn m).ok K = true := g1
    obtain ⟨fd, F⟩ := He.DefD.funD g3 g2
    have hI := hi i hm
    unfold infoC at hI
    simp only [Bool.and_eq_true, decide_eq_true_eq, List.all_eq_true] at hI
    obtain ⟨⟨⟨⟨⟨i1, i2⟩, i3⟩, i4⟩, i5⟩, i6⟩ := hI
    refine ⟨He.fAd K i.d.at_, fd, psOf i.d, i.N, i.b, ?_, ?_, ⟨?_, i3, i4⟩, fun sh hsh => ⟨i5 sh (by rw [e4]; exact hsh), hs i hm P w K _ fd F sh (by rw [e4]; exact hsh)⟩⟩
    · rw [e3]
      exact He.meth_ok g1
    · rw [e1]; exact hpr i hm
    · obtain ⟨oc, od, dV, kV, doc, pm, an, cdv, ct, osl, rfl, lk, hcd, _, _⟩ := F.ex
      exact ⟨fuel, _, _, _, _, _, _, _, _, _, _, _, _, _, _, _, rfl, lk, hcd, scopeC_ok i2, i1⟩
  · rw [hgk] at hc
    have h1 := p.mks cn (by simpa using hc)
    unfold mkB at h1
    obtain ⟨h1, h2⟩ := He.ba h1
    obtain ⟨h2, h3⟩ := He.ba h2
    exact ⟨clsFB_ok h3, He.glo_ok X G h1, _, He.mkr_ok h2⟩
  · rw [hgf] at hc
    exact He.noat_ok (p.flds (cn, x) (by simpa using hc))
  · rw [hgc] at hf
    exact p.fcs f (by simpa using hf)
  · rw [hglo] at hx
    have hm : (x, d) ∈ cf.glo := PySem.mem_of_lookup hx
    have hb := p.glo _ hm
    have simple : (match PySem.W.nsIn K mainGlobals x with
        | some (some u) => dvB K d u
        | _ => false) = true → ∃ v u, mg x = some u ∧ RelV v u ∧ ∀ W, Rep P w K W d v := fun hb => by
      split at hb
      · rename_i u e
        obtain ⟨v, r1, r2⟩ := dvB_ok (P := P) (w := w) hb
        exact ⟨v, u, PySem.W.mg_of X G e, r1, r2⟩
      · cases hb
    cases d with
    | gv y =>
      have hb : (decide (x = y) && (He.Fa.glo x).ok K) = true := hb
      obtain ⟨h1, h2⟩ := He.ba hb
      obtain rfl := of_decide_eq_true h1
      exact ⟨.ref (He.ga K x), _, He.glo_ok X G h2, rfl, fun W => by simp only [Rep]⟩
    | rod ks vs =>
      have hb : ((He.Fa.glo x).ok K && decide ks.Nodup && decide (ks.length = vs.length) && (ks.zip vs).all fun q => match PySem.W.nsIn K (He.ga K x) q.1 with
        | some (some u) => dvB K q.2 u
        | _ => false) = true := hb
      obtain ⟨h1, h4⟩ := He.ba hb
      obtain ⟨h1, h3⟩ := He.ba h1
      obtain ⟨h1, h2⟩ := He.ba h1
      have hd := p.rods (x, ks) (by
        unfold rodsOf
        rw [List.mem_filterMap]
        exact ⟨_, hm, rfl⟩)
      obtain ⟨us, r1, r2, r3⟩ := rod_at (vs := vs) hd P (of_decide_eq_true h3) (of_decide_eq_true h2) h4
      refine ⟨.ref (He.ga K x), _, He.glo_ok X G h1, rfl, fun W => ?_⟩
      simp only [Rep]
      refine ⟨He.ga K x, us, rfl, ⟨He.dicW_ok hd, fun z => ?_⟩, r1, r2 W⟩
      by_cases hz : z ∈ ks
      · obtain ⟨u, q, g1, g2, g3⟩ := r3 z hz
        exact ⟨some q, g2, by rw [g1]; exact g3⟩
      · exact ⟨none, ns_none hd hz, by rw [lookV_none hz]; trivial⟩
    | _ => exact simple hb
  · have c4 := p.sys
    unfold sysB at c4
    split at c4
    · rename_i o ho
      refine ⟨o, hK _ _ ho, fun e => ?_⟩
      rw [e] at c4
      revert c4
      decide +kernel
    · cases c4
/-- THE END: the evaluator says True at every script -/
theorem sp_law {P : Program} {w : World} {K : PySem.W.Frag} {ea : Exa} {pr : List Fd} {k j : Nat} {H : Hp} {a : Addr} {ns : List Int} (hO : Only H) (hS : SqL K H a (ns.map V.int)) (h : ∃ σ, callK pr k j [.ro (ns.map D.int)] [] = .ok (.bl true) σ) :
    spC P w K ea (callK pr k) 1 j [.ref a] H (fun v _ => v = .bl true) (fun _ _ _ => False) := by
  obtain ⟨σ, e⟩ := h
  refine ⟨rfl, ⟨0, fun _ => 0, H, []⟩, [], [.ro (ns.map D.int)], ⟨fun _ _ h => h, rfl, (by intro n c e; cases e), (by intro n c e; cases e), (by intro n m c c' e; cases e), (by intro a o e; cases e), List.nodup_nil⟩, Reps.one ?_, ?_⟩
  · simp only [Rep]
    refine ⟨a, _, rfl, hS, ?_⟩
    clear e hS
    induction ns with
    | nil => exact Reps.nil
    | cons n ns ih => exact Reps.cons (by simp only [Rep]) ih
  · rw [e]
    intro W' v H' le r rd
    simpa only [Rep] using rd
/-- a way of calling that asks no default -/
theorem shp_of {P : Program} {w : World} {K : PySem.W.Frag} {x qual : Str} {params : Arguments} {body : List Stmt} {scope : Scope} {f : Addr} {fd : FuncData} {ps : List Str} {np : Nat} {ks : List Str} {pm : List Nat} (F : FunD K x qual params body scope [] [] f fd)
    (h : ∀ (kV doc pmm : Value) (an : Option Addr) (cdv ct : Value) (us ws : List Value), us.length = np → ws.length = ks.length → ∃ vs, permL (us ++ ws ++ []) pm = some vs ∧ bindArgs (PySem.W.fnOf x qual params body scope .none kV doc pmm an cdv ct) ⟨us, ks.zip ws⟩ = pure (ps.zip vs)) : ShOk P w K fd ps ⟨np, ks, [], pm⟩ := by
  obtain ⟨oc, od, dV, kV, doc, pmm, an, cdv, ct, osl, rfl, lk, hcd, hD, hK⟩ := F.ex
  refine ⟨[], [], .nil, fun W => Reps.nil, fun s us ws _ h1 h2 => ?_⟩
  rcases hD with ⟨_, rfl⟩ | ⟨e, _⟩
  · obtain ⟨vs, e1, e2⟩ := h kV doc pmm an cdv ct us ws h1 h2
    exact ⟨vs, e1, .of_eq e2⟩
  · exact absurd rfl e
/-- all that the head asks of a law -/
theorem law_facts {P : Program} {w : World} {K : PySem.W.Frag} {h : Heap} {mg : Str → Option Value} {f : Addr} {cf : Cf} {pr : List Fd} {g : Sg} {fuel k n : Nat} {i : Info} {x y : Str} (X : K.In h) (G : h.Ns mainGlobals mg) (c : obsI cf K = valI cf w)
    (hg : g.fns = fnsOf cf.is) (hgm : g.mes = mesOf cf.is) (hgk : g.mks = cf.mks) (hgf : g.flds = cf.flds) (hgc : g.fcs = cf.fcs) (hglo : g.glo = cf.glo) (hpr : ∀ i ∈ cf.is, pr[i.num]? = some i.b) (hi : ∀ i ∈ cf.is, infoC g fuel i = true) (hs : ∀ i ∈ cf.is, ShsOk i) (hm : i ∈ cf.is) (hat : i.d.at_ = (y, none)) (hp : psOf i.d = [x]) (hb1 : i.b.np = 1) (hsh : (⟨1, [], [], [0]⟩ : Shp) ∈ i.shs) (hfa : mg y = some (.ref f))
    (plain : ∀ ns : List Int, ns.length ≤ n → ∃ σ, callK pr (k + 1) i.num [.ro (ns.map D.int)] [] = .ok (.bl true) σ) :
    ∃ (fd : FuncData) (sp : Sp), (∀ (s : Shared) (u : Value), K.In s.heap → BindsTo s fd ⟨[u], []⟩ [(x, u)]) ∧
      (∀ (H : Hp) (a : Addr) (ns : List Int), ns.length ≤ n → Only H → SqL K H a (ns.map V.int) → sp [.ref a] H (fun v _ => v = .bl true) fun _ _ _ => False) ∧
      ∀ base : Heap, K.In base → FnG P w K mg base (k + 1) f fd [x] sp := by
  have p := obsI_parts c
  obtain ⟨g1, g3⟩ := p.is i hm
  unfold infB at g1
  rw [hat] at g1
  obtain ⟨g2, g1⟩ := He.ba g1
  have g1 : (He.Fa.glo i.d.name).ok K = true := g1
  obtain ⟨fd, F⟩ := He.DefD.funD g3 g2
  have hI := hi i hm
  unfold infoC at hI
  simp only [Bool.and_eq_true, decide_eq_true_eq, List.all_eq_true] at hI
  obtain ⟨⟨⟨⟨⟨i1, i2⟩, i3⟩, i4⟩, i5⟩, i6⟩ := hI
  rw [hat] at i6
  have i6 : (y, (none : Option Str)) = (i.d.name, none) := of_decide_eq_true i6
  have hn : y = i.d.name := congrArg Prod.fst i6
  have e1 : mg y = some (.ref (He.fAd K i.d.at_)) := by
    rw [hat]
    show mg y = some (.ref (He.ga K y))
    rw [hn]
    exact He.glo_ok X G g1
  rw [hfa] at e1
  cases e1
  refine ⟨fd, spC P w K ⟨fun _ => none, fun _ => none⟩ (callK pr (k + 1)) 1 i.num, ?_, fun H a ns hl hO hS => sp_law hO hS (plain ns hl), fun base hKb => ?_⟩
  · intro s u hKs
    obtain ⟨dv, du, hd, hr, hb⟩ := (hs i hm P w K _ fd F _ hsh).ok
    obtain rfl := Reps.nil_iff.mp (hr ⟨0, fun _ => 0, fun _ => none, []⟩)
    cases hd
    obtain ⟨vs, e1, e2⟩ := hb s [u] [] hKs rfl rfl
    cases e1
    rw [hp] at e2
    exact e2
  · have L : Lib P w K mg base g pr := lib_of X G c hg hgm hgk hgf hgc hglo hpr hi hs hKb
    have hF := fn_all (ea := ⟨fun _ => none, fun _ => none⟩) (i := i.num) (b := i.b) L (hpr i hm) (f := He.fAd K i.d.at_) (fd := fd) (ps := psOf i.d) (N := i.N) ⟨(by
      obtain ⟨oc, od, dV, kV, doc, pm, an, cdv, ct, osl, rfl, lk, hcd, _, _⟩ := F.ex
      exact ⟨fuel, _, _, _, _, _, _, _, _, _, _, _, _, _, _, _, rfl, lk, hcd, scopeC_ok i2, i1⟩), i3, i4⟩ k
    rw [hp, hb1] at hF
    exact hF
end Iv

set_option Elab.async false
set_option linter.all false
set_option maxRecDepth 100000
namespace K05
open PySem Iv
def b_is_short : Fd := ⟨1, 1, [.ret (.and (.isi (.loc 0) [.str]) (.chain .le .le (.int 1) (.bi .len false (.loc 0)) (.glo "" (.int 8))))]⟩
def b_is_word : Fd := ⟨1, 2, [.ret (.and (.call 0 [.loc 0] [] [] [0]) (.bi .all false (.comp false [1] (.nm 1) .on [.loc 0] (.bl true) (.cmp .isin (.loc 1) (.glo "" (.str "abcdefghijklmnopqrstuvwxyz"))))))]⟩
def b_law_deck : Fd := ⟨1, 4, [.par 2 3 (.bi .list false (.slice false (.loc 0) .nop (.int 63))) (.int 1085705), .for (.nm 1) .on [.loc 2] [.asg (.nm 3) (.bin .mod (.bi .int false (.bin .add (.bin .add (.bin .mul (.loc 3) (.int 48271)) (.bin .mod (.bi .int false (.loc 1)) (.int 2147483629))) (.int 40))) (.int 2147483587))], .ret (.dic true [.str "cells", .rev true (.loc 2), .str "mixed", .loc 3, .str "draws", .int 0])]⟩
def b_law_draw : Fd := ⟨2, 5, [.put (.loc 0) (.str "draws") (.bin .add (.idx (.loc 0) (.str "draws")) (.int 1)), .par 3 4 (.idx (.loc 0) (.str "draws")) (.idx (.loc 0) (.str "mixed")), .ite (.cmp .ne (.idx (.loc 0) (.str "cells")) (.lst false [])) [.asg (.nm 4) (.me .pop (.idx (.loc 0) (.str "cells")) []), .ite (.cmp .ge (.loc 4) (.bin .pow (.int 10) (.int 18))) [.exp (.me .append (.idx (.loc 0) (.str "cells")) [.bin .fdiv (.loc 4) (.loc 1)]), .ret (.bin .mod (.bi .int false (.loc 4)) (.loc 1))] [], .asg (.nm 4) (.bin .add (.bi .int false (.loc 4)) (.idx (.loc 0) (.str "mixed")))] [], .asg (.nm 2) (.bin .mod (.bin .mul (.bi .int false (.bin .add (.bin .add (.bin .mod (.bi .int false (.loc 4)) (.int 2147483629)) (.bin .mul (.bin .mul (.int 60710) (.loc 3)) (.loc 3))) (.int 58))) (.int 40692)) (.int 2147483647)), .asg (.nm 2) (.bin .mod (.bi .int false (.bin .add (.bin .add (.bin .mul (.loc 2) (.loc 2)) (.bin .mul (.int 69621) (.loc 3))) (.int 66))) (.int 2147483579)), .ret (.bin .mod (.bin .fdiv (.bin .mod (.bi .int false (.bin .mul (.loc 2) (.int 39373))) (.int 2147483563)) (.int 64)) (.loc 1))]⟩
def b_law_pick : Fd := ⟨2, 2, [.ret (.idx (.loc 1) (.call 13 [.loc 0, .bi .len false (.loc 1)] [] [] [0, 1]))]⟩
def b_law_need : Fd := ⟨3, 6, [.par 4 5 (.call 13 [.loc 0, .int 3] [] [] [0, 1]) (.call 13 [.loc 0, .loc 2] [] [] [0, 1]), .ite (.or (.cmp .eq (.loc 4) (.int 0)) (.cmp .eq (.loc 1) (.lst false []))) [.ret (.tup [.str "part", .loc 5])] [], .asg (.nm 3) (.call 14 [.loc 0, .loc 1] [] [] [0, 1]), .ret (.ite (.cmp .eq (.loc 4) (.int 1)) (.tup [.str "around", .loc 3, .loc 5]) (.tup [.str "inside", .loc 5, .loc 3]))]⟩
def b_law_kit : Fd := ⟨1, 9, [.par 2 4 (.lst true []) (.lst true []), .for (.nm 1) .on [.lst false [.str "box", .str "half", .str "lock", .str "mark", .str "pair", .str "q", .str "seal", .str "zzzzzzzz"]] [.ite (.cmp .eq (.call 13 [.loc 0, .int 2] [] [] [0, 1]) (.int 0)) [.exp (.me .append (.loc 2) [.tup [.loc 1, .bin .add (.int 1) (.call 13 [.loc 0, .int 3] [] [] [0, 1])]])] []], .frz 2, .asg (.nm 2) (.ite (.cmp .ne (.loc 2) (.lst false [])) (.loc 2) (.lst false [.tup [.str "half", .int 1]])), .asg (.nm 3) (.comp false [1, 6] (.tup [1, 6]) .on [.loc 2] (.cmp .eq (.loc 6) (.int 1)) (.loc 1)), .for (.nm 1) .on [.lst false [.str "ahead", .str "first", .str "look", .str "open", .str "second", .str "undo"]] [.ite (.cmp .eq (.call 13 [.loc 0, .int 2] [] [] [0, 1]) (.int 0)) [.asg (.tup [7, 6]) (.call 14 [.loc 0, .loc 2] [] [] [0, 1]), .asg (.nm 5) (.bi .tuple false (.comp false [8] (.nm 8) .rng [.call 13 [.loc 0, .int 3] [] [] [0, 1]] (.bl true) (.call 15 [.loc 0, .loc 3, .loc 6] [] [] [0, 1, 2]))), .exp (.me .append (.loc 4) [.tup [.loc 1, .loc 7, .call 13 [.loc 0, .loc 6] [] [] [0, 1], .loc 5]])] []], .frz 4, .ret (.tup [.bi .tuple false (.loc 2), .bi .tuple false (.loc 4)])]⟩
def b_law_thing : Fd := ⟨5, 13, [.asg (.nm 5) (.comp false [12] (.nm 12) .on [.loc 1] (.and (.cmp .lt (.idx (.loc 12) (.int 1)) (.loc 3)) (.cmp .gt (.loc 4) (.int 0))) (.loc 12)), .ite (.or (.cmp .eq (.loc 5) (.lst false [])) (.cmp .eq (.call 13 [.loc 0, .int 4] [] [] [0, 1]) (.int 0))) [.ret (.call 14 [.loc 0, .loc 2] [] [] [0, 1])] [], .asg (.tup [7, 8]) (.call 14 [.loc 0, .loc 5] [] [] [0, 1]), .par 9 10 (.tup [.loc 7]) (.bin .sub (.loc 3) (.int 1)), .for (.nm 6) .rng [.loc 8] [.asg (.nm 11) (.bin .add (.int 1) (.call 13 [.loc 0, .bin .sub (.loc 10) (.bin .sub (.bin .sub (.loc 8) (.loc 6)) (.int 1))] [] [] [0, 1])), .par 9 10 (.bin .add (.loc 9) (.tup [.call 17 [.loc 0, .loc 1, .loc 2, .loc 11, .bin .sub (.loc 4) (.int 1)] [] [] [0, 1, 2, 3, 4]])) (.bin .sub (.loc 10) (.loc 11))], .ret (.loc 9)]⟩
def b_is_integer : Fd := ⟨1, 1, [.ret (.and (.isi (.loc 0) [.int]) (.not (.isi (.loc 0) [.bool])))]⟩
def b_are_ascending : Fd := ⟨1, 3, [.ret (.bi .all false (.comp false [1, 2] (.tup [1, 2]) .zip [.loc 0, .slice false (.loc 0) (.int 1) .nop] (.bl true) (.cmp .lt (.loc 1) (.loc 2))))]⟩
def b_is_kind : Fd := ⟨1, 1, [.ite (.or (.not (.isi (.loc 0) [.tup])) (.or (.cmp .ne (.bi .len false (.loc 0)) (.glo "" (.int 2))) (.not (.call 1 [.idx (.loc 0) (.int 0)] [] [] [0])))) [.ret (.bl false)] [], .ret (.and (.call 46 [.idx (.loc 0) (.int 1)] [] [] [0]) (.chain .le .le (.int 1) (.idx (.loc 0) (.int 1)) (.glo "" (.int 3))))]⟩
def b_are_kinds : Fd := ⟨1, 4, [.ite (.or (.not (.isi (.loc 0) [.tup])) (.or (.cmp .eq (.loc 0) (.tup [])) (.not (.bi .all false (.comp false [3] (.nm 3) .on [.loc 0] (.bl true) (.call 48 [.loc 3] [] [] [0])))))) [.ret (.bl false)] [], .ret (.call 47 [.comp false [1, 2] (.tup [1, 2]) .on [.loc 0] (.bl true) (.loc 1)] [] [] [0])]⟩
def b_is_place : Fd := ⟨2, 2, [.ret (.and (.call 46 [.loc 1] [] [] [0]) (.chain .le .lt (.int 0) (.loc 1) (.loc 0)))]⟩
def b_is_single : Fd := ⟨2, 2, [.ret (.and (.call 1 [.loc 1] [] [] [0]) (.cmp .eq (.me .get (.loc 0) [.loc 1]) (.int 1)))]⟩
def b_is_need : Fd := ⟨3, 3, [.ite (.or (.not (.isi (.loc 2) [.tup])) (.or (.cmp .eq (.loc 2) (.tup [])) (.not (.isi (.idx (.loc 2) (.int 0)) [.str])))) [.ret (.bl false)] [], .ite (.cmp .ne (.me .get (.glo "" (.rod ["part", "around", "inside"] [.int 2, .int 3, .int 3])) [.idx (.loc 2) (.int 0)]) (.bi .len false (.loc 2))) [.ret (.bl false)] [], .ite (.cmp .eq (.idx (.loc 2) (.int 0)) (.glo "" (.str "part"))) [.ret (.call 50 [.loc 1, .idx (.loc 2) (.int 1)] [] [] [0, 1])] [], .ite (.cmp .eq (.idx (.loc 2) (.int 0)) (.glo "" (.str "around"))) [.ret (.and (.call 51 [.loc 0, .idx (.loc 2) (.int 1)] [] [] [0, 1]) (.call 50 [.loc 1, .idx (.loc 2) (.int 2)] [] [] [0, 1]))] [], .ret (.and (.call 50 [.loc 1, .idx (.loc 2) (.int 1)] [] [] [0, 1]) (.call 51 [.loc 0, .idx (.loc 2) (.int 2)] [] [] [0, 1]))]⟩
def b_is_opening : Fd := ⟨2, 8, [.ite (.or (.not (.isi (.loc 1) [.tup])) (.cmp .ne (.bi .len false (.loc 1)) (.glo "" (.int 4)))) [.ret (.bl false)] [], .asg (.tup [3, 4, 5, 6]) (.loc 1), .ite (.or (.not (.call 1 [.loc 3] [] [] [0])) (.or (.cmp .isin (.loc 3) (.loc 0)) (.or (.not (.call 1 [.loc 4] [] [] [0])) (.cmp .notin (.loc 4) (.loc 0))))) [.ret (.bl false)] [], .asg (.nm 2) (.idx (.loc 0) (.loc 4)), .ite (.or (.not (.call 50 [.loc 2, .loc 5] [] [] [0, 1])) (.or (.not (.isi (.loc 6) [.tup])) (.cmp .gt (.bi .len false (.loc 6)) (.glo "" (.int 2))))) [.ret (.bl false)] [], .ret (.bi .all false (.comp false [7] (.nm 7) .on [.loc 6] (.bl true) (.call 52 [.loc 0, .loc 2, .loc 7] [] [] [0, 1, 2])))]⟩
def b_are_openings : Fd := ⟨2, 3, [.ite (.or (.not (.isi (.loc 1) [.tup])) (.not (.bi .all false (.comp false [2] (.nm 2) .on [.loc 1] (.bl true) (.call 53 [.loc 0, .loc 2] [] [] [0, 1]))))) [.ret (.bl false)] [], .ret (.call 47 [.comp false [2] (.nm 2) .on [.loc 1] (.bl true) (.idx (.loc 2) (.int 0))] [] [] [0])]⟩
def b_needed_by : Fd := ⟨2, 3, [.ite (.cmp .eq (.idx (.loc 0) (.int 0)) (.glo "" (.str "part"))) [.ret (.idx (.loc 1) (.bin .add (.int 1) (.idx (.loc 0) (.int 1))))] [], .ite (.cmp .eq (.idx (.loc 0) (.int 0)) (.glo "" (.str "around"))) [.ret (.tup [.idx (.loc 0) (.int 1), .idx (.loc 1) (.bin .add (.int 1) (.idx (.loc 0) (.int 2)))])] [], .asg (.nm 2) (.idx (.loc 1) (.bin .add (.int 1) (.idx (.loc 0) (.int 1)))), .ret (.ite (.and (.isi (.loc 2) [.tup]) (.cmp .eq (.idx (.loc 2) (.int 0)) (.idx (.loc 0) (.int 2)))) (.idx (.loc 2) (.int 1)) (.non))]⟩
def b_Book_init : Fd := ⟨3, 4, [.ite (.not (.call 49 [.loc 1] [] [] [0])) [.never] [], .sfld "Book" (.loc 0) "counts" (.bi .dict false (.loc 1)), .ite (.not (.call 54 [.fld (.loc 0) "counts", .loc 2] [] [] [0, 1])) [.never] [], .sfld "Book" (.loc 0) "kinds" (.loc 1), .sfld "Book" (.loc 0) "openings" (.loc 2), .sfld "Book" (.loc 0) "needs_by_opening" (.dcomp false [3] (.nm 3) .on [.loc 2] (.bl true) (.idx (.loc 3) (.int 0)) (.idx (.loc 3) (.int 3)))]⟩
def b_Book_needed : Fd := ⟨3, 5, [.asg (.nm 3) (.comp false [4] (.nm 4) .on [.idx (.fld (.loc 0) "needs_by_opening") (.loc 1)] (.bl true) (.call 55 [.loc 4, .loc 2] [] [] [0, 1])), .ret (.ite (.cmp .isin (.non) (.loc 3)) (.non) (.bi .tuple false (.loc 3)))]⟩
def b_standard_book : Fd := ⟨0, 7, [.asg (.nm 0) (.tup [.tup [.str "half", .int 1], .tup [.str "lock", .int 2], .tup [.str "mark", .int 1], .tup [.str "pair", .int 2], .tup [.str "seal", .int 2], .tup [.str "sign", .int 2]]), .asg (.tup [5, 6]) (.tup [.tup [.str "first", .str "pair", .int 0, .tup []], .tup [.str "second", .str "pair", .int 1, .tup []]]), .asg (.nm 1) (.tup [.str "open", .str "lock", .int 0, .tup [.tup [.glo "" (.str "part"), .int 1]]]), .asg (.nm 2) (.tup [.str "shown", .str "sign", .int 0, .tup []]), .asg (.nm 3) (.tup [.str "signed", .str "sign", .int 0, .tup [.tup [.glo "" (.str "around"), .str "half", .int 1]]]), .asg (.nm 4) (.tup [.str "unseal", .str "seal", .int 0, .tup [.tup [.glo "" (.str "inside"), .int 1, .str "half"]]]), .ret (.mk "Book" 56 [.loc 0, .tup [.loc 5, .loc 1, .loc 6, .loc 2, .loc 3, .loc 4]] [] [] [0, 1, 2])]⟩
def b_law : Fd := ⟨1, 10, [.asg (.nm 1) (.call 12 [.loc 0] [] [] [0]), .for (.nm 2) .rng [.int 5] [.asg (.tup [7, 8]) (.call 16 [.loc 1] [] [] [0]), .asg (.nm 5) (.mk "Book" 56 [.loc 7, .loc 8] [] [] [0, 1, 2]), .for (.nm 6) .on [.loc 8] [.for (.nm 9) .rng [.int 3] [.ite (.not (.call 343 [.loc 1, .loc 5, .loc 7, .loc 6] [] [] [0, 1, 2, 3])) [.ret (.bl false)] []]]], .asg (.nm 3) (.call 63 [] [] [] []), .asg (.nm 4) (.lst false [.mcall "Book" "needed" 62 (.loc 3) [.str "unseal", .tup [.str "seal", .str "K", .tup [.str "half", .str "S"]]] [] [] [0, 1, 2], .mcall "Book" "needed" 62 (.loc 3) [.str "unseal", .tup [.str "seal", .str "K", .str "S"]] [] [] [0, 1, 2]]), .asg (.nm 4) (.bin .add (.loc 4) (.lst false [.mcall "Book" "needed" 62 (.loc 3) [.str "unseal", .tup [.str "seal", .str "K", .tup [.str "mark", .str "S"]]] [] [] [0, 1, 2], .mcall "Book" "needed" 62 (.loc 3) [.str "signed", .tup [.str "sign", .str "a", .str "S"]] [] [] [0, 1, 2]])), .asg (.nm 4) (.bin .add (.loc 4) (.lst false [.mcall "Book" "needed" 62 (.loc 3) [.str "open", .tup [.str "lock", .str "a", .tup [.str "pair", .str "b", .str "K"]]] [] [] [0, 1, 2], .mcall "Book" "needed" 62 (.loc 3) [.str "first", .tup [.str "pair", .str "a", .str "b"]] [] [] [0, 1, 2]])), .ret (.cmp .eq (.bi .repr false (.loc 4)) (.bi .repr false (.lst false [.tup [.str "S"], .non, .non, .tup [.tup [.str "half", .str "S"]], .tup [.tup [.str "pair", .str "b", .str "K"]], .tup []])))]⟩
def b_law_wanted : Fd := ⟨2, 3, [.ite (.cmp .eq (.idx (.loc 0) (.int 0)) (.str "part")) [.ret (.lst false [.idx (.loc 1) (.bin .add (.idx (.loc 0) (.int 1)) (.int 1))])] [], .ite (.cmp .eq (.idx (.loc 0) (.int 0)) (.str "around")) [.ret (.lst false [.tup [.idx (.loc 0) (.int 1), .idx (.loc 1) (.bin .add (.idx (.loc 0) (.int 2)) (.int 1))]])] [], .asg (.nm 2) (.idx (.loc 1) (.bin .add (.idx (.loc 0) (.int 1)) (.int 1))), .ret (.ite (.and (.isi (.loc 2) [.tup]) (.cmp .eq (.idx (.loc 2) (.int 0)) (.idx (.loc 0) (.int 2)))) (.lst false [.idx (.loc 2) (.int 1)]) (.lst false []))]⟩
def b_law_due : Fd := ⟨2, 5, [.asg (.nm 2) (.lst false []), .for (.nm 3) .on [.loc 0] [.asg (.nm 4) (.call 340 [.loc 3, .loc 1] [] [] [0, 1]), .ite (.cmp .eq (.loc 4) (.lst false [])) [.ret (.non)] [], .asg (.nm 2) (.bin .add (.loc 2) (.loc 4))], .ret (.bi .tuple false (.loc 2))]⟩
def b_law_fit : Fd := ⟨3, 9, [.par 5 6 (.lst false [.str "a", .str "half", .str "K", .str "N"]) (.tup [.idx (.loc 2) (.int 1)]), .for (.nm 3) .rng [.idx (.bi .dict false (.bi .list false (.loc 1))) (.idx (.loc 2) (.int 1))] [.asg (.nm 6) (.bin .add (.loc 6) (.tup [.call 17 [.loc 0, .loc 1, .loc 5, .int 6, .int 5] [] [] [0, 1, 2, 3, 4]]))], .for (.nm 4) .on [.idx (.loc 2) (.int 3)] [.ite (.and (.cmp .eq (.idx (.loc 4) (.int 0)) (.str "inside")) (.cmp .gt (.call 13 [.loc 0, .int 3] [] [] [0, 1]) (.int 0))) [.asg (.nm 7) (.bin .add (.idx (.loc 4) (.int 1)) (.int 1)), .asg (.nm 8) (.tup [.idx (.loc 4) (.int 2), .call 17 [.loc 0, .loc 1, .loc 5, .int 4, .int 3] [] [] [0, 1, 2, 3, 4]]), .asg (.nm 6) (.bin .add (.bin .add (.slice false (.loc 6) .nop (.loc 7)) (.tup [.loc 8])) (.slice false (.loc 6) (.bin .add (.loc 7) (.int 1)) .nop))] []], .ret (.loc 6)]⟩
def b_law_right : Fd := ⟨4, 7, [.asg (.nm 4) (.call 342 [.loc 0, .loc 2, .loc 3] [] [] [0, 1, 2]), .asg (.nm 5) (.bi .repr false (.lst false [.loc 4, .fld (.loc 1) "kinds", .fld (.loc 1) "openings"])), .asg (.nm 6) (.lst false [.mcall "Book" "needed" 62 (.loc 1) [.idx (.loc 3) (.int 0), .loc 4] [] [] [0, 1, 2], .mcall "Book" "needed" 62 (.loc 1) [] [.loc 4, .idx (.loc 3) (.int 0)] [] [0, 2, 1], .mcall "Book" "needed" 62 (.loc 1) [.idx (.loc 3) (.int 0), .loc 4] [] [] [0, 1, 2]]), .ret (.and (.cmp .eq (.bi .repr false (.loc 6)) (.bi .repr false (.bin .mul (.lst false [.call 341 [.idx (.loc 3) (.int 3), .loc 4] [] [] [0, 1]]) (.int 3)))) (.cmp .eq (.bi .repr false (.lst false [.loc 4, .fld (.loc 1) "kinds", .fld (.loc 1) "openings"])) (.loc 5)))]⟩
def z : Fd := ⟨0, 0, [.never]⟩
def pr : List Fd := [b_is_short, b_is_word, z, z, z, z, z, z, z, z, z, z, b_law_deck, b_law_draw, b_law_pick, b_law_need, b_law_kit, b_law_thing, z, z, z, z, z, z, z, z, z, z, z, z, z, z, z, z, z, z, z, z, z, z, z, z, z, z, z, z, b_is_integer, b_are_ascending, b_is_kind, b_are_kinds, b_is_place, b_is_single, b_is_need, b_is_opening, b_are_openings, b_needed_by, b_Book_init, z, z, z, z, z, b_Book_needed, b_standard_book, z, z, z, z, z, z, z, z, z, z, z, z, z, z, z, z, z, z, z, z, z, z, z, z, z, z, z, z, z, z, z, z, z, z, z, z, z, z, z, z, z, z, z, z, z, z, z, z, z, z, z, z, z, z, z, z, z, z, z, z, z, z, z, z, z, z, z, z, z, z, z, z, z, z, z, z, z, z, z, z, z, z, z, z, z, z, z, z, z, z, z, z, z, z, z, z, z, z, z, z, z, z, z, z, z, z, z, z, z, z, z, z, z, z, z, z, z, z, z, z, z, z, z, z, z, z, z, z, z, z, z, z, z, z, z, z, z, z, z, z, z, z, z, z, z, z, z, z, z, z, z, z, z, z, z, z, z, z, z, z, z, z, z, z, z, z, z, z, z, z, z, z, z, z, z, z, z, z, z, z, z, z, z, z, z, z, z, z, z, z, z, z, z, z, z, z, z, z, z, z, z, z, z, z, z, z, z, z, z, z, z, z, z, z, z, z, z, z, z, z, z, z, z, z, z, z, z, z, z, z, z, z, z, z, z, b_law, z, z, z, z, z, z, z, z, z, z, z, z, z, z, z, z, z, z, z, z, z, z, z, z, z, z, z, z, z, z, z, z, z, z, z, z, z, z, z, z, b_law_wanted, b_law_due, b_law_fit, b_law_right]
end K05

set_option Elab.async false
set_option linter.all false
set_option maxRecDepth 100000
set_option maxHeartbeats 8000000
namespace K05
open PySem PySem.Spec L2 Iv
def top (i : Nat) : Stmt := PySem.Challenge.pw_sealedalike_k05_needed_things.main.body.getD i (.Pass ⟨0, 0, 0, 0⟩)
def i_is_short : Info := ⟨0, ⟨("is_short", none), "is_short", "is_short", defArgs (top 8), defBody (top 8), defScope (top 8), [], []⟩, ["thing"], b_is_short, [⟨1, [], [], [0]⟩]⟩
def i_is_word : Info := ⟨1, ⟨("is_word", none), "is_word", "is_word", defArgs (top 9), defBody (top 9), defScope (top 9), [], []⟩, ["thing", "sign"], b_is_word, [⟨1, [], [], [0]⟩]⟩
def i_law_deck : Info := ⟨12, ⟨("_law_deck", none), "_law_deck", "_law_deck", defArgs (top 47), defBody (top 47), defScope (top 47), [], []⟩, ["_law_script", "_law_cell", "_law_cells", "_law_mixed"], b_law_deck, [⟨1, [], [], [0]⟩]⟩
def i_law_draw : Info := ⟨13, ⟨("_law_draw", none), "_law_draw", "_law_draw", defArgs (top 48), defBody (top 48), defScope (top 48), [], []⟩, ["_law_deck_here", "_law_below", "_law_figure", "_law_turn", "_law_cell"], b_law_draw, [⟨2, [], [], [0, 1]⟩]⟩
def i_law_pick : Info := ⟨14, ⟨("_law_pick", none), "_law_pick", "_law_pick", defArgs (top 49), defBody (top 49), defScope (top 49), [], []⟩, ["_law_deck_here", "_law_some"], b_law_pick, [⟨2, [], [], [0, 1]⟩]⟩
def i_law_need : Info := ⟨15, ⟨("_law_need", none), "_law_need", "_law_need", defArgs (top 50), defBody (top 50), defScope (top 50), [], []⟩, ["_law_deck_here", "_law_singles", "_law_many", "_law_c", "_law_way", "_law_j"], b_law_need, [⟨3, [], [], [0, 1, 2]⟩]⟩
def i_law_kit : Info := ⟨16, ⟨("_law_kit", none), "_law_kit", "_law_kit", defArgs (top 51), defBody (top 51), defScope (top 51), [], []⟩, ["_law_deck_here", "_law_word", "_law_makes", "_law_singles", "_law_taking", "_law_needs", "_law_many", "_law_word_of", "_law_go"], b_law_kit, [⟨1, [], [], [0]⟩]⟩
def i_law_thing : Info := ⟨17, ⟨("_law_thing", none), "_law_thing", "_law_thing", defArgs (top 52), defBody (top 52), defScope (top 52), [], []⟩, ["_law_deck_here", "_law_makes", "_law_leaves", "_law_top", "_law_deep", "_law_fit_here", "_law_k", "_law_word", "_law_many", "_law_found", "_law_left", "_law_own", "_law_item"], b_law_thing, [⟨5, [], [], [0, 1, 2, 3, 4]⟩]⟩
def i_is_integer : Info := ⟨46, ⟨("is_integer", none), "is_integer", "is_integer", defArgs (top 34), defBody (top 34), defScope (top 34), [], []⟩, ["thing"], b_is_integer, [⟨1, [], [], [0]⟩]⟩
def i_are_ascending : Info := ⟨47, ⟨("are_ascending", none), "are_ascending", "are_ascending", defArgs (top 35), defBody (top 35), defScope (top 35), [], []⟩, ["words", "one", "other"], b_are_ascending, [⟨1, [], [], [0]⟩]⟩
def i_is_kind : Info := ⟨48, ⟨("is_kind", none), "is_kind", "is_kind", defArgs (top 36), defBody (top 36), defScope (top 36), [], []⟩, ["thing"], b_is_kind, [⟨1, [], [], [0]⟩]⟩
def i_are_kinds : Info := ⟨49, ⟨("are_kinds", none), "are_kinds", "are_kinds", defArgs (top 37), defBody (top 37), defScope (top 37), [], []⟩, ["thing", "kind", "many", "item"], b_are_kinds, [⟨1, [], [], [0]⟩]⟩
def i_is_place : Info := ⟨50, ⟨("is_place", none), "is_place", "is_place", defArgs (top 38), defBody (top 38), defScope (top 38), [], []⟩, ["many", "thing"], b_is_place, [⟨2, [], [], [0, 1]⟩]⟩
def i_is_single : Info := ⟨51, ⟨("is_single", none), "is_single", "is_single", defArgs (top 39), defBody (top 39), defScope (top 39), [], []⟩, ["counts", "thing"], b_is_single, [⟨2, [], [], [0, 1]⟩]⟩
def i_is_need : Info := ⟨52, ⟨("is_need", none), "is_need", "is_need", defArgs (top 40), defBody (top 40), defScope (top 40), [], []⟩, ["counts", "many", "thing"], b_is_need, [⟨3, [], [], [0, 1, 2]⟩]⟩
def i_is_opening : Info := ⟨53, ⟨("is_opening", none), "is_opening", "is_opening", defArgs (top 41), defBody (top 41), defScope (top 41), [], []⟩, ["counts", "thing", "many", "opening", "kind", "given", "needs", "need"], b_is_opening, [⟨2, [], [], [0, 1]⟩]⟩
def i_are_openings : Info := ⟨54, ⟨("are_openings", none), "are_openings", "are_openings", defArgs (top 42), defBody (top 42), defScope (top 42), [], []⟩, ["counts", "thing", "item"], b_are_openings, [⟨2, [], [], [0, 1]⟩]⟩
def i_needed_by : Info := ⟨55, ⟨("needed_by", none), "needed_by", "needed_by", defArgs (top 43), defBody (top 43), defScope (top 43), [], []⟩, ["need", "thing", "inner"], b_needed_by, [⟨2, [], [], [0, 1]⟩]⟩
def i_Book_init : Info := ⟨56, ⟨("Book", some "__init__"), "__init__", "Book.__init__", defArgs (inClass (top 44) 0), defBody (inClass (top 44) 0), defScope (inClass (top 44) 0), [], []⟩, ["self", "kinds", "openings", "item"], b_Book_init, [⟨3, [], [], [0, 1, 2]⟩]⟩
def i_Book_needed : Info := ⟨62, ⟨("Book", some "needed"), "needed", "Book.needed", defArgs (inClass (top 44) 6), defBody (inClass (top 44) 6), defScope (inClass (top 44) 6), [], []⟩, ["self", "opening", "thing", "found", "need"], b_Book_needed, [⟨3, [], [], [0, 1, 2]⟩, ⟨1, ["thing", "opening"], [], [0, 2, 1]⟩]⟩
def i_standard_book : Info := ⟨63, ⟨("standard_book", none), "standard_book", "standard_book", defArgs (top 45), defBody (top 45), defScope (top 45), [], []⟩, ["kinds", "unlocked", "shown", "signed", "unsealed", "first", "second"], b_standard_book, [⟨0, [], [], []⟩]⟩
def i_law : Info := ⟨299, ⟨("law", none), "law", "law", defArgs (top 57), defBody (top 57), defScope (top 57), [], []⟩, ["_law_script", "_law_deck_here", "_law_turn", "_law_plain", "_law_told", "_law_code", "_law_item", "_law_makes", "_law_taking", "_law_again"], b_law, [⟨1, [], [], [0]⟩]⟩
def i_law_wanted : Info := ⟨340, ⟨("_law_wanted", none), "_law_wanted", "_law_wanted", defArgs (top 53), defBody (top 53), defScope (top 53), [], []⟩, ["_law_need_here", "_law_it", "_law_inner"], b_law_wanted, [⟨2, [], [], [0, 1]⟩]⟩
def i_law_due : Info := ⟨341, ⟨("_law_due", none), "_law_due", "_law_due", defArgs (top 54), defBody (top 54), defScope (top 54), [], []⟩, ["_law_needs", "_law_it", "_law_found", "_law_need_here", "_law_some"], b_law_due, [⟨2, [], [], [0, 1]⟩]⟩
def i_law_fit : Info := ⟨342, ⟨("_law_fit", none), "_law_fit", "_law_fit", defArgs (top 55), defBody (top 55), defScope (top 55), [], []⟩, ["_law_deck_here", "_law_makes", "_law_item", "_law_k", "_law_need_here", "_law_leaves", "_law_it", "_law_at", "_law_bit"], b_law_fit, [⟨3, [], [], [0, 1, 2]⟩]⟩
def i_law_right : Info := ⟨343, ⟨("_law_right", none), "_law_right", "_law_right", defArgs (top 56), defBody (top 56), defScope (top 56), [], []⟩, ["_law_deck_here", "_law_code", "_law_makes", "_law_item", "_law_it", "_law_was", "_law_told"], b_law_right, [⟨4, [], [], [0, 1, 2, 3]⟩]⟩
def infos : List Info := [i_is_short, i_is_word, i_law_deck, i_law_draw, i_law_pick, i_law_need, i_law_kit, i_law_thing, i_is_integer, i_are_ascending, i_is_kind, i_are_kinds, i_is_place, i_is_single, i_is_need, i_is_opening, i_are_openings, i_needed_by, i_Book_init, i_Book_needed, i_standard_book, i_law, i_law_wanted, i_law_due, i_law_fit, i_law_right]
def glo : List (Str × D) := [("PART", .str "part"), ("AROUND", .str "around"), ("INSIDE", .str "inside"), ("OPENING_PARTS", .int 4), ("MOST_NEEDS", .int 2), ("NEED_SIZES", .rod ["part", "around", "inside"] [.int 2, .int 3, .int 3]), ("SMALL", .str "abcdefghijklmnopqrstuvwxyz"), ("MOST_SIGNS", .int 8), ("KIND_PARTS", .int 2), ("MOST_PARTS", .int 3)]
def cf : Cf := ⟨infos, glo, ["Book"], [("Book", "counts"), ("Book", "kinds"), ("Book", "openings"), ("Book", "needs_by_opening")], []⟩
def g : Sg := ⟨fnsOf infos, glo, mesOf infos, cf.mks, cf.flds, cf.fcs⟩
theorem ok_is_short : infoC g 100 i_is_short = true := by decide +kernel
theorem ok_is_word : infoC g 100 i_is_word = true := by decide +kernel
theorem ok_law_deck : infoC g 100 i_law_deck = true := by decide +kernel
theorem ok_law_draw : infoC g 100 i_law_draw = true := by decide +kernel
theorem ok_law_pick : infoC g 100 i_law_pick = true := by decide +kernel
theorem ok_law_need : infoC g 100 i_law_need = true := by decide +kernel
theorem ok_law_kit : infoC g 100 i_law_kit = true := by decide +kernel
theorem ok_law_thing : infoC g 100 i_law_thing = true := by decide +kernel
theorem ok_is_integer : infoC g 100 i_is_integer = true := by decide +kernel
theorem ok_are_ascending : infoC g 100 i_are_ascending = true := by decide +kernel
theorem ok_is_kind : infoC g 100 i_is_kind = true := by decide +kernel
theorem ok_are_kinds : infoC g 100 i_are_kinds = true := by decide +kernel
theorem ok_is_place : infoC g 100 i_is_place = true := by decide +kernel
theorem ok_is_single : infoC g 100 i_is_single = true := by decide +kernel
theorem ok_is_need : infoC g 100 i_is_need = true := by decide +kernel
theorem ok_is_opening : infoC g 100 i_is_opening = true := by decide +kernel
theorem ok_are_openings : infoC g 100 i_are_openings = true := by decide +kernel
theorem ok_needed_by : infoC g 100 i_needed_by = true := by decide +kernel
theorem ok_Book_init : infoC g 100 i_Book_init = true := by decide +kernel
theorem ok_Book_needed : infoC g 100 i_Book_needed = true := by decide +kernel
theorem ok_standard_book : infoC g 100 i_standard_book = true := by decide +kernel
theorem ok_law : infoC g 100 i_law = true := by decide +kernel
theorem ok_law_wanted : infoC g 100 i_law_wanted = true := by decide +kernel
theorem ok_law_due : infoC g 100 i_law_due = true := by decide +kernel
theorem ok_law_fit : infoC g 100 i_law_fit = true := by decide +kernel
theorem ok_law_right : infoC g 100 i_law_right = true := by decide +kernel
theorem ok_all : ∀ i ∈ infos, infoC g 100 i = true := by
  intro i hi
  simp only [infos, List.mem_cons, List.not_mem_nil, or_false] at hi
  rcases hi with rfl | rfl | rfl | rfl | rfl | rfl | rfl | rfl | rfl | rfl | rfl | rfl | rfl | rfl | rfl | rfl | rfl | rfl | rfl | rfl | rfl | rfl | rfl | rfl | rfl | rfl
  · exact ok_is_short
  · exact ok_is_word
  · exact ok_law_deck
  · exact ok_law_draw
  · exact ok_law_pick
  · exact ok_law_need
  · exact ok_law_kit
  · exact ok_law_thing
  · exact ok_is_integer
  · exact ok_are_ascending
  · exact ok_is_kind
  · exact ok_are_kinds
  · exact ok_is_place
  · exact ok_is_single
  · exact ok_is_need
  · exact ok_is_opening
  · exact ok_are_openings
  · exact ok_needed_by
  · exact ok_Book_init
  · exact ok_Book_needed
  · exact ok_standard_book
  · exact ok_law
  · exact ok_law_wanted
  · exact ok_law_due
  · exact ok_law_fit
  · exact ok_law_right
theorem pr_all : ∀ i ∈ infos, pr[i.num]? = some i.b := by
  intro i hi
  simp only [infos, List.mem_cons, List.not_mem_nil, or_false] at hi
  rcases hi with rfl | rfl | rfl | rfl | rfl | rfl | rfl | rfl | rfl | rfl | rfl | rfl | rfl | rfl | rfl | rfl | rfl | rfl | rfl | rfl | rfl | rfl | rfl | rfl | rfl | rfl
  · exact rfl
  · exact rfl
  · exact rfl
  · exact rfl
  · exact rfl
  · exact rfl
  · exact rfl
  · exact rfl
  · exact rfl
  · exact rfl
  · exact rfl
  · exact rfl
  · exact rfl
  · exact rfl
  · exact rfl
  · exact rfl
  · exact rfl
  · exact rfl
  · exact rfl
  · exact rfl
  · exact rfl
  · exact rfl
  · exact rfl
  · exact rfl
  · exact rfl
  · exact rfl
theorem sh_is_short : ShsOk i_is_short := by
  intro P w K f fd F sh hs
  simp only [i_is_short, List.mem_cons, List.not_mem_nil, or_false] at hs
  rcases hs with rfl
  · exact shp_of F fun kV doc pm an cdv ct us ws h1 h2 => match us, h1, ws, h2 with
    | [u0], _, [], _ => ⟨[u0], rfl, rfl⟩
theorem sh_is_word : ShsOk i_is_word := by
  intro P w K f fd F sh hs
  simp only [i_is_word, List.mem_cons, List.not_mem_nil, or_false] at hs
  rcases hs with rfl
  · exact shp_of F fun kV doc pm an cdv ct us ws h1 h2 => match us, h1, ws, h2 with
    | [u0], _, [], _ => ⟨[u0], rfl, rfl⟩
theorem sh_law_deck : ShsOk i_law_deck := by
  intro P w K f fd F sh hs
  simp only [i_law_deck, List.mem_cons, List.not_mem_nil, or_false] at hs
  rcases hs with rfl
  · exact shp_of F fun kV doc pm an cdv ct us ws h1 h2 => match us, h1, ws, h2 with
    | [u0], _, [], _ => ⟨[u0], rfl, rfl⟩
theorem sh_law_draw : ShsOk i_law_draw := by
  intro P w K f fd F sh hs
  simp only [i_law_draw, List.mem_cons, List.not_mem_nil, or_false] at hs
  rcases hs with rfl
  · exact shp_of F fun kV doc pm an cdv ct us ws h1 h2 => match us, h1, ws, h2 with
    | [u0, u1], _, [], _ => ⟨[u0, u1], rfl, rfl⟩
theorem sh_law_pick : ShsOk i_law_pick := by
  intro P w K f fd F sh hs
  simp only [i_law_pick, List.mem_cons, List.not_mem_nil, or_false] at hs
  rcases hs with rfl
  · exact shp_of F fun kV doc pm an cdv ct us ws h1 h2 => match us, h1, ws, h2 with
    | [u0, u1], _, [], _ => ⟨[u0, u1], rfl, rfl⟩
theorem sh_law_need : ShsOk i_law_need := by
  intro P w K f fd F sh hs
  simp only [i_law_need, List.mem_cons, List.not_mem_nil, or_false] at hs
  rcases hs with rfl
  · exact shp_of F fun kV doc pm an cdv ct us ws h1 h2 => match us, h1, ws, h2 with
    | [u0, u1, u2], _, [], _ => ⟨[u0, u1, u2], rfl, rfl⟩
theorem sh_law_kit : ShsOk i_law_kit := by
  intro P w K f fd F sh hs
  simp only [i_law_kit, List.mem_cons, List.not_mem_nil, or_false] at hs
  rcases hs with rfl
  · exact shp_of F fun kV doc pm an cdv ct us ws h1 h2 => match us, h1, ws, h2 with
    | [u0], _, [], _ => ⟨[u0], rfl, rfl⟩
theorem sh_law_thing : ShsOk i_law_thing := by
  intro P w K f fd F sh hs
  simp only [i_law_thing, List.mem_cons, List.not_mem_nil, or_false] at hs
  rcases hs with rfl
  · exact shp_of F fun kV doc pm an cdv ct us ws h1 h2 => match us, h1, ws, h2 with
    | [u0, u1, u2, u3, u4], _, [], _ => ⟨[u0, u1, u2, u3, u4], rfl, rfl⟩
theorem sh_is_integer : ShsOk i_is_integer := by
  intro P w K f fd F sh hs
  simp only [i_is_integer, List.mem_cons, List.not_mem_nil, or_false] at hs
  rcases hs with rfl
  · exact shp_of F fun kV doc pm an cdv ct us ws h1 h2 => match us, h1, ws, h2 with
    | [u0], _, [], _ => ⟨[u0], rfl, rfl⟩
theorem sh_are_ascending : ShsOk i_are_ascending := by
  intro P w K f fd F sh hs
  simp only [i_are_ascending, List.mem_cons, List.not_mem_nil, or_false] at hs
  rcases hs with rfl
  · exact shp_of F fun kV doc pm an cdv ct us ws h1 h2 => match us, h1, ws, h2 with
    | [u0], _, [], _ => ⟨[u0], rfl, rfl⟩
theorem sh_is_kind : ShsOk i_is_kind := by
  intro P w K f fd F sh hs
  simp only [i_is_kind, List.mem_cons, List.not_mem_nil, or_false] at hs
  rcases hs with rfl
  · exact shp_of F fun kV doc pm an cdv ct us ws h1 h2 => match us, h1, ws, h2 with
    | [u0], _, [], _ => ⟨[u0], rfl, rfl⟩
theorem sh_are_kinds : ShsOk i_are_kinds := by
  intro P w K f fd F sh hs
  simp only [i_are_kinds, List.mem_cons, List.not_mem_nil, or_false] at hs
  rcases hs with rfl
  · exact shp_of F fun kV doc pm an cdv ct us ws h1 h2 => match us, h1, ws, h2 with
    | [u0], _, [], _ => ⟨[u0], rfl, rfl⟩
theorem sh_is_place : ShsOk i_is_place := by
  intro P w K f fd F sh hs
  simp only [i_is_place, List.mem_cons, List.not_mem_nil, or_false] at hs
  rcases hs with rfl
  · exact shp_of F fun kV doc pm an cdv ct us ws h1 h2 => match us, h1, ws, h2 with
    | [u0, u1], _, [], _ => ⟨[u0, u1], rfl, rfl⟩
theorem sh_is_single : ShsOk i_is_single := by
  intro P w K f fd F sh hs
  simp only [i_is_single, List.mem_cons, List.not_mem_nil, or_false] at hs
  rcases hs with rfl
  · exact shp_of F fun kV doc pm an cdv ct us ws h1 h2 => match us, h1, ws, h2 with
    | [u0, u1], _, [], _ => ⟨[u0, u1], rfl, rfl⟩
theorem sh_is_need : ShsOk i_is_need := by
  intro P w K f fd F sh hs
  simp only [i_is_need, List.mem_cons, List.not_mem_nil, or_false] at hs
  rcases hs with rfl
  · exact shp_of F fun kV doc pm an cdv ct us ws h1 h2 => match us, h1, ws, h2 with
    | [u0, u1, u2], _, [], _ => ⟨[u0, u1, u2], rfl, rfl⟩
theorem sh_is_opening : ShsOk i_is_opening := by
  intro P w K f fd F sh hs
  simp only [i_is_opening, List.mem_cons, List.not_mem_nil, or_false] at hs
  rcases hs with rfl
  · exact shp_of F fun kV doc pm an cdv ct us ws h1 h2 => match us, h1, ws, h2 with
    | [u0, u1], _, [], _ => ⟨[u0, u1], rfl, rfl⟩
theorem sh_are_openings : ShsOk i_are_openings := by
  intro P w K f fd F sh hs
  simp only [i_are_openings, List.mem_cons, List.not_mem_nil, or_false] at hs
  rcases hs with rfl
  · exact shp_of F fun kV doc pm an cdv ct us ws h1 h2 => match us, h1, ws, h2 with
    | [u0, u1], _, [], _ => ⟨[u0, u1], rfl, rfl⟩
theorem sh_needed_by : ShsOk i_needed_by := by
  intro P w K f fd F sh hs
  simp only [i_needed_by, List.mem_cons, List.not_mem_nil, or_false] at hs
  rcases hs with rfl
  · exact shp_of F fun kV doc pm an cdv ct us ws h1 h2 => match us, h1, ws, h2 with
    | [u0, u1], _, [], _ => ⟨[u0, u1], rfl, rfl⟩
theorem sh_Book_init : ShsOk i_Book_init := by
  intro P w K f fd F sh hs
  simp only [i_Book_init, List.mem_cons, List.not_mem_nil, or_false] at hs
  rcases hs with rfl
  · exact shp_of F fun kV doc pm an cdv ct us ws h1 h2 => match us, h1, ws, h2 with
    | [u0, u1, u2], _, [], _ => ⟨[u0, u1, u2], rfl, rfl⟩
theorem sh_Book_needed : ShsOk i_Book_needed := by
  intro P w K f fd F sh hs
  simp only [i_Book_needed, List.mem_cons, List.not_mem_nil, or_false] at hs
  rcases hs with rfl | rfl
  · exact shp_of F fun kV doc pm an cdv ct us ws h1 h2 => match us, h1, ws, h2 with
    | [u0, u1, u2], _, [], _ => ⟨[u0, u1, u2], rfl, rfl⟩
  · exact shp_of F fun kV doc pm an cdv ct us ws h1 h2 => match us, h1, ws, h2 with
    | [u0], _, [w0, w1], _ => ⟨[u0, w1, w0], rfl, rfl⟩
theorem sh_standard_book : ShsOk i_standard_book := by
  intro P w K f fd F sh hs
  simp only [i_standard_book, List.mem_cons, List.not_mem_nil, or_false] at hs
  rcases hs with rfl
  · exact shp_of F fun kV doc pm an cdv ct us ws h1 h2 => match us, h1, ws, h2 with
    | [], _, [], _ => ⟨[], rfl, rfl⟩
theorem sh_law : ShsOk i_law := by
  intro P w K f fd F sh hs
  simp only [i_law, List.mem_cons, List.not_mem_nil, or_false] at hs
  rcases hs with rfl
  · exact shp_of F fun kV doc pm an cdv ct us ws h1 h2 => match us, h1, ws, h2 with
    | [u0], _, [], _ => ⟨[u0], rfl, rfl⟩
theorem sh_law_wanted : ShsOk i_law_wanted := by
  intro P w K f fd F sh hs
  simp only [i_law_wanted, List.mem_cons, List.not_mem_nil, or_false] at hs
  rcases hs with rfl
  · exact shp_of F fun kV doc pm an cdv ct us ws h1 h2 => match us, h1, ws, h2 with
    | [u0, u1], _, [], _ => ⟨[u0, u1], rfl, rfl⟩
theorem sh_law_due : ShsOk i_law_due := by
  intro P w K f fd F sh hs
  simp only [i_law_due, List.mem_cons, List.not_mem_nil, or_false] at hs
  rcases hs with rfl
  · exact shp_of F fun kV doc pm an cdv ct us ws h1 h2 => match us, h1, ws, h2 with
    | [u0, u1], _, [], _ => ⟨[u0, u1], rfl, rfl⟩
theorem sh_law_fit : ShsOk i_law_fit := by
  intro P w K f fd F sh hs
  simp only [i_law_fit, List.mem_cons, List.not_mem_nil, or_false] at hs
  rcases hs with rfl
  · exact shp_of F fun kV doc pm an cdv ct us ws h1 h2 => match us, h1, ws, h2 with
    | [u0, u1, u2], _, [], _ => ⟨[u0, u1, u2], rfl, rfl⟩
theorem sh_law_right : ShsOk i_law_right := by
  intro P w K f fd F sh hs
  simp only [i_law_right, List.mem_cons, List.not_mem_nil, or_false] at hs
  rcases hs with rfl
  · exact shp_of F fun kV doc pm an cdv ct us ws h1 h2 => match us, h1, ws, h2 with
    | [u0, u1, u2, u3], _, [], _ => ⟨[u0, u1, u2, u3], rfl, rfl⟩
theorem sh_all : ∀ i ∈ infos, ShsOk i := by
  intro i hi
  simp only [infos, List.mem_cons, List.not_mem_nil, or_false] at hi
  rcases hi with rfl | rfl | rfl | rfl | rfl | rfl | rfl | rfl | rfl | rfl | rfl | rfl | rfl | rfl | rfl | rfl | rfl | rfl | rfl | rfl | rfl | rfl | rfl | rfl | rfl | rfl
  · exact sh_is_short
  · exact sh_is_word
  · exact sh_law_deck
  · exact sh_law_draw
  · exact sh_law_pick
  · exact sh_law_need
  · exact sh_law_kit
  · exact sh_law_thing
  · exact sh_is_integer
  · exact sh_are_ascending
  · exact sh_is_kind
  · exact sh_are_kinds
  · exact sh_is_place
  · exact sh_is_single
  · exact sh_is_need
  · exact sh_is_opening
  · exact sh_are_openings
  · exact sh_needed_by
  · exact sh_Book_init
  · exact sh_Book_needed
  · exact sh_standard_book
  · exact sh_law
  · exact sh_law_wanted
  · exact sh_law_due
  · exact sh_law_fit
  · exact sh_law_right
end K05

set_option Elab.async false
set_option linter.all false
set_option maxRecDepth 100000
set_option maxHeartbeats 0
namespace K05
open PySem PySem.Spec L2 Iv
abbrev R : PySem.W.OpenRow := PySem.W.OpenLaw.row PySem.Challenge.rw_sealedalike_k05_needed_things
abbrev hk : PySem.W.Hook := hookI 4 cf
def ob (s : PySem.W.SharedT) : AlI := obI 4 cf s
theorem ob_eq (s : PySem.W.SharedT) : ob s = hk.obs s.abs := obI_eq s
def loose : List Str := (["_wall", "__name__", "SealError", "BadBook", "BadText", "SMALL", "MOST_SIGNS", "is_short", "is_word", "BLANK", "BREAK", "KIND"] : List Str) ++ (["OPENING", "NO_STRING", "KIND_WORDS", "OPENING_WORDS", "NEED_WORDS", "COUNTS", "PLACES", "written", "needs_in", "Reading", "parts_in", "PART"] : List Str) ++ (["AROUND", "INSIDE", "KIND_PARTS", "OPENING_PARTS", "MOST_PARTS", "MOST_NEEDS", "NEED_SIZES", "is_integer", "are_ascending", "is_kind", "are_kinds", "is_place"] : List Str) ++ (["is_single", "is_need", "is_opening", "are_openings", "needed_by", "Book", "standard_book", "_law_deck", "_law_draw", "_law_pick", "_law_need", "_law_kit"] : List Str) ++ (["_law_thing", "_law_wanted", "_law_due", "_law_fit", "_law_right"] : List Str)
theorem run (w : World) : HandSHeadRun.RunEq R (PySem.W.view R.prog [57]) hk ob 4000 loose w := by
  refine PySem.W.byRow2 "special-get-raises" (P := fun w => HandSHeadRun.RunEq R (PySem.W.view R.prog [57]) hk ob 4000 loose w) (fun w => ?_) (fun w => ?_) w <;> (intro os; kernel_rfl)
end K05

set_option Elab.async false
set_option linter.all false
/-! running the evaluator by hand -/
namespace Iv
open PySem L2
def fin (σ : Store) : Out → Res D
  | .nx _ σ1 => leave σ .non σ1
  | .rt d σ1 => leave σ d σ1
  | .exc c d σ1 => .exc c d σ1
  | _ => .bad
theorem callK_run {pr : List Fd} {k f : Nat} {fd : Fd} {ds : List D} {σ : Store} (h : pr[f]? = some fd) (hl : ds.length = fd.np) :
    callK pr (k + 1) f ds σ = fin σ (exs (callK pr k) fd.body (ds.map some ++ List.replicate (fd.ns - ds.length) none) σ) := by
  rw [callK]
  rw [h]
  dsimp only
  rw [if_pos hl]
  cases exs (callK pr k) fd.body (ds.map some ++ List.replicate (fd.ns - ds.length) none) σ <;> rfl
theorem leave_len {σ σ1 : Store} {d : D} (h : σ1.length = σ.length) : leave σ d σ1 = .ok d σ1 := by
  unfold leave
  split
  · rw [← h, List.take_length]
  · rfl
theorem leave_same {σ : Store} {d : D} : leave σ d σ = .ok d σ := leave_len rfl
/-- the callee's own cells go -/
theorem leave_app {σ σ1 ext : Store} {d : D} (hl : σ1.length = σ.length) (hd : d.under σ.length = true) (hc : ∀ (i : Nat) (c : Cell), σ1[i]? = some c → (σ[i]? = some c ∨ c.under σ.length = true)) : leave σ d (σ1 ++ ext) = .ok d σ1 := by
  unfold leave
  rw [if_pos]
  · rw [← hl, List.take_left]
  · refine dropOk_iff.mpr ⟨hd, fun i c hi e => ?_⟩
    rw [List.getElem?_append_left (by omega)] at e
    exact hc i c e
/-- a comprehension that changes no cell -/
theorem compL_fm {t : Tg} {c elt : Env → Store → Res D} {ρ : Env} {σ : Store} (p : D → Bool) (f : D → D) : ∀ {ds acc : List D}, (∀ d ∈ ds, ∃ ρ', tgD t d ρ = some ρ' ∧ c ρ' σ = .ok (.bl (p d)) σ ∧ (p d = true → elt ρ' σ = .ok (f d) σ)) → acc.length + ds.length ≤ lim →
    compL t c elt ρ ds acc σ = .ok (acc ++ (ds.filter p).map f) σ
  | [], acc, _, _ => by unfold compL; simp
  | d :: ds, acc, h, hl => by
    obtain ⟨ρ', h1, h2, h3⟩ := h d List.mem_cons_self
    have hr : ∀ e ∈ ds, ∃ ρ', tgD t e ρ = some ρ' ∧ c ρ' σ = .ok (.bl (p e)) σ ∧ (p e = true → elt ρ' σ = .ok (f e) σ) := fun e he => h e (List.mem_cons_of_mem _ he)
    rw [List.length_cons] at hl
    unfold compL
    rw [h1]
    dsimp only
    rw [h2]
    dsimp only
    cases hp : p d with
    | false =>
      show compL t c elt ρ ds acc σ = _
      rw [compL_fm p f hr (by omega), List.filter_cons, hp]
      simp
    | true =>
      show (match elt ρ' σ with
        | .ok v σ2 => if acc.length < lim then compL t c elt ρ ds (acc ++ [v]) σ2 else .bad
        | _ => .bad) = _
      rw [h3 hp]
      dsimp only
      rw [if_pos (by omega), compL_fm p f hr (by simp; omega), List.filter_cons, hp]
      simp
theorem compL_map {i : Nat} {Φ : CallSem} {elt : Ex} {ρ : Env} {σ : Store} (f : D → D) {ds : List D} (h : ∀ d ∈ ds, ev Φ elt (ρ.set i (some d)) σ = .ok (f d) σ) (hl : ds.length ≤ lim) :
    compL (.nm i) (ev Φ (.bl true)) (ev Φ elt) ρ ds [] σ = .ok (ds.map f) σ := by
  rw [compL_fm (fun _ => true) f (fun d hd => ⟨ρ.set i (some d), rfl, by unfold ev; rfl, fun _ => h d hd⟩) (by simpa using hl)]
  rw [List.filter_eq_self.mpr fun _ _ => rfl]; rfl
/-- the same, the items given as images -/
theorem compL_fT {α : Type} {t : Tg} {c elt : Env → Store → Res D} {ρ : Env} {σ : Store} (g : α → D) (p : α → Bool) (f : α → D) : ∀ {xs : List α} {acc : List D}, (∀ x ∈ xs, ∃ ρ', tgD t (g x) ρ = some ρ' ∧ c ρ' σ = .ok (.bl (p x)) σ ∧ (p x = true → elt ρ' σ = .ok (f x) σ)) → acc.length + xs.length ≤ lim →
    compL t c elt ρ (xs.map g) acc σ = .ok (acc ++ (xs.filter p).map f) σ
  | [], acc, _, _ => by unfold compL; simp
  | x :: xs, acc, h, hl => by
    obtain ⟨ρ', h1, h2, h3⟩ := h x List.mem_cons_self
    have hr : ∀ y ∈ xs, ∃ ρ', tgD t (g y) ρ = some ρ' ∧ c ρ' σ = .ok (.bl (p y)) σ ∧ (p y = true → elt ρ' σ = .ok (f y) σ) := fun y hy => h y (List.mem_cons_of_mem _ hy)
    rw [List.length_cons] at hl
    rw [List.map_cons]
    unfold compL
    rw [h1]
    dsimp only
    rw [h2]
    dsimp only
    cases hp : p x with
    | false =>
      show compL t c elt ρ (xs.map g) acc σ = _
      rw [compL_fT g p f hr (by omega), List.filter_cons, hp]
      simp
    | true =>
      show (match elt ρ' σ with
        | .ok v σ2 => if acc.length < lim then compL t c elt ρ (xs.map g) (acc ++ [v]) σ2 else .bad
        | _ => .bad) = _
      rw [h3 hp]
      dsimp only
      rw [if_pos (by omega), compL_fT g p f hr (by simp; omega), List.filter_cons, hp]
      simp
theorem compL_mapT {α : Type} {i : Nat} {Φ : CallSem} {elt : Ex} {ρ : Env} {σ : Store} (g f : α → D) {xs : List α} (h : ∀ x ∈ xs, ev Φ elt (ρ.set i (some (g x))) σ = .ok (f x) σ) (hl : xs.length ≤ lim) :
    compL (.nm i) (ev Φ (.bl true)) (ev Φ elt) ρ (xs.map g) [] σ = .ok (xs.map f) σ := by
  rw [compL_fT g (fun _ => true) f (fun x hx => ⟨ρ.set i (some (g x)), rfl, by unfold ev; rfl, fun _ => h x hx⟩) (by simpa using hl)]
  rw [List.filter_eq_self.mpr fun _ _ => rfl]; rfl
theorem cut_from1 {α : Type} (xs : List α) : cutL xs (some 1) none = xs.drop 1 := by
  unfold cutL
  have e1 : HT.sIx xs.length 0 (some 1) = min 1 xs.length := by unfold HT.sIx; simp
  have e2 : HT.sIx xs.length xs.length none = xs.length := by unfold HT.sIx; simp
  rw [e1, e2]
  cases xs with
  | nil => rfl
  | cons x r => simp
theorem cut_to1 {α : Type} (xs : List α) : cutL xs none (some 1) = xs.take 1 := by
  unfold cutL
  have e1 : HT.sIx xs.length 0 none = 0 := by unfold HT.sIx; simp
  have e2 : HT.sIx xs.length xs.length (some 1) = min 1 xs.length := by unfold HT.sIx; simp
  rw [e1, e2]
  cases xs with
  | nil => rfl
  | cons x r => simp
theorem cut_to63 {α : Type} (xs : List α) : cutL xs none (some 63) = xs.take 63 := by
  unfold cutL
  have e1 : HT.sIx xs.length 0 none = 0 := by unfold HT.sIx; simp
  have e2 : HT.sIx xs.length xs.length (some 63) = min 63 xs.length := by unfold HT.sIx; simp
  rw [e1, e2, List.drop_zero, Nat.sub_zero]
  rw [Nat.min_def]
  split
  · rfl
  · rename_i h
    rw [List.take_length, List.take_of_length_le (by omega)]
@[simp] theorem Res.bind_ok {α β : Type} {a : α} {σ : Store} {f : α → Store → Res β} : (Res.ok a σ).bind f = f a σ := (rfl)
@[simp] theorem Out.of_ok {α : Type} {a : α} {σ : Store} {f : α → Store → Out} : Out.of (Res.ok a σ) f = f a σ := (rfl)
@[simp] theorem fin_rt {σ σ1 : Store} {d : D} : fin σ (.rt d σ1) = leave σ d σ1 := (rfl)
@[simp] theorem fin_nx {σ σ1 : Store} {ρ : Env} : fin σ (.nx ρ σ1) = leave σ .non σ1 := (rfl)
theorem newL_f {xs : List D} {σ : Store} (h : xs.length ≤ lim) : newL false xs σ = .ok (.lst xs) σ := by unfold newL; rw [if_pos h]; rfl
theorem newL_t {xs : List D} {σ : Store} (h : xs.length ≤ lim) : newL true xs σ = .ok (.ref σ.length) (σ ++ [.lst xs]) := by unfold newL; rw [if_pos h]; rfl
theorem newT_ok {xs : List D} {σ : Store} (h : xs.length ≤ lim) : newT xs σ = .ok (.tup xs) σ := by unfold newT; rw [if_pos h]
section
variable {i : Nat} {b : Bool} {z : Int} {x : Str} {d : D} {op : BOp} {co co' : COp} {a b' c' : Ex} {es ks : List Ex} {ds : List D} {is : List Nat} {bb : Bi} {ts : List Ty} {m : Me} {tg : Tg} {ik : IK}
@[simp] theorem ns_0 : Ex.isStar (.nop) = false := (rfl)
@[simp] theorem ns_1 : Ex.isStar (.loc i) = false := (rfl)
@[simp] theorem ns_2 : Ex.isStar (.non) = false := (rfl)
@[simp] theorem ns_3 : Ex.isStar (.bl b) = false := (rfl)
@[simp] theorem ns_4 : Ex.isStar (.int z) = false := (rfl)
@[simp] theorem ns_5 : Ex.isStar (.str x) = false := (rfl)
@[simp] theorem ns_6 : Ex.isStar (.glo x d) = false := (rfl)
@[simp] theorem ns_7 : Ex.isStar (.bin op a b') = false := (rfl)
@[simp] theorem ns_8 : Ex.isStar (.neg a) = false := (rfl)
@[simp] theorem ns_9 : Ex.isStar (.cmp co a b') = false := (rfl)
@[simp] theorem ns_10 : Ex.isStar (.chain co co' a b' c') = false := (rfl)
@[simp] theorem ns_11 : Ex.isStar (.and a b') = false := (rfl)
@[simp] theorem ns_12 : Ex.isStar (.or a b') = false := (rfl)
@[simp] theorem ns_13 : Ex.isStar (.not a) = false := (rfl)
@[simp] theorem ns_14 : Ex.isStar (.ite a b' c') = false := (rfl)
@[simp] theorem ns_15 : Ex.isStar (.tup es) = false := (rfl)
@[simp] theorem ns_16 : Ex.isStar (.lst b es) = false := (rfl)
@[simp] theorem ns_17 : Ex.isStar (.dic b es) = false := (rfl)
@[simp] theorem ns_18 : Ex.isStar (.idx a b') = false := (rfl)
@[simp] theorem ns_19 : Ex.isStar (.slice b a b' c') = false := (rfl)
@[simp] theorem ns_20 : Ex.isStar (.rev b a) = false := (rfl)
@[simp] theorem ns_21 : Ex.isStar (.call i es ks ds is) = false := (rfl)
@[simp] theorem ns_22 : Ex.isStar (.bi bb b a) = false := (rfl)
@[simp] theorem ns_23 : Ex.isStar (.isi a ts) = false := (rfl)
@[simp] theorem ns_24 : Ex.isStar (.me m a es) = false := (rfl)
@[simp] theorem ns_25 : Ex.isStar (.comp b is tg ik es a b') = false := (rfl)
@[simp] theorem ns_star : Ex.isStar (.star a) = true := (rfl)
end
@[simp] theorem wipe_nil {ρ : Env} : wipeE ρ [] = ρ := (rfl)
@[simp] theorem wipe_cons {ρ : Env} {v : Nat} {vs : List Nat} : wipeE ρ (v :: vs) = (wipeE ρ vs).set v none := (rfl)
@[simp] theorem sa_nil {ρ : Env} : setAll [] [] ρ = some ρ := (rfl)
@[simp] theorem sa_cons {ρ : Env} {i : Nat} {is : List Nat} {d : D} {ds : List D} : setAll (i :: is) (d :: ds) ρ = setAll is ds (ρ.set i (some d)) := (rfl)
/-! ### the evaluator's equations, fully applied -/
def tb {α : Type} (o : Option Bool) (a b c : α) : α := match o with
  | some true => a
  | some false => b
  | none => c
@[simp] theorem tb_some {α : Type} {b : Bool} {x y z : α} : tb (some b) x y z = if b = true then x else y := by cases b <;> rfl
def cb (r : D) (a b : Res D) : Res D := match r with
  | .bl true => a
  | .bl false => b
  | _ => .bad
@[simp] theorem cb_bl {b : Bool} {x y : Res D} : cb (.bl b) x y = if b = true then x else y := by cases b <;> rfl
def Out.then (o : Out) (k : Env → Store → Out) : Out := match o with
  | .nx ρ σ => k ρ σ
  | o => o
@[simp] theorem then_nx {ρ : Env} {σ : Store} {k : Env → Store → Out} : (Out.nx ρ σ).then k = k ρ σ := (rfl)
@[simp] theorem then_rt {d : D} {σ : Store} {k : Env → Store → Out} : (Out.rt d σ).then k = .rt d σ := (rfl)
@[simp] theorem then_bk {ρ : Env} {σ : Store} {k : Env → Store → Out} : (Out.bk ρ σ).then k = .bk ρ σ := (rfl)
@[simp] theorem then_ct {ρ : Env} {σ : Store} {k : Env → Store → Out} : (Out.ct ρ σ).then k = .ct ρ σ := (rfl)
section
variable {Φ : CallSem} {ρ : Env} {σ : Store}
@[simp] theorem view_non : view σ .non = .non := (rfl)
@[simp] theorem view_bl {b : Bool} : view σ (.bl b) = .bl b := (rfl)
@[simp] theorem view_int {i : Int} : view σ (.int i) = .int i := (rfl)
@[simp] theorem view_str {x : Str} : view σ (.str x) = .str x := (rfl)
@[simp] theorem view_tup' {xs : List D} : view σ (.tup xs) = .tup xs := (rfl)
@[simp] theorem view_lst {xs : List D} : view σ (.lst xs) = .lst xs := (rfl)
@[simp] theorem view_ro {xs : List D} : view σ (.ro xs) = .ro xs := (rfl)
@[simp] theorem view_dic {ks : List Key} {xs : List D} : view σ (.dic ks xs) = .dic ks xs := (rfl)
@[simp] theorem view_set {xs : List Str} : view σ (.set xs) = .set xs := (rfl)
theorem view_cell {n : Nat} {xs : List D} (h : σ[n]? = some (.lst xs)) : view σ (.ref n) = .lst xs := by unfold view; dsimp only; rw [h]
theorem view_celld {n : Nat} {ks : List Key} {xs : List D} (h : σ[n]? = some (.dic ks xs)) : view σ (.ref n) = .dic ks xs := by unfold view; dsimp only; rw [h]
@[simp] theorem tr_non : truthD .non = some false := (rfl)
@[simp] theorem tr_bl {b : Bool} : truthD (.bl b) = some b := (rfl)
@[simp] theorem tr_int {i : Int} : truthD (.int i) = some (i != 0) := (rfl)
@[simp] theorem tr_tup {xs : List D} : truthD (.tup xs) = some (!xs.isEmpty) := (rfl)
@[simp] theorem tr_lst {xs : List D} : truthD (.lst xs) = some (!xs.isEmpty) := (rfl)
@[simp] theorem ev_nop : ev Φ .nop ρ σ = .ok .non σ := by rw [ev] <;> rfl
@[simp] theorem ev_loc {i : Nat} : ev Φ (.loc i) ρ σ = match ρ[i]? with
    | some (some d) => .ok d σ
    | _ => .bad := by rw [ev] <;> rfl
@[simp] theorem ev_non : ev Φ .non ρ σ = .ok .non σ := by rw [ev] <;> rfl
@[simp] theorem ev_bl {b : Bool} : ev Φ (.bl b) ρ σ = .ok (.bl b) σ := by rw [ev] <;> rfl
@[simp] theorem ev_int {i : Int} : ev Φ (.int i) ρ σ = .ok (.int i) σ := by rw [ev] <;> rfl
@[simp] theorem ev_str {x : Str} : ev Φ (.str x) ρ σ = .ok (.str x) σ := by rw [ev] <;> rfl
@[simp] theorem ev_glo {x : Str} {d : D} : ev Φ (.glo x d) ρ σ = .ok d σ := by rw [ev] <;> rfl
@[simp] theorem ev_bin {op : BOp} {a b : Ex} : ev Φ (.bin op a b) ρ σ = (ev Φ a ρ σ).bind fun x σ1 => (ev Φ b ρ σ1).bind fun y σ2 => binD op x y σ2 := by rw [ev] <;> rfl
@[simp] theorem ev_neg_int {i : Int} : ev Φ (.neg (.int i)) ρ σ = .ok (.int (-i)) σ := by rw [ev, ev_int]; rfl
@[simp] theorem ev_cmp {op : COp} {a b : Ex} : ev Φ (.cmp op a b) ρ σ = (ev Φ a ρ σ).bind fun x σ1 => (ev Φ b ρ σ1).bind fun y σ2 => cmpD op x y σ2 := by rw [ev] <;> rfl
@[simp] theorem ev_chain {op op' : COp} {a b c : Ex} : ev Φ (.chain op op' a b c) ρ σ = (ev Φ a ρ σ).bind fun x σ1 => (ev Φ b ρ σ1).bind fun y σ2 => (cmpD op x y σ2).bind fun r σ3 => cb r ((ev Φ c ρ σ3).bind fun z σ4 => cmpD op' y z σ4) (.ok (.bl false) σ3) := by
  rw [ev] <;> rfl
@[simp] theorem ev_and {a b : Ex} : ev Φ (.and a b) ρ σ = (ev Φ a ρ σ).bind fun x σ1 => tb (truthD (view σ1 x)) (ev Φ b ρ σ1) (.ok x σ1) .bad := by rw [ev] <;> rfl
@[simp] theorem ev_or {a b : Ex} : ev Φ (.or a b) ρ σ = (ev Φ a ρ σ).bind fun x σ1 => tb (truthD (view σ1 x)) (.ok x σ1) (ev Φ b ρ σ1) .bad := by rw [ev] <;> rfl
@[simp] theorem ev_not {a : Ex} : ev Φ (.not a) ρ σ = (ev Φ a ρ σ).bind fun x σ1 => match truthD (view σ1 x) with
    | some b => .ok (.bl (!b)) σ1
    | none => .bad := by rw [ev] <;> rfl
@[simp] theorem ev_ite {c a b : Ex} : ev Φ (.ite c a b) ρ σ = (ev Φ c ρ σ).bind fun x σ1 => tb (truthD (view σ1 x)) (ev Φ a ρ σ1) (ev Φ b ρ σ1) .bad := by rw [ev] <;> rfl
@[simp] theorem ev_tup {es : List Ex} : ev Φ (.tup es) ρ σ = (evs Φ es ρ σ).bind fun ds σ1 => newT ds σ1 := by rw [ev] <;> rfl
@[simp] theorem ev_lst {mu : Bool} {es : List Ex} : ev Φ (.lst mu es) ρ σ = (evs Φ es ρ σ).bind fun ds σ1 => newL mu ds σ1 := by rw [ev] <;> rfl
@[simp] theorem ev_dic {mu : Bool} {es : List Ex} : ev Φ (.dic mu es) ρ σ = (evs Φ es ρ σ).bind fun ds σ1 => match pairUp ds with
    | some kvs => if kvs.length ≤ 15 then newD mu ((mergeD [] kvs).map (·.1)) ((mergeD [] kvs).map (·.2)) σ1 else .bad
    | none => .bad := by rw [ev] <;> rfl
@[simp] theorem ev_star {a : Ex} : ev Φ (.star a) ρ σ = ev Φ a ρ σ := by rw [ev] <;> rfl
@[simp] theorem ev_idx {a b : Ex} : ev Φ (.idx a b) ρ σ = (ev Φ a ρ σ).bind fun x σ1 => (ev Φ b ρ σ1).bind fun y σ2 => idxD x y σ2 := by rw [ev] <;> rfl
@[simp] theorem ev_slice {mu : Bool} {a lo hi : Ex} : ev Φ (.slice mu a lo hi) ρ σ = (ev Φ a ρ σ).bind fun x σ1 => (ev Φ lo ρ σ1).bind fun l σ2 => if (optI l).isSome then (ev Φ hi ρ σ2).bind fun h σ3 => if (optI h).isSome then sliceD mu x l h σ3 else .bad else .bad := by rw [ev] <;> rfl
@[simp] theorem ev_rev {mu : Bool} {a : Ex} : ev Φ (.rev mu a) ρ σ = (ev Φ a ρ σ).bind fun x σ1 => revD mu x σ1 := by rw [ev] <;> rfl
@[simp] theorem ev_call {f : Nat} {es ks : List Ex} {dv : List D} {pm : List Nat} : ev Φ (.call f es ks dv pm) ρ σ = (evs Φ es ρ σ).bind fun xs σ1 => (evs Φ ks ρ σ1).bind fun ys σ2 => match permD (xs ++ ys ++ dv) pm with
    | some ds => Φ f ds σ2
    | none => .bad := by rw [ev] <;> rfl
@[simp] theorem ev_bi {b : Bi} {mu : Bool} {a : Ex} : ev Φ (.bi b mu a) ρ σ = (ev Φ a ρ σ).bind fun x σ1 => biD b mu x σ1 := by rw [ev] <;> rfl
@[simp] theorem ev_isi {a : Ex} {ts : List Ty} : ev Φ (.isi a ts) ρ σ = (ev Φ a ρ σ).bind fun x σ1 => isiD ts x σ1 := by rw [ev] <;> rfl
@[simp] theorem ev_me {m : Me} {o : Ex} {es : List Ex} : ev Φ (.me m o es) ρ σ = (ev Φ o ρ σ).bind fun x σ1 => if meOk m (view σ1 x) then (evs Φ es ρ σ1).bind fun ds σ2 => meD m x ds σ2 else .bad := by rw [ev] <;> rfl
@[simp] theorem ev_comp {mu : Bool} {own : List Nat} {t : Tg} {k : IK} {its : List Ex} {c elt : Ex} : ev Φ (.comp mu own t k its c elt) ρ σ = (evs Φ its ρ σ).bind fun ds σ1 => match itemsOf σ1 k ds with
    | some xs => (compL t (ev Φ c) (ev Φ elt) (wipeE ρ own) xs [] σ1).bind fun ys σ2 => newL mu ys σ2
    | none => .bad := by rw [ev] <;> rfl
@[simp] theorem evs_nil : evs Φ [] ρ σ = .ok [] σ := by rw [evs] <;> rfl
@[simp] theorem evs_cons' {e : Ex} {es : List Ex} : evs Φ (e :: es) ρ σ = (ev Φ e ρ σ).bind fun x σ1 => match splice e.isStar x σ1 with
    | some xs => (evs Φ es ρ σ1).bind fun ds σ2 => .ok (xs ++ ds) σ2
    | none => .bad := by rw [evs] <;> rfl
@[simp] theorem splice_f {x : D} : splice false x σ = some [x] := (rfl)
@[simp] theorem splice_t {x : D} : splice true x σ = match view σ x with
    | .lst xs => some xs
    | .tup xs => some xs
    | _ => none := rfl
@[simp] theorem perm_nil {ds : List D} : permD ds [] = some [] := (rfl)
@[simp] theorem perm_cons {ds : List D} {i : Nat} {pm : List Nat} : permD ds (i :: pm) = (ds[i]?).bind fun x => (permD ds pm).bind fun r => some (x :: r) := by
  unfold permD; rw [List.mapM_cons]; rfl
@[simp] theorem it_lst {xs : List D} : itemsOf σ .on [.lst xs] = some xs := (rfl)
@[simp] theorem it_ro {xs : List D} : itemsOf σ .on [.ro xs] = some xs := (rfl)
@[simp] theorem it_tup {xs : List D} : itemsOf σ .on [.tup xs] = some xs := (rfl)
@[simp] theorem it_str {x : Str} : itemsOf σ .on [.str x] = some (x.cps.toList.map fun c => D.str ⟨#[c]⟩) := (rfl)
theorem it_rng {n : Int} (h : n < 2 ^ 62 ∧ -(2 ^ 62) ≤ n) : itemsOf σ .rng [.int n] = some ((List.range n.toNat).map fun (i : Nat) => D.int (i : Int)) := if_pos h
@[simp] theorem tg_nm {i : Nat} {d : D} : tgD (.nm i) d ρ = some (ρ.set i (some d)) := (rfl)
@[simp] theorem tg_tup {is : List Nat} {ds : List D} : tgD (.tup is) (.tup ds) ρ = setAll is ds ρ := (rfl)
@[simp] theorem isi_str {ts : List Ty} {x : Str} : isiD ts (.str x) σ = .ok (.bl (ts.any fun t => isTy t (.str x))) σ := (rfl)
@[simp] theorem isi_tup {ts : List Ty} {x : List D} : isiD ts (.tup x) σ = .ok (.bl (ts.any fun t => isTy t (.tup x))) σ := (rfl)
@[simp] theorem isi_int {ts : List Ty} {x : Int} : isiD ts (.int x) σ = .ok (.bl (ts.any fun t => isTy t (.int x))) σ := (rfl)
@[simp] theorem isi_lst {ts : List Ty} {x : List D} : isiD ts (.lst x) σ = .ok (.bl (ts.any fun t => isTy t (.lst x))) σ := (rfl)
@[simp] theorem ty_ss {x : Str} : isTy .str (.str x) = true := (rfl)
@[simp] theorem ty_st {x : List D} : isTy .str (.tup x) = false := (rfl)
@[simp] theorem ty_ts {x : Str} : isTy .tup (.str x) = false := (rfl)
@[simp] theorem ty_tt {x : List D} : isTy .tup (.tup x) = true := (rfl)
@[simp] theorem opt_non : optI .non = some none := (rfl)
@[simp] theorem opt_int {i : Int} : optI (.int i) = some (some i) := (rfl)
@[simp] theorem mo_join {x : Str} : meOk .join (.str x) = true := (rfl)
@[simp] theorem mo_app {x : List D} : meOk .append (.lst x) = true := (rfl)
@[simp] theorem mo_pop {x : List D} : meOk .pop (.lst x) = true := (rfl)
@[simp] theorem mo_ext {x : List D} : meOk .extend (.lst x) = true := (rfl)
@[simp] theorem mo_get {k : List Key} {x : List D} : meOk .get (.dic k x) = true := (rfl)
/-! operators -/
@[simp] theorem b_add {i j : Int} : binD .add (.int i) (.int j) σ = .ok (.int (i + j)) σ := (rfl)
@[simp] theorem b_sub {i j : Int} : binD .sub (.int i) (.int j) σ = .ok (.int (i - j)) σ := (rfl)
theorem b_mul {i j : Int} (h : mulOk i j = true) : binD .mul (.int i) (.int j) σ = .ok (.int (i * j)) σ := if_pos h
theorem b_fdiv {i j : Int} (h : j ≠ 0 ∧ j.natAbs < 1073741824) : binD .fdiv (.int i) (.int j) σ = .ok (.int (i.fdiv j)) σ := if_pos h
theorem b_mod {i j : Int} (h : j ≠ 0) : binD .mod (.int i) (.int j) σ = .ok (.int (i.fmod j)) σ := if_pos h
theorem b_pow {i j : Int} (h : 0 ≤ j ∧ j ≤ 1000000 ∧ i.natAbs < 2 ^ 64) : binD .pow (.int i) (.int j) σ = .ok (.int (i ^ j.toNat)) σ := if_pos h
theorem b_adds {x y : Str} (h : x.length + y.length ≤ lim) : binD .add (.str x) (.str y) σ = .ok (.str (x ++ y)) σ := if_pos h
@[simp] theorem b_addl {x y : List D} : binD .add (.lst x) (.lst y) σ = newL false (x ++ y) σ := (rfl)
@[simp] theorem b_addt {x y : List D} : binD .add (.tup x) (.tup y) σ = newT (x ++ y) σ := (rfl)
@[simp] theorem c_eqi {i j : Int} : cmpD .eq (.int i) (.int j) σ = .ok (.bl (decide (i = j))) σ := (rfl)
@[simp] theorem c_eqs {i j : Str} : cmpD .eq (.str i) (.str j) σ = .ok (.bl (decide (i = j))) σ := (rfl)
@[simp] theorem c_nei {i j : Int} : cmpD .ne (.int i) (.int j) σ = .ok (.bl (!decide (i = j))) σ := (rfl)
@[simp] theorem c_nes {i j : Str} : cmpD .ne (.str i) (.str j) σ = .ok (.bl (!decide (i = j))) σ := (rfl)
@[simp] theorem c_lti {i j : Int} : cmpD .lt (.int i) (.int j) σ = .ok (.bl (decide (i < j))) σ := (rfl)
@[simp] theorem c_lei {i j : Int} : cmpD .le (.int i) (.int j) σ = .ok (.bl (decide (i ≤ j))) σ := (rfl)
@[simp] theorem c_gti {i j : Int} : cmpD .gt (.int i) (.int j) σ = .ok (.bl (decide (j < i))) σ := (rfl)
@[simp] theorem c_gei {i j : Int} : cmpD .ge (.int i) (.int j) σ = .ok (.bl (decide (j ≤ i))) σ := (rfl)
@[simp] theorem c_les {i j : Str} : cmpD .le (.str i) (.str j) σ = .ok (.bl (!strLt j i)) σ := (rfl)
@[simp] theorem c_ins {i j : Str} : cmpD .isin (.str i) (.str j) σ = .ok (.bl (!(Builtin.Str.occurrences j i 0 j.length 1).isEmpty)) σ := (rfl)
@[simp] theorem i_tup {xs : List D} {i : Int} : idxD (.tup xs) (.int i) σ = match atI xs i with
    | some d => .ok d σ
    | none => .bad := rfl
@[simp] theorem i_lst {xs : List D} {i : Int} : idxD (.lst xs) (.int i) σ = match atI xs i with
    | some d => .ok d σ
    | none => .bad := rfl
@[simp] theorem sl_tup' {mu : Bool} {xs : List D} {l h : D} {lo hi : Option Int} (h1 : optI l = some lo) (h2 : optI h = some hi) : sliceD mu (.tup xs) l h σ = newT (cutL xs lo hi) σ := by unfold sliceD; rw [h1, h2]; rfl
theorem sl_str' {mu : Bool} {x : Str} {l h : D} {lo hi : Option Int} (hx : x.length ≤ lim) (h1 : optI l = some lo) (h2 : optI h = some hi) : sliceD mu (.str x) l h σ = .ok (.str ⟨(cutL x.cps.toList lo hi).toArray⟩) σ := by unfold sliceD; rw [h1, h2]; exact if_pos hx
@[simp] theorem bi_lenl {mu : Bool} {xs : List D} : biD .len mu (.lst xs) σ = .ok (.int xs.length) σ := (rfl)
@[simp] theorem bi_lent {mu : Bool} {xs : List D} : biD .len mu (.tup xs) σ = .ok (.int xs.length) σ := (rfl)
theorem bi_lens {mu : Bool} {x : Str} (h : x.length ≤ lim) : biD .len mu (.str x) σ = .ok (.int x.length) σ := if_pos h
@[simp] theorem bi_listl {mu : Bool} {xs : List D} : biD .list mu (.lst xs) σ = newL mu xs σ := (rfl)
@[simp] theorem bi_listt {mu : Bool} {xs : List D} : biD .list mu (.tup xs) σ = newL mu xs σ := (rfl)
@[simp] theorem bi_listd {mu : Bool} {ks : List Key} {xs : List D} : biD .list mu (.dic ks xs) σ = newL mu (ks.map keyD) σ := (rfl)
@[simp] theorem bi_tupl {mu : Bool} {xs : List D} : biD .tuple mu (.lst xs) σ = newT xs σ := (rfl)
@[simp] theorem bi_int {mu : Bool} {i : Int} : biD .int mu (.int i) σ = .ok (.int i) σ := (rfl)
@[simp] theorem ex_asg {t : Tg} {e : Ex} : ex Φ (.asg t e) ρ σ = Out.of (ev Φ e ρ σ) fun x σ1 => match tgD t x ρ with
    | some ρ1 => .nx ρ1 σ1
    | none => .bad := by rw [ex] <;> rfl
@[simp] theorem ex_par {i j : Nat} {a b : Ex} : ex Φ (.par i j a b) ρ σ = Out.of (ev Φ a ρ σ) fun x σ1 => Out.of (ev Φ b ρ σ1) fun y σ2 => .nx ((ρ.set i (some x)).set j (some y)) σ2 := by rw [ex] <;> rfl
@[simp] theorem ex_put {o k e : Ex} : ex Φ (.put o k e) ρ σ = Out.of (ev Φ e ρ σ) fun x σ1 => Out.of (ev Φ o ρ σ1) fun y σ2 => Out.of (ev Φ k ρ σ2) fun z σ3 => match putAt y z x σ3 with
    | some σ4 => .nx ρ σ4
    | none => .bad := by rw [ex] <;> rfl
@[simp] theorem ex_exp {e : Ex} : ex Φ (.exp e) ρ σ = Out.of (ev Φ e ρ σ) fun _ σ1 => .nx ρ σ1 := by rw [ex] <;> rfl
@[simp] theorem ex_ret {e : Ex} : ex Φ (.ret e) ρ σ = Out.of (ev Φ e ρ σ) fun x σ1 => .rt x σ1 := by rw [ex] <;> rfl
@[simp] theorem ex_ite {c : Ex} {a b : List Stt} : ex Φ (.ite c a b) ρ σ = Out.of (ev Φ c ρ σ) fun x σ1 => tb (truthD (view σ1 x)) (exs Φ a ρ σ1) (exs Φ b ρ σ1) .bad := by rw [ex] <;> rfl
@[simp] theorem ex_whl {c : Ex} {b : List Stt} : ex Φ (.whl c b) ρ σ = whlN (ev Φ c) (exs Φ b) whFuel ρ σ := by rw [ex] <;> rfl
@[simp] theorem ex_for {t : Tg} {k : IK} {its : List Ex} {b : List Stt} : ex Φ (.for t k its b) ρ σ = Out.of (evs Φ its ρ σ) fun ds σ1 => match itemsOf σ1 k ds with
    | some xs => forL t (exs Φ b) xs ρ σ1
    | none => .bad := by rw [ex] <;> rfl
@[simp] theorem ex_brk : ex Φ .brk ρ σ = .bk ρ σ := by rw [ex] <;> rfl
@[simp] theorem ex_cont : ex Φ .cont ρ σ = .ct ρ σ := by rw [ex] <;> rfl
@[simp] theorem ex_pass : ex Φ .pass ρ σ = .nx ρ σ := by rw [ex] <;> rfl
@[simp] theorem ex_frz {i : Nat} : ex Φ (.frz i) ρ σ = match ρ[i]? with
    | some (some (.ref n)) => match σ[n]? with
      | some (.lst xs) => .nx (ρ.set i (some (.lst xs))) (σ.set n .dead)
      | some (.dic ks vs) => .nx (ρ.set i (some (.dic ks vs))) (σ.set n .dead)
      | _ => .bad
    | _ => .bad := by rw [ex] <;> rfl
@[simp] theorem exs_nil : exs Φ [] ρ σ = .nx ρ σ := by rw [exs] <;> rfl
@[simp] theorem exs_cons {s : Stt} {ss : List Stt} : exs Φ (s :: ss) ρ σ = (ex Φ s ρ σ).then (fun ρ σ => exs Φ ss ρ σ) := by
  rw [exs]; cases ex Φ s ρ σ <;> rfl
end
theorem strs_of_map {α : Type} (f : α → Str) : ∀ xs : List α, strsOf (xs.map fun x => D.str (f x)) = some (xs.map f)
  | [] => rfl
  | x :: r => by rw [List.map_cons, strsOf, strs_of_map f r]; rfl
theorem ints_of_map {α : Type} (f : α → Int) : ∀ xs : List α, intsOf (xs.map fun x => D.int (f x)) = some (xs.map f)
  | [] => rfl
  | x :: r => by rw [List.map_cons, intsOf, ints_of_map f r]; rfl
theorem bls_of_map {α : Type} (f : α → Bool) : ∀ xs : List α, blsOf (xs.map fun x => D.bl (f x)) = some (xs.map f)
  | [] => rfl
  | x :: r => by rw [List.map_cons, blsOf, bls_of_map f r]; rfl
theorem me_join {x : Str} {xs : List D} {ss : List Str} {σ : Store} (h : strsOf xs = some ss) (hl : (ss.map (·.length)).sum + ss.length * x.length ≤ lim) : meD .join (.str x) [.lst xs] σ = .ok (.str (Txt.join x ss)) σ := by
  unfold meD
  simp only [view_lst, h]
  exact if_pos hl
theorem bi_sum {mu : Bool} {xs : List D} {ns : List Int} {σ : Store} (h : intsOf xs = some ns) : biD .sum mu (.lst xs) σ = .ok (.int ns.sum) σ := by
  unfold biD
  simp only [view_lst, h]
theorem bi_all {mu : Bool} {xs : List D} {ns : List Bool} {σ : Store} (h : blsOf xs = some ns) : biD .all mu (.lst xs) σ = .ok (.bl (ns.all id)) σ := by
  unfold biD
  simp only [view_lst, h]
theorem bi_sorted {mu : Bool} {xs : List D} {ss : List Str} {σ : Store} (h : strsOf xs = some ss) : biD .sorted mu (.lst xs) σ = newL mu ((sortS ss).map D.str) σ := by
  unfold biD
  simp only [view_lst, h]
theorem bi_sortedd {mu : Bool} {ks : List Key} {xs : List D} {ss : List Str} {σ : Store} (h : strsOf (ks.map keyD) = some ss) : biD .sorted mu (.dic ks xs) σ = newL mu ((sortS ss).map D.str) σ := by
  unfold biD
  simp only [view_dic, h]
theorem bi_sorteds {mu : Bool} {ss : List Str} {σ : Store} : biD .sorted mu (.set ss) σ = newL mu ((sortS ss).map D.str) σ := (rfl)
theorem bi_set {mu : Bool} {xs : List D} {ss : List Str} {σ : Store} (h : strsOf xs = some ss) (hl : ss.length < 1000) : biD .set mu (.lst xs) σ = .ok (.set ss.eraseDups) σ := by
  unfold biD
  simp only [view_lst, h]
  exact if_pos hl
@[simp] theorem atI_zero {α : Type} {x : α} {r : List α} : atI (x :: r) 0 = some x := by
  unfold atI; simp [ixN]
end Iv

set_option Elab.async false
set_option linter.all false
/-! plain values: comparing them, showing them -/
namespace Iv
open PySem L2
mutual
/-- plain values; with b = true also the ints are showable -/
def D.sim (b : Bool) : D → Bool
  | .non => true
  | .bl _ => true
  | .int i => !b || decide (i.natAbs.log2 < 1920)
  | .str x => PyData.strOk x
  | .tup xs => D.sims b xs
  | .lst xs => D.sims b xs
  | _ => false
def D.sims (b : Bool) : List D → Bool
  | [] => true
  | d :: ds => D.sim b d && D.sims b ds
end
mutual
def D.wt : D → Nat
  | .int i => (((toString i : String) : Str)).length
  | .str x => 10 * x.length + 2
  | .tup xs => 3 + D.wts xs
  | .lst xs => 3 + D.wts xs
  | _ => 5
def D.wts : List D → Nat
  | [] => 0
  | d :: ds => D.wt d + 2 + D.wts ds
end
mutual
def D.dp : D → Nat
  | .tup xs => D.dps xs + 1
  | .lst xs => D.dps xs + 1
  | _ => 0
def D.dps : List D → Nat
  | [] => 0
  | d :: ds => max (D.dp d) (D.dps ds)
end
theorem strok_lt {x : Str} (h : PyData.strOk x = true) : ∀ c ∈ x.cps.toList, c < 16 ^ 8 := by
  intro c hc
  unfold PyData.strOk at h
  rw [← Array.all_toList, List.all_eq_true] at h
  have := h c hc
  rw [decide_eq_true_eq] at this
  omega
mutual
theorem sim_all {b : Bool} : ∀ d : D, D.sim b d = true → d.pure = true ∧ d.py.canLay0 = true ∧ d.py.depth = d.dp ∧ (b = true → d.py.showable = true ∧ d.py.shown.length ≤ d.wt)
  | .non, _ => ⟨by unfold D.pure; rfl, by unfold D.py PyData.canLay0; rfl, by unfold D.py D.dp PyData.depth; rfl, fun _ => ⟨by unfold D.py PyData.showable; rfl, by unfold D.py D.wt; rw [PyData.shown_none]; decide +kernel⟩⟩
  | .bl c, _ => ⟨by unfold D.pure; rfl, by unfold D.py PyData.canLay0; rfl, by unfold D.py D.dp PyData.depth; rfl, fun _ => ⟨by unfold D.py PyData.showable; rfl, by unfold D.py D.wt; rw [PyData.shown_bool]; cases c <;> decide +kernel⟩⟩
  | .int i, h => ⟨by unfold D.pure; rfl, by unfold D.py PyData.canLay0; rfl, by unfold D.py D.dp PyData.depth; rfl, fun e => by
    subst e
    unfold D.sim at h
    exact ⟨by unfold D.py PyData.showable; simpa using h, by unfold D.py D.wt; rw [PyData.shown_int]; exact Nat.le_refl _⟩⟩
  | .str x, h => ⟨by unfold D.pure; rfl, by unfold D.py PyData.canLay0; unfold D.sim at h; exact h, by unfold D.py D.dp PyData.depth; rfl, fun _ => ⟨by unfold D.py PyData.showable; rfl, by
      unfold D.sim at h
      unfold D.py D.wt; rw [PyData.shown_str]; exact StrLaws.reprText_len x (strok_lt h)⟩⟩
  | .tup xs, h => by
    unfold D.sim at h
    obtain ⟨h1, h2, h3, h4⟩ := sims_all xs h
    refine ⟨by unfold D.pure; exact h1, by unfold D.py PyData.canLay0; exact h2, by unfold D.py D.dp PyData.depth; rw [h3], fun e => ⟨by unfold D.py PyData.showable; exact (h4 e).1, ?_⟩⟩
    unfold D.py D.wt
    rw [PyData.shown_tuple, Str.length_append, Str.length_append]
    have hj := StrLaws.join_length_le ", " (PyData.shownAll (D.pys xs))
    have h5 := (h4 e).2
    have e1 : (", " : Str).length = 2 := by decide +kernel
    have e2 : ("(" : Str).length = 1 := by decide +kernel
    have e3 : ∀ b : Bool, (((if b then ",)" else ")" : String)) : Str).length ≤ 2 := by decide +kernel
    have e4 := e3 ((D.pys xs).length == 1)
    rw [e1] at hj
    rw [e2]
    omega
  | .lst xs, h => by
    unfold D.sim at h
    obtain ⟨h1, h2, h3, h4⟩ := sims_all xs h
    refine ⟨by unfold D.pure; exact h1, by unfold D.py PyData.canLay0; exact h2, by unfold D.py D.dp PyData.depth; rw [h3], fun e => ⟨by unfold D.py PyData.showable; exact (h4 e).1, ?_⟩⟩
    unfold D.py D.wt
    rw [PyData.shown_list, Str.length_append, Str.length_append]
    have hj := StrLaws.join_length_le ", " (PyData.shownAll (D.pys xs))
    have h5 := (h4 e).2
    have e1 : (", " : Str).length = 2 := by decide +kernel
    have e2 : ("[" : Str).length = 1 := by decide +kernel
    have e3 : ("]" : Str).length = 1 := by decide +kernel
    rw [e1] at hj
    rw [e2, e3]
    omega
  | .dic _ _, h => by simp [D.sim] at h
  | .set _, h => by simp [D.sim] at h
  | .ro _, h => by simp [D.sim] at h
  | .ref _, h => by simp [D.sim] at h
theorem sims_all {b : Bool} : ∀ ds : List D, D.sims b ds = true → D.pures ds = true ∧ PyData.canLayAll0 (D.pys ds) = true ∧ PyData.depthAll (D.pys ds) = D.dps ds ∧ (b = true → PyData.showableAll (D.pys ds) = true ∧ ((PyData.shownAll (D.pys ds)).map (·.length)).sum + (PyData.shownAll (D.pys ds)).length * 2 ≤ D.wts ds)
  | [], _ => ⟨by unfold D.pures; rfl, by unfold D.pys PyData.canLayAll0; rfl, by unfold D.pys D.dps PyData.depthAll; rfl, fun _ => ⟨by unfold D.pys PyData.showableAll; rfl, by unfold D.pys D.wts; rw [PyData.shownAll_nil]; decide⟩⟩
  | d :: ds, h => by
    unfold D.sims at h
    rw [Bool.and_eq_true] at h
    obtain ⟨a1, a2, a3, a4⟩ := sim_all d h.1
    obtain ⟨b1, b2, b3, b4⟩ := sims_all ds h.2
    refine ⟨by unfold D.pures; rw [a1, b1]; rfl, by unfold D.pys PyData.canLayAll0; rw [a2, b2]; rfl, by unfold D.pys D.dps PyData.depthAll; rw [a3, b3], fun e => ⟨by unfold D.pys PyData.showableAll; rw [(a4 e).1, (b4 e).1]; rfl, ?_⟩⟩
    unfold D.pys D.wts
    rw [PyData.shownAll_cons]
    simp only [List.map_cons, List.sum_cons, List.length_cons]
    have := (a4 e).2
    have := (b4 e).2
    omega
end
theorem reprOk_of {d : D} (h : D.sim true d = true) (hw : d.wt ≤ lim) (hd : d.dp ≤ 100) : reprOk d = true := by
  obtain ⟨h1, h2, h3, h4⟩ := sim_all d h
  obtain ⟨h5, h6⟩ := h4 rfl
  unfold reprOk
  rw [h1, h5, h3, decide_eq_true (Nat.le_trans h6 hw), decide_eq_true hd]
  rfl
theorem cmpable_of {b : Bool} {d : D} (h : D.sim b d = true) (hd : d.dp ≤ 64) : cmpable d = true := by
  obtain ⟨h1, h2, h3, h4⟩ := sim_all d h
  unfold cmpable
  rw [h1, h2, h3, decide_eq_true hd]
  rfl
theorem bi_repr {mu : Bool} {d : D} {σ : Store} (hv : view σ d = d) (h : reprOk d = true) : biD .repr mu d σ = .ok (.str d.py.shown) σ := by
  unfold biD
  cases d <;> simp_all
theorem eqv_nil (xs : List D) : PyData.eqv (.list (D.pys xs)) (.list []) = xs.isEmpty := by
  cases xs with
  | nil => unfold D.pys PyData.eqv PyData.eqvAll; rfl
  | cons d ds => unfold D.pys PyData.eqv PyData.eqvAll; rfl
theorem cmp_nil {b : Bool} {xs : List D} (h : D.sims b xs = true) (hd : D.dps xs ≤ 63) : cmpable (.lst xs) = true ∧ cmpable (.lst []) = true ∧ PyData.eqv (D.py (.lst xs)) (D.py (.lst [])) = xs.isEmpty := by
  refine ⟨cmpable_of (b := b) (by unfold D.sim; exact h) (by unfold D.dp; omega), by decide +kernel, ?_⟩
  unfold D.py
  rw [show D.pys [] = [] by unfold D.pys; rfl]
  exact eqv_nil xs
theorem c_eqnil {b : Bool} {x : D} {xs : List D} {σ : Store} (hv : view σ x = .lst xs) (h : D.sims b xs = true) (hd : D.dps xs ≤ 63) : cmpD .eq x (.lst []) σ = .ok (.bl xs.isEmpty) σ := by
  obtain ⟨h1, h2, h3⟩ := cmp_nil h hd
  unfold cmpD
  rw [hv, view_lst]
  dsimp only
  rw [h1, h2, h3]
  rfl
theorem c_nenil {b : Bool} {x : D} {xs : List D} {σ : Store} (hv : view σ x = .lst xs) (h : D.sims b xs = true) (hd : D.dps xs ≤ 63) : cmpD .ne x (.lst []) σ = .ok (.bl (!xs.isEmpty)) σ := by
  obtain ⟨h1, h2, h3⟩ := cmp_nil h hd
  unfold cmpD
  rw [hv, view_lst]
  dsimp only
  rw [h1, h2, h3]
  rfl
theorem sims_map {α : Type} {b : Bool} {f : α → D} : ∀ {xs : List α}, (∀ x ∈ xs, D.sim b (f x) = true) → D.sims b (xs.map f) = true
  | [], _ => by unfold List.map D.sims; rfl
  | x :: r, h => by
    unfold List.map D.sims
    rw [h x List.mem_cons_self, sims_map fun y hy => h y (List.mem_cons_of_mem _ hy)]
    rfl
theorem dps_map {α : Type} {n : Nat} {f : α → D} : ∀ {xs : List α}, (∀ x ∈ xs, (f x).dp ≤ n) → D.dps (xs.map f) ≤ n
  | [], _ => by unfold List.map D.dps; exact Nat.zero_le _
  | x :: r, h => by
    unfold List.map D.dps
    have a := h x List.mem_cons_self
    have b := dps_map fun y hy => h y (List.mem_cons_of_mem _ hy)
    exact Nat.max_le.mpr ⟨a, b⟩
theorem wts_map {α : Type} {n : Nat} {f : α → D} : ∀ {xs : List α}, (∀ x ∈ xs, (f x).wt + 2 ≤ n) → D.wts (xs.map f) ≤ xs.length * n
  | [], _ => by unfold List.map D.wts; exact Nat.zero_le _
  | x :: r, h => by
    unfold List.map D.wts
    have a := h x List.mem_cons_self
    have b := wts_map fun y hy => h y (List.mem_cons_of_mem _ hy)
    rw [List.length_cons, Nat.succ_mul]
    omega
end Iv

set_option Elab.async false
set_option linter.all false
/-! what an evaluation ends in: conditions behind it -/
namespace Iv
open PySem L2
@[irreducible] def Res.sat {α : Type} (r : Res α) (Q : α → Store → Prop) : Prop := match r with
  | .ok a σ => Q a σ
  | _ => False
@[irreducible] def Out.sat (o : Out) (N : Env → Store → Prop) (R : D → Store → Prop) : Prop := match o with
  | .nx ρ σ => N ρ σ
  | .rt d σ => R d σ
  | _ => False
section
variable {α β : Type} {Q : α → Store → Prop} {S : β → Store → Prop} {N M : Env → Store → Prop} {R : D → Store → Prop} {σ : Store} {ρ : Env}
@[simp] theorem sat_ok {a : α} : (Res.ok a σ).sat Q = Q a σ := by unfold Res.sat; rfl
@[simp] theorem sat_bad : (Res.bad : Res α).sat Q = False := by unfold Res.sat; rfl
@[simp] theorem sat_exc {c : Nat} {d : D} : (Res.exc c d σ : Res α).sat Q = False := by unfold Res.sat; rfl
theorem sat_bind {r : Res α} {f : α → Store → Res β} : (r.bind f).sat S = r.sat fun a σ => (f a σ).sat S := by unfold Res.sat; cases r <;> rfl
@[simp] theorem osat_nx : (Out.nx ρ σ).sat N R = N ρ σ := by unfold Out.sat; rfl
@[simp] theorem osat_rt {d : D} : (Out.rt d σ).sat N R = R d σ := by unfold Out.sat; rfl
theorem osat_then {o : Out} {k : Env → Store → Out} : (o.then k).sat N R = o.sat (fun ρ σ => (k ρ σ).sat N R) R := by unfold Out.sat; cases o <;> rfl
theorem osat_of {r : Res α} {f : α → Store → Out} : (Out.of r f).sat N R = r.sat fun a σ => (f a σ).sat N R := by unfold Res.sat Out.sat; cases r <;> rfl
theorem sat_fin {S : D → Store → Prop} {o : Out} {σ0 : Store} : (fin σ0 o).sat S = o.sat (fun _ σ => (leave σ0 .non σ).sat S) (fun d σ => (leave σ0 d σ).sat S) := by unfold Res.sat Out.sat; cases o <;> rfl
theorem Res.sat.mono {r : Res α} {P : α → Store → Prop} (h : r.sat P) (i : ∀ a σ, P a σ → Q a σ) : r.sat Q := by
  unfold Res.sat at *
  cases r with
  | ok a σ => exact i a σ h
  | _ => exact h
theorem Out.sat.mono {o : Out} {N' : Env → Store → Prop} {R' : D → Store → Prop} (h : o.sat N R) (i : ∀ ρ σ, N ρ σ → N' ρ σ) (j : ∀ d σ, R d σ → R' d σ) : o.sat N' R' := by
  unfold Out.sat at *
  cases o with
  | nx ρ σ => exact i ρ σ h
  | rt d σ => exact j d σ h
  | _ => exact h
theorem Res.sat.ex {r : Res α} (h : r.sat Q) : ∃ a σ, r = .ok a σ ∧ Q a σ := by
  unfold Res.sat at h
  cases r with
  | ok a σ => exact ⟨a, σ, rfl, h⟩
  | _ => exact h.elim
theorem sat_eq {r : Res α} {a : α} (h : r = .ok a σ) (q : Q a σ) : r.sat Q := by rw [h, sat_ok]; exact q
/-- a call, run -/
theorem sat_call {pr : List Fd} {k f : Nat} {fd : Fd} {ds : List D} {Q : D → Store → Prop} (h : pr[f]? = some fd) (hl : ds.length = fd.np)
    (g : (exs (callK pr k) fd.body (ds.map some ++ List.replicate (fd.ns - ds.length) none) σ).sat (fun _ σ1 => (leave σ .non σ1).sat Q) (fun d σ1 => (leave σ d σ1).sat Q)) : (callK pr (k + 1) f ds σ).sat Q := by
  rw [callK_run h hl, sat_fin]; exact g
/-- for: over items that are images -/
theorem osat_for {γ : Type} {t : Tg} {b : Env → Store → Out} (g : γ → D) (I : List γ → Env → Store → Prop) {xs : List γ} (h0 : I xs ρ σ)
    (hs : ∀ x r ρ σ, I (x :: r) ρ σ → ∃ ρ1, tgD t (g x) ρ = some ρ1 ∧ (b ρ1 σ).sat (I r) R) (hd : ∀ ρ σ, I [] ρ σ → N ρ σ) : (forL t b (xs.map g) ρ σ).sat N R := by
  induction xs generalizing ρ σ with
  | nil => rw [List.map_nil, forL, osat_nx]; exact hd ρ σ h0
  | cons x r ih =>
    obtain ⟨ρ1, e, h⟩ := hs x r ρ σ h0
    rw [List.map_cons, forL, e]
    dsimp only
    cases q : b ρ1 σ with
    | nx ρ2 σ2 => rw [q, osat_nx] at h; exact ih h
    | rt d σ2 => rw [q, osat_rt] at h; rw [osat_rt]; exact h
    | _ => rw [q] at h; unfold Out.sat at h; exact h.elim
/-- .. told by numbers -/
theorem osat_forN {γ : Type} {t : Tg} {b : Env → Store → Out} (g : γ → D) {xs : List γ} (I : Nat → Env → Store → Prop) (h0 : I 0 ρ σ)
    (hs : ∀ i (h : i < xs.length) ρ σ, I i ρ σ → ∃ ρ1, tgD t (g xs[i]) ρ = some ρ1 ∧ (b ρ1 σ).sat (I (i + 1)) R) (hd : ∀ ρ σ, I xs.length ρ σ → N ρ σ) : (forL t b (xs.map g) ρ σ).sat N R := by
  refine osat_for g (fun r ρ σ => ∃ i, xs.drop i = r ∧ i ≤ xs.length ∧ I i ρ σ) ⟨0, rfl, Nat.zero_le _, h0⟩ ?_ ?_
  · rintro x r ρ σ ⟨i, e, hi, h⟩
    have hlt : i < xs.length := by
      have := congrArg List.length e
      rw [List.length_drop, List.length_cons] at this
      omega
    have e2 := List.drop_eq_getElem_cons hlt
    rw [e] at e2
    injection e2 with e3 e4
    obtain ⟨ρ1, h1, h2⟩ := hs i hlt ρ σ h
    subst e3
    exact ⟨ρ1, h1, h2.mono (fun ρ σ h => ⟨i + 1, e4.symm, hlt, h⟩) fun _ _ h => h⟩
  · rintro ρ σ ⟨i, e, hi, h⟩
    have : i = xs.length := by
      have := congrArg List.length e
      rw [List.length_drop, List.length_nil] at this
      omega
    subst this
    exact hd ρ σ h
theorem osat_range {t : Tg} {b : Env → Store → Out} {n : Nat} (I : Nat → Env → Store → Prop) (h0 : I 0 ρ σ)
    (hs : ∀ i, i < n → ∀ ρ σ, I i ρ σ → ∃ ρ1, tgD t (.int (i : Int)) ρ = some ρ1 ∧ (b ρ1 σ).sat (I (i + 1)) R) (hd : ∀ ρ σ, I n ρ σ → N ρ σ) : (forL t b ((List.range n).map fun (i : Nat) => D.int (i : Int)) ρ σ).sat N R := by
  refine osat_forN (fun (i : Nat) => D.int (i : Int)) I h0 (fun i h ρ σ q => ?_) (by rw [List.length_range]; exact hd)
  rw [List.getElem_range]
  exact hs i (by rwa [List.length_range] at h) ρ σ q
/-- a comprehension, its items told one by one -/
theorem sat_comp {γ : Type} {t : Tg} {c elt : Env → Store → Res D} (g : γ → D) (I : List γ → List D → Store → Prop) {Q : List D → Store → Prop} {xs : List γ} {acc : List D} (h0 : I xs acc σ)
    (hs : ∀ x r acc σ, I (x :: r) acc σ → ∃ ρ1, tgD t (g x) ρ = some ρ1 ∧ (c ρ1 σ).sat fun b σ1 => ∃ b', truthD (view σ1 b) = some b' ∧ if b' then acc.length < lim ∧ (elt ρ1 σ1).sat (fun v σ2 => I r (acc ++ [v]) σ2) else I r acc σ1)
    (hd : ∀ acc σ, I [] acc σ → Q acc σ) : (compL t c elt ρ (xs.map g) acc σ).sat Q := by
  induction xs generalizing acc σ with
  | nil => rw [List.map_nil, compL, sat_ok]; exact hd acc σ h0
  | cons x r ih =>
    obtain ⟨ρ1, e, h⟩ := hs x r acc σ h0
    rw [List.map_cons, compL, e]
    dsimp only
    obtain ⟨b, σ1, e1, b', e2, h⟩ := h.ex
    rw [e1]
    dsimp only
    rw [e2]
    cases b' with
    | false => exact ih h
    | true =>
      rw [if_pos rfl] at h
      obtain ⟨v, σ2, e3, h3⟩ := h.2.ex
      dsimp only
      rw [e3]
      dsimp only
      rw [if_pos h.1]
      exact ih h3
end
end Iv

set_option Elab.async false
set_option linter.all false
/-! the evaluator in frames: each waits for one outcome; nothing is looked into before it is there -/
namespace Iv
open PySem L2
variable {Φ : CallSem} {ρ : Env} {σ : Store}
/-! statements -/
def thenS (Φ : CallSem) (ss : List Stt) (o : Out) : Out := o.then fun ρ σ => exs Φ ss ρ σ
theorem thenS_nx {ss : List Stt} : thenS Φ ss (.nx ρ σ) = exs Φ ss ρ σ := (rfl)
theorem thenS_rt {ss : List Stt} {d : D} : thenS Φ ss (.rt d σ) = .rt d σ := (rfl)
theorem thenS_exc {ss : List Stt} {c : Nat} {d : D} : thenS Φ ss (.exc c d σ) = .exc c d σ := (rfl)
theorem thenS_nil {o : Out} : thenS Φ [] o = o := by cases o <;> first | rfl | (unfold thenS Out.then; exact exs_nil)
theorem fx_nil : exs Φ [] ρ σ = .nx ρ σ := exs_nil
theorem fx_one {s : Stt} : exs Φ [s] ρ σ = ex Φ s ρ σ := by rw [exs_cons]; exact thenS_nil
theorem fx_cons {s s' : Stt} {ss : List Stt} : exs Φ (s :: s' :: ss) ρ σ = thenS Φ (s' :: ss) (ex Φ s ρ σ) := exs_cons
theorem osat_thenS {ss : List Stt} {o : Out} {N : Env → Store → Prop} {R : D → Store → Prop} (h : o.sat (fun ρ σ => (exs Φ ss ρ σ).sat N R) R) : (thenS Φ ss o).sat N R := by
  unfold thenS; rw [osat_then]; exact h
def asgT (o : Option Env) (σ : Store) : Out := match o with
  | some ρ1 => .nx ρ1 σ
  | none => .bad
theorem asgT_some {ρ1 : Env} : asgT (some ρ1) σ = .nx ρ1 σ := (rfl)
def asgK (t : Tg) (ρ : Env) (r : Res D) : Out := Out.of r fun x σ1 => asgT (tgD t x ρ) σ1
theorem asgK_ok {t : Tg} {x : D} : asgK t ρ (.ok x σ) = asgT (tgD t x ρ) σ := (rfl)
theorem asgK_exc {t : Tg} {c : Nat} {x : D} : asgK t ρ (.exc c x σ) = .exc c x σ := (rfl)
theorem fx_asg {t : Tg} {e : Ex} : ex Φ (.asg t e) ρ σ = asgK t ρ (ev Φ e ρ σ) := ex_asg
def parB (i j : Nat) (ρ : Env) (x : D) (r : Res D) : Out := Out.of r fun y σ2 => .nx ((ρ.set i (some x)).set j (some y)) σ2
def parA (Φ : CallSem) (i j : Nat) (b : Ex) (ρ : Env) (r : Res D) : Out := Out.of r fun x σ1 => parB i j ρ x (ev Φ b ρ σ1)
theorem parA_ok {i j : Nat} {b : Ex} {x : D} : parA Φ i j b ρ (.ok x σ) = parB i j ρ x (ev Φ b ρ σ) := (rfl)
theorem parB_ok {i j : Nat} {x y : D} : parB i j ρ x (.ok y σ) = .nx ((ρ.set i (some x)).set j (some y)) σ := (rfl)
theorem fx_par {i j : Nat} {a b : Ex} : ex Φ (.par i j a b) ρ σ = parA Φ i j b ρ (ev Φ a ρ σ) := ex_par
def putR (o : Option Store) (ρ : Env) : Out := match o with
  | some σ4 => .nx ρ σ4
  | none => .bad
theorem putR_some : putR (some σ) ρ = .nx ρ σ := (rfl)
def putC (ρ : Env) (x y : D) (r : Res D) : Out := Out.of r fun z σ3 => putR (putAt y z x σ3) ρ
def putB (Φ : CallSem) (k : Ex) (ρ : Env) (x : D) (r : Res D) : Out := Out.of r fun y σ2 => putC ρ x y (ev Φ k ρ σ2)
def putA (Φ : CallSem) (o k : Ex) (ρ : Env) (r : Res D) : Out := Out.of r fun x σ1 => putB Φ k ρ x (ev Φ o ρ σ1)
theorem putA_ok {o k : Ex} {x : D} : putA Φ o k ρ (.ok x σ) = putB Φ k ρ x (ev Φ o ρ σ) := (rfl)
theorem putB_ok {k : Ex} {x y : D} : putB Φ k ρ x (.ok y σ) = putC ρ x y (ev Φ k ρ σ) := (rfl)
theorem putC_ok {x y z : D} : putC ρ x y (.ok z σ) = putR (putAt y z x σ) ρ := (rfl)
theorem fx_put {o k e : Ex} : ex Φ (.put o k e) ρ σ = putA Φ o k ρ (ev Φ e ρ σ) := ex_put
def expK (ρ : Env) (r : Res D) : Out := Out.of r fun _ σ1 => .nx ρ σ1
theorem expK_ok {x : D} : expK ρ (.ok x σ) = .nx ρ σ := (rfl)
theorem expK_exc {c : Nat} {x : D} : expK ρ (.exc c x σ) = .exc c x σ := (rfl)
theorem fx_exp {e : Ex} : ex Φ (.exp e) ρ σ = expK ρ (ev Φ e ρ σ) := ex_exp
def retK (r : Res D) : Out := Out.of r fun x σ1 => .rt x σ1
theorem retK_ok {x : D} : retK (.ok x σ) = .rt x σ := (rfl)
theorem retK_exc {c : Nat} {x : D} : retK (.exc c x σ) = .exc c x σ := (rfl)
theorem fx_ret {e : Ex} : ex Φ (.ret e) ρ σ = retK (ev Φ e ρ σ) := ex_ret
def iteB (Φ : CallSem) (a b : List Stt) (ρ : Env) (σ : Store) (o : Option Bool) : Out := tb o (exs Φ a ρ σ) (exs Φ b ρ σ) .bad
def iteK (Φ : CallSem) (a b : List Stt) (ρ : Env) (r : Res D) : Out := Out.of r fun x σ1 => iteB Φ a b ρ σ1 (truthD (view σ1 x))
theorem iteB_t {a b : List Stt} : iteB Φ a b ρ σ (some true) = exs Φ a ρ σ := (rfl)
theorem iteB_f {a b : List Stt} : iteB Φ a b ρ σ (some false) = exs Φ b ρ σ := (rfl)
theorem iteK_ok {a b : List Stt} {x : D} : iteK Φ a b ρ (.ok x σ) = iteB Φ a b ρ σ (truthD (view σ x)) := (rfl)
theorem fx_ite {c : Ex} {a b : List Stt} : ex Φ (.ite c a b) ρ σ = iteK Φ a b ρ (ev Φ c ρ σ) := ex_ite
def forB (Φ : CallSem) (t : Tg) (b : List Stt) (ρ : Env) (σ : Store) (o : Option (List D)) : Out := match o with
  | some xs => forL t (exs Φ b) xs ρ σ
  | none => .bad
def forA (Φ : CallSem) (t : Tg) (k : IK) (b : List Stt) (ρ : Env) (r : Res (List D)) : Out := Out.of r fun ds σ1 => forB Φ t b ρ σ1 (itemsOf σ1 k ds)
theorem forA_ok {t : Tg} {k : IK} {b : List Stt} {ds : List D} : forA Φ t k b ρ (.ok ds σ) = forB Φ t b ρ σ (itemsOf σ k ds) := (rfl)
theorem forB_some {t : Tg} {b : List Stt} {xs : List D} : forB Φ t b ρ σ (some xs) = forL t (exs Φ b) xs ρ σ := (rfl)
theorem fx_for {t : Tg} {k : IK} {its : List Ex} {b : List Stt} : ex Φ (.for t k its b) ρ σ = forA Φ t k b ρ (evs Φ its ρ σ) := ex_for
theorem fx_pass : ex Φ .pass ρ σ = .nx ρ σ := ex_pass
def frzB (i n : Nat) (ρ : Env) (σ : Store) (c : Option Cell) : Out := match c with
  | some (.lst xs) => .nx (ρ.set i (some (.lst xs))) (σ.set n .dead)
  | some (.dic ks vs) => .nx (ρ.set i (some (.dic ks vs))) (σ.set n .dead)
  | _ => .bad
theorem frzB_l {i n : Nat} {xs : List D} : frzB i n ρ σ (some (.lst xs)) = .nx (ρ.set i (some (.lst xs))) (σ.set n .dead) := (rfl)
theorem frzB_d {i n : Nat} {ks : List Key} {xs : List D} : frzB i n ρ σ (some (.dic ks xs)) = .nx (ρ.set i (some (.dic ks xs))) (σ.set n .dead) := (rfl)
def frzA (i : Nat) (ρ : Env) (σ : Store) (o : Option (Option D)) : Out := match o with
  | some (some (.ref n)) => frzB i n ρ σ σ[n]?
  | _ => .bad
theorem frzA_ref {i n : Nat} : frzA i ρ σ (some (some (.ref n))) = frzB i n ρ σ σ[n]? := (rfl)
theorem fx_frz {i : Nat} : ex Φ (.frz i) ρ σ = frzA i ρ σ ρ[i]? := ex_frz
/-! expressions -/
def getK (o : Option (Option D)) (σ : Store) : Res D := match o with
  | some (some d) => .ok d σ
  | _ => .bad
theorem getK_s {d : D} : getK (some (some d)) σ = .ok d σ := (rfl)
theorem fv_loc {i : Nat} : ev Φ (.loc i) ρ σ = getK ρ[i]? σ := ev_loc
def binB (op : BOp) (x : D) (r : Res D) : Res D := r.bind fun y σ2 => binD op x y σ2
def binA (Φ : CallSem) (op : BOp) (b : Ex) (ρ : Env) (r : Res D) : Res D := r.bind fun x σ1 => binB op x (ev Φ b ρ σ1)
theorem binA_ok {op : BOp} {b : Ex} {x : D} : binA Φ op b ρ (.ok x σ) = binB op x (ev Φ b ρ σ) := (rfl)
theorem binB_ok {op : BOp} {x y : D} : binB op x (.ok y σ) = binD op x y σ := (rfl)
theorem fv_bin {op : BOp} {a b : Ex} : ev Φ (.bin op a b) ρ σ = binA Φ op b ρ (ev Φ a ρ σ) := ev_bin
def cmpB (op : COp) (x : D) (r : Res D) : Res D := r.bind fun y σ2 => cmpD op x y σ2
def cmpA (Φ : CallSem) (op : COp) (b : Ex) (ρ : Env) (r : Res D) : Res D := r.bind fun x σ1 => cmpB op x (ev Φ b ρ σ1)
theorem cmpA_ok {op : COp} {b : Ex} {x : D} : cmpA Φ op b ρ (.ok x σ) = cmpB op x (ev Φ b ρ σ) := (rfl)
theorem cmpB_ok {op : COp} {x y : D} : cmpB op x (.ok y σ) = cmpD op x y σ := (rfl)
theorem fv_cmp {op : COp} {a b : Ex} : ev Φ (.cmp op a b) ρ σ = cmpA Φ op b ρ (ev Φ a ρ σ) := ev_cmp
def chC (Φ : CallSem) (op' : COp) (c : Ex) (ρ : Env) (y : D) (r : Res D) : Res D := r.bind fun r σ3 => cb r (cmpB op' y (ev Φ c ρ σ3)) (.ok (.bl false) σ3)
def chB (Φ : CallSem) (op op' : COp) (c : Ex) (ρ : Env) (x : D) (r : Res D) : Res D := r.bind fun y σ2 => chC Φ op' c ρ y (cmpD op x y σ2)
def chA (Φ : CallSem) (op op' : COp) (b c : Ex) (ρ : Env) (r : Res D) : Res D := r.bind fun x σ1 => chB Φ op op' c ρ x (ev Φ b ρ σ1)
theorem chA_ok {op op' : COp} {b c : Ex} {x : D} : chA Φ op op' b c ρ (.ok x σ) = chB Φ op op' c ρ x (ev Φ b ρ σ) := (rfl)
theorem chB_ok {op op' : COp} {c : Ex} {x y : D} : chB Φ op op' c ρ x (.ok y σ) = chC Φ op' c ρ y (cmpD op x y σ) := (rfl)
theorem chC_t {op' : COp} {c : Ex} {y : D} : chC Φ op' c ρ y (.ok (.bl true) σ) = cmpB op' y (ev Φ c ρ σ) := (rfl)
theorem chC_f {op' : COp} {c : Ex} {y : D} : chC Φ op' c ρ y (.ok (.bl false) σ) = .ok (.bl false) σ := (rfl)
theorem fv_chain {op op' : COp} {a b c : Ex} : ev Φ (.chain op op' a b c) ρ σ = chA Φ op op' b c ρ (ev Φ a ρ σ) := ev_chain
def andB (Φ : CallSem) (b : Ex) (ρ : Env) (x : D) (σ : Store) (o : Option Bool) : Res D := tb o (ev Φ b ρ σ) (.ok x σ) .bad
def andK (Φ : CallSem) (b : Ex) (ρ : Env) (r : Res D) : Res D := r.bind fun x σ1 => andB Φ b ρ x σ1 (truthD (view σ1 x))
theorem andK_ok {b : Ex} {x : D} : andK Φ b ρ (.ok x σ) = andB Φ b ρ x σ (truthD (view σ x)) := (rfl)
theorem andB_t {b : Ex} {x : D} : andB Φ b ρ x σ (some true) = ev Φ b ρ σ := (rfl)
theorem andB_f {b : Ex} {x : D} : andB Φ b ρ x σ (some false) = .ok x σ := (rfl)
theorem fv_and {a b : Ex} : ev Φ (.and a b) ρ σ = andK Φ b ρ (ev Φ a ρ σ) := ev_and
def orB (Φ : CallSem) (b : Ex) (ρ : Env) (x : D) (σ : Store) (o : Option Bool) : Res D := tb o (.ok x σ) (ev Φ b ρ σ) .bad
def orK (Φ : CallSem) (b : Ex) (ρ : Env) (r : Res D) : Res D := r.bind fun x σ1 => orB Φ b ρ x σ1 (truthD (view σ1 x))
theorem orK_ok {b : Ex} {x : D} : orK Φ b ρ (.ok x σ) = orB Φ b ρ x σ (truthD (view σ x)) := (rfl)
theorem orB_t {b : Ex} {x : D} : orB Φ b ρ x σ (some true) = .ok x σ := (rfl)
theorem orB_f {b : Ex} {x : D} : orB Φ b ρ x σ (some false) = ev Φ b ρ σ := (rfl)
theorem fv_or {a b : Ex} : ev Φ (.or a b) ρ σ = orK Φ b ρ (ev Φ a ρ σ) := ev_or
def notB (σ : Store) (o : Option Bool) : Res D := match o with
  | some b => .ok (.bl (!b)) σ
  | none => .bad
def notK (r : Res D) : Res D := r.bind fun x σ1 => notB σ1 (truthD (view σ1 x))
theorem notK_ok {x : D} : notK (.ok x σ) = notB σ (truthD (view σ x)) := (rfl)
theorem notB_s {b : Bool} : notB σ (some b) = .ok (.bl (!b)) σ := (rfl)
theorem fv_not {a : Ex} : ev Φ (.not a) ρ σ = notK (ev Φ a ρ σ) := ev_not
def iteEB (Φ : CallSem) (a b : Ex) (ρ : Env) (σ : Store) (o : Option Bool) : Res D := tb o (ev Φ a ρ σ) (ev Φ b ρ σ) .bad
def iteE (Φ : CallSem) (a b : Ex) (ρ : Env) (r : Res D) : Res D := r.bind fun x σ1 => iteEB Φ a b ρ σ1 (truthD (view σ1 x))
theorem iteE_ok {a b : Ex} {x : D} : iteE Φ a b ρ (.ok x σ) = iteEB Φ a b ρ σ (truthD (view σ x)) := (rfl)
theorem iteEB_t {a b : Ex} : iteEB Φ a b ρ σ (some true) = ev Φ a ρ σ := (rfl)
theorem iteEB_f {a b : Ex} : iteEB Φ a b ρ σ (some false) = ev Φ b ρ σ := (rfl)
theorem fv_ite {c a b : Ex} : ev Φ (.ite c a b) ρ σ = iteE Φ a b ρ (ev Φ c ρ σ) := ev_ite
def tupK (r : Res (List D)) : Res D := r.bind fun ds σ1 => newT ds σ1
theorem tupK_ok {ds : List D} : tupK (.ok ds σ) = newT ds σ := (rfl)
theorem fv_tup {es : List Ex} : ev Φ (.tup es) ρ σ = tupK (evs Φ es ρ σ) := ev_tup
def lstK (mu : Bool) (r : Res (List D)) : Res D := r.bind fun ds σ1 => newL mu ds σ1
theorem lstK_ok {mu : Bool} {ds : List D} : lstK mu (.ok ds σ) = newL mu ds σ := (rfl)
theorem fv_lst {mu : Bool} {es : List Ex} : ev Φ (.lst mu es) ρ σ = lstK mu (evs Φ es ρ σ) := ev_lst
def dicB (mu : Bool) (σ : Store) (o : Option (List (Key × D))) : Res D := match o with
  | some kvs => if kvs.length ≤ 15 then newD mu ((mergeD [] kvs).map (·.1)) ((mergeD [] kvs).map (·.2)) σ else .bad
  | none => .bad
def dicK (mu : Bool) (r : Res (List D)) : Res D := r.bind fun ds σ1 => dicB mu σ1 (pairUp ds)
theorem dicK_ok {mu : Bool} {ds : List D} : dicK mu (.ok ds σ) = dicB mu σ (pairUp ds) := (rfl)
theorem dicB_some {mu : Bool} {kvs : List (Key × D)} (h : kvs.length ≤ 15) : dicB mu σ (some kvs) = newD mu ((mergeD [] kvs).map (·.1)) ((mergeD [] kvs).map (·.2)) σ := if_pos h
theorem fv_dic {mu : Bool} {es : List Ex} : ev Φ (.dic mu es) ρ σ = dicK mu (evs Φ es ρ σ) := ev_dic
theorem fv_star {a : Ex} : ev Φ (.star a) ρ σ = ev Φ a ρ σ := ev_star
def idxB (x : D) (r : Res D) : Res D := r.bind fun y σ2 => idxD x y σ2
def idxA (Φ : CallSem) (b : Ex) (ρ : Env) (r : Res D) : Res D := r.bind fun x σ1 => idxB x (ev Φ b ρ σ1)
theorem idxA_ok {b : Ex} {x : D} : idxA Φ b ρ (.ok x σ) = idxB x (ev Φ b ρ σ) := (rfl)
theorem idxB_ok {x y : D} : idxB x (.ok y σ) = idxD x y σ := (rfl)
theorem fv_idx {a b : Ex} : ev Φ (.idx a b) ρ σ = idxA Φ b ρ (ev Φ a ρ σ) := ev_idx
def slC (mu : Bool) (x l : D) (r : Res D) : Res D := r.bind fun h σ3 => if (optI h).isSome then sliceD mu x l h σ3 else .bad
def slB (Φ : CallSem) (mu : Bool) (hi : Ex) (ρ : Env) (x : D) (r : Res D) : Res D := r.bind fun l σ2 => if (optI l).isSome then slC mu x l (ev Φ hi ρ σ2) else .bad
def slA (Φ : CallSem) (mu : Bool) (lo hi : Ex) (ρ : Env) (r : Res D) : Res D := r.bind fun x σ1 => slB Φ mu hi ρ x (ev Φ lo ρ σ1)
theorem slA_ok {mu : Bool} {lo hi : Ex} {x : D} : slA Φ mu lo hi ρ (.ok x σ) = slB Φ mu hi ρ x (ev Φ lo ρ σ) := (rfl)
theorem slB_n {mu : Bool} {hi : Ex} {x : D} : slB Φ mu hi ρ x (.ok .non σ) = slC mu x .non (ev Φ hi ρ σ) := (rfl)
theorem slB_i {mu : Bool} {hi : Ex} {x : D} {i : Int} : slB Φ mu hi ρ x (.ok (.int i) σ) = slC mu x (.int i) (ev Φ hi ρ σ) := (rfl)
theorem slC_n {mu : Bool} {x l : D} : slC mu x l (.ok .non σ) = sliceD mu x l .non σ := (rfl)
theorem slC_i {mu : Bool} {x l : D} {i : Int} : slC mu x l (.ok (.int i) σ) = sliceD mu x l (.int i) σ := (rfl)
theorem fv_slice {mu : Bool} {a lo hi : Ex} : ev Φ (.slice mu a lo hi) ρ σ = slA Φ mu lo hi ρ (ev Φ a ρ σ) := ev_slice
def revK (mu : Bool) (r : Res D) : Res D := r.bind fun x σ1 => revD mu x σ1
theorem revK_ok {mu : Bool} {x : D} : revK mu (.ok x σ) = revD mu x σ := (rfl)
theorem fv_rev {mu : Bool} {a : Ex} : ev Φ (.rev mu a) ρ σ = revK mu (ev Φ a ρ σ) := ev_rev
def clC (Φ : CallSem) (f : Nat) (σ : Store) (o : Option (List D)) : Res D := match o with
  | some ds => Φ f ds σ
  | none => .bad
def clB (Φ : CallSem) (f : Nat) (dv : List D) (pm : List Nat) (xs : List D) (r : Res (List D)) : Res D := r.bind fun ys σ2 => clC Φ f σ2 (permD (xs ++ ys ++ dv) pm)
def clA (Φ : CallSem) (f : Nat) (ks : List Ex) (dv : List D) (pm : List Nat) (ρ : Env) (r : Res (List D)) : Res D := r.bind fun xs σ1 => clB Φ f dv pm xs (evs Φ ks ρ σ1)
theorem clA_ok {f : Nat} {ks : List Ex} {dv xs : List D} {pm : List Nat} : clA Φ f ks dv pm ρ (.ok xs σ) = clB Φ f dv pm xs (evs Φ ks ρ σ) := (rfl)
theorem clB_ok {f : Nat} {dv xs ys : List D} {pm : List Nat} : clB Φ f dv pm xs (.ok ys σ) = clC Φ f σ (permD (xs ++ ys ++ dv) pm) := (rfl)
theorem clC_s {f : Nat} {ds : List D} : clC Φ f σ (some ds) = Φ f ds σ := (rfl)
theorem fv_call {f : Nat} {es ks : List Ex} {dv : List D} {pm : List Nat} : ev Φ (.call f es ks dv pm) ρ σ = clA Φ f ks dv pm ρ (evs Φ es ρ σ) := ev_call
def biK (b : Bi) (mu : Bool) (r : Res D) : Res D := r.bind fun x σ1 => biD b mu x σ1
theorem biK_ok {b : Bi} {mu : Bool} {x : D} : biK b mu (.ok x σ) = biD b mu x σ := (rfl)
theorem fv_bi {b : Bi} {mu : Bool} {a : Ex} : ev Φ (.bi b mu a) ρ σ = biK b mu (ev Φ a ρ σ) := ev_bi
def isiK (ts : List Ty) (r : Res D) : Res D := r.bind fun x σ1 => isiD ts x σ1
theorem isiK_ok {ts : List Ty} {x : D} : isiK ts (.ok x σ) = isiD ts x σ := (rfl)
theorem fv_isi {a : Ex} {ts : List Ty} : ev Φ (.isi a ts) ρ σ = isiK ts (ev Φ a ρ σ) := ev_isi
def meC (m : Me) (x : D) (r : Res (List D)) : Res D := r.bind fun ds σ2 => meD m x ds σ2
def meB (Φ : CallSem) (m : Me) (es : List Ex) (ρ : Env) (x : D) (σ : Store) (b : Bool) : Res D := if b then meC m x (evs Φ es ρ σ) else .bad
def meA (Φ : CallSem) (m : Me) (es : List Ex) (ρ : Env) (r : Res D) : Res D := r.bind fun x σ1 => meB Φ m es ρ x σ1 (meOk m (view σ1 x))
theorem meA_ok {m : Me} {es : List Ex} {x : D} : meA Φ m es ρ (.ok x σ) = meB Φ m es ρ x σ (meOk m (view σ x)) := (rfl)
theorem meB_t {m : Me} {es : List Ex} {x : D} : meB Φ m es ρ x σ true = meC m x (evs Φ es ρ σ) := (rfl)
theorem meC_ok {m : Me} {x : D} {ds : List D} : meC m x (.ok ds σ) = meD m x ds σ := (rfl)
theorem fv_me {m : Me} {o : Ex} {es : List Ex} : ev Φ (.me m o es) ρ σ = meA Φ m es ρ (ev Φ o ρ σ) := ev_me
def cmC (mu : Bool) (r : Res (List D)) : Res D := r.bind fun ys σ2 => newL mu ys σ2
def cmB (Φ : CallSem) (mu : Bool) (own : List Nat) (t : Tg) (c elt : Ex) (ρ : Env) (σ : Store) (o : Option (List D)) : Res D := match o with
  | some xs => cmC mu (compL t (ev Φ c) (ev Φ elt) (wipeE ρ own) xs [] σ)
  | none => .bad
def cmA (Φ : CallSem) (mu : Bool) (own : List Nat) (t : Tg) (k : IK) (c elt : Ex) (ρ : Env) (r : Res (List D)) : Res D := r.bind fun ds σ1 => cmB Φ mu own t c elt ρ σ1 (itemsOf σ1 k ds)
theorem cmA_ok {mu : Bool} {own : List Nat} {t : Tg} {k : IK} {c elt : Ex} {ds : List D} : cmA Φ mu own t k c elt ρ (.ok ds σ) = cmB Φ mu own t c elt ρ σ (itemsOf σ k ds) := (rfl)
theorem cmB_s {mu : Bool} {own : List Nat} {t : Tg} {c elt : Ex} {xs : List D} : cmB Φ mu own t c elt ρ σ (some xs) = cmC mu (compL t (ev Φ c) (ev Φ elt) (wipeE ρ own) xs [] σ) := (rfl)
theorem cmC_ok {mu : Bool} {ys : List D} : cmC mu (.ok ys σ) = newL mu ys σ := (rfl)
theorem fv_comp {mu : Bool} {own : List Nat} {t : Tg} {k : IK} {its : List Ex} {c elt : Ex} : ev Φ (.comp mu own t k its c elt) ρ σ = cmA Φ mu own t k c elt ρ (evs Φ its ρ σ) := ev_comp
def esC (xs : List D) (r : Res (List D)) : Res (List D) := r.bind fun ds σ2 => .ok (xs ++ ds) σ2
def esB (Φ : CallSem) (es : List Ex) (ρ : Env) (σ : Store) (o : Option (List D)) : Res (List D) := match o with
  | some xs => esC xs (evs Φ es ρ σ)
  | none => .bad
def esA (Φ : CallSem) (st : Bool) (es : List Ex) (ρ : Env) (r : Res D) : Res (List D) := r.bind fun x σ1 => esB Φ es ρ σ1 (splice st x σ1)
theorem esA_f {es : List Ex} {x : D} : esA Φ false es ρ (.ok x σ) = esB Φ es ρ σ (some [x]) := (rfl)
def spl (d : D) : Option (List D) := match d with
  | .lst xs => some xs
  | .tup xs => some xs
  | _ => none
theorem spl_l {xs : List D} : spl (.lst xs) = some xs := (rfl)
theorem spl_t {xs : List D} : spl (.tup xs) = some xs := (rfl)
theorem esA_t {es : List Ex} {x : D} : esA Φ true es ρ (.ok x σ) = esB Φ es ρ σ (spl (view σ x)) := by
  show esB Φ es ρ σ (splice true x σ) = _
  rw [splice_t]; unfold spl; rfl
theorem esB_s {es : List Ex} {xs : List D} : esB Φ es ρ σ (some xs) = esC xs (evs Φ es ρ σ) := (rfl)
theorem esC_ok {xs ds : List D} : esC xs (.ok ds σ) = .ok (xs ++ ds) σ := (rfl)
theorem fvs_cons {e : Ex} {es : List Ex} : evs Φ (e :: es) ρ σ = esA Φ e.isStar es ρ (ev Φ e ρ σ) := evs_cons'
/-! loops -/
theorem fx_whl {c : Ex} {b : List Stt} : ex Φ (.whl c b) ρ σ = whlN (ev Φ c) (exs Φ b) whFuel ρ σ := ex_whl
/-- permutations of arguments, as they come -/
def prC (x : D) (o : Option (List D)) : Option (List D) := o.map (x :: ·)
theorem prC_s {x : D} {r : List D} : prC x (some r) = some (x :: r) := (rfl)
def prB (ds : List D) (pm : List Nat) (o : Option D) : Option (List D) := o.bind fun x => prC x (permD ds pm)
theorem prB_s {ds : List D} {pm : List Nat} {x : D} : prB ds pm (some x) = prC x (permD ds pm) := (rfl)
theorem pr_nil {ds : List D} : permD ds [] = some [] := (rfl)
theorem pr_cons {ds : List D} {i : Nat} {pm : List Nat} : permD ds (i :: pm) = prB ds pm ds[i]? := by
  rw [perm_cons]; unfold prB; cases ds[i]? <;> first | rfl | (cases h : permD ds pm <;> first | rfl | (simp [prC, h]))
/-! the end of a call -/
theorem fin_rt' {d : D} {σ1 : Store} : fin σ (.rt d σ1) = leave σ d σ1 := (rfl)
theorem fin_nx' {σ1 : Store} : fin σ (.nx ρ σ1) = leave σ .non σ1 := (rfl)
/-- one part of a goal that ends well, then the rest -/
theorem focus {α : Type} {r : Res α} {P : α → Store → Prop} {C : Res α → Prop} (h : r.sat P) (k : ∀ a σ, P a σ → C (.ok a σ)) : C r := by
  obtain ⟨a, σ, e, h⟩ := h.ex
  rw [e]; exact k a σ h
theorem focusO {o : Out} {N : Env → Store → Prop} {C : Out → Prop} (h : o.sat N fun _ _ => False) (k : ∀ ρ σ, N ρ σ → C (.nx ρ σ)) : C o := by
  unfold Out.sat at h
  cases o with
  | nx ρ σ => exact k ρ σ h
  | _ => exact h.elim
/-- in the midst of a def -/
theorem fsat {Φ : CallSem} {σ0 : Store} {ss : List Stt} {o : Out} {Q : D → Store → Prop} (h : o.sat (fun ρ σ => (fin σ0 (exs Φ ss ρ σ)).sat Q) (fun d σ => (leave σ0 d σ).sat Q)) : (fin σ0 (thenS Φ ss o)).sat Q := by
  unfold thenS
  rw [sat_fin, osat_then]
  refine h.mono (fun ρ σ q => ?_) fun d σ q => q
  rw [sat_fin] at q; exact q
end Iv

set_option Elab.async false
set_option linter.all false
/-! what simp may look into; small lemmas -/
namespace Iv
open PySem L2
theorem tb_t {α : Type} {a b c : α} : tb (some true) a b c = a := (rfl)
theorem tb_f {α : Type} {a b c : α} : tb (some false) a b c = b := (rfl)
theorem cb_t {a b : Res D} : cb (.bl true) a b = a := (rfl)
theorem cb_f {a b : Res D} : cb (.bl false) a b = b := (rfl)
theorem ofStr_inj {x y : String} : (Str.ofString x = Str.ofString y) = (x = y) := by
  refine propext ⟨fun h => ?_, fun h => by rw [h]⟩
  rw [Str.ofString_eq_toList, Str.ofString_eq_toList] at h
  injection h with h
  have h := congrArg Array.toList h
  have h : x.toList.map Char.toNat = y.toList.map Char.toNat := h
  have inj : ∀ a b : List Char, a.map Char.toNat = b.map Char.toNat → a = b := by
    intro a
    induction a with
    | nil => intro b h; cases b <;> first | rfl | cases h
    | cons c r ih =>
      intro b h
      cases b with
      | nil => cases h
      | cons e t =>
        rw [List.map_cons, List.map_cons] at h
        injection h with h1 h2
        rw [ih t h2, Char.toNat_inj.mp h1]
  exact String.toList_injective (inj _ _ h)
theorem lim_v : lim = 16777216 := (rfl)
theorem nl_nil {σ : Store} : newL false [] σ = .ok (.lst []) σ := (rfl)
theorem nlm_nil {σ : Store} : newL true [] σ = .ok (.ref σ.length) (σ ++ [.lst []]) := (rfl)
theorem nl_cons1 {a : D} {σ : Store} : newL false [a] σ = .ok (.lst [a]) σ := newL_f (by simp [lim_v])
theorem nt0 {σ : Store} : newT [] σ = .ok (.tup []) σ := (rfl)
theorem nt1 {a : D} {σ : Store} : newT [a] σ = .ok (.tup [a]) σ := newT_ok (by simp [lim_v])
theorem nt2 {a b : D} {σ : Store} : newT [a, b] σ = .ok (.tup [a, b]) σ := newT_ok (by simp [lim_v])
theorem nt3 {a b c : D} {σ : Store} : newT [a, b, c] σ = .ok (.tup [a, b, c]) σ := newT_ok (by simp [lim_v])
theorem nt4 {a b c d : D} {σ : Store} : newT [a, b, c, d] σ = .ok (.tup [a, b, c, d]) σ := newT_ok (by simp [lim_v])
theorem nl2 {a b : D} {σ : Store} : newL false [a, b] σ = .ok (.lst [a, b]) σ := newL_f (by simp [lim_v])
theorem nl3 {a b c : D} {σ : Store} : newL false [a, b, c] σ = .ok (.lst [a, b, c]) σ := newL_f (by simp [lim_v])
theorem nl4 {a b c d : D} {σ : Store} : newL false [a, b, c, d] σ = .ok (.lst [a, b, c, d]) σ := newL_f (by simp [lim_v])
theorem nl5 {a b c d e : D} {σ : Store} : newL false [a, b, c, d, e] σ = .ok (.lst [a, b, c, d, e]) σ := newL_f (by simp [lim_v])
theorem nl6 {a b c d e f : D} {σ : Store} : newL false [a, b, c, d, e, f] σ = .ok (.lst [a, b, c, d, e, f]) σ := newL_f (by simp [lim_v])
theorem nl7 {a b c d e f g : D} {σ : Store} : newL false [a, b, c, d, e, f, g] σ = .ok (.lst [a, b, c, d, e, f, g]) σ := newL_f (by simp [lim_v])
theorem nl8 {a b c d e f g h : D} {σ : Store} : newL false [a, b, c, d, e, f, g, h] σ = .ok (.lst [a, b, c, d, e, f, g, h]) σ := newL_f (by simp [lim_v])
theorem me_pop {n : Nat} {xs : List D} {d : D} {σ : Store} (h : σ[n]? = some (.lst (xs ++ [d]))) : meD .pop (.ref n) [] σ = .ok d (σ.set n (.lst xs)) := by
  unfold meD
  dsimp only
  rw [h]
  simp
theorem me_ext {n : Nat} {xs ys : List D} {σ : Store} (h : σ[n]? = some (.lst xs)) (hl : xs.length + ys.length ≤ lim) : meD .extend (.ref n) [.lst ys] σ = .ok .non (σ.set n (.lst (xs ++ ys))) := by
  unfold meD
  dsimp only
  rw [h]
  exact if_pos hl
theorem me_app {n : Nat} {xs : List D} {d : D} {σ : Store} (h : σ[n]? = some (.lst xs)) (hl : xs.length < lim) : meD .append (.ref n) [d] σ = .ok .non (σ.set n (.lst (xs ++ [d]))) := by
  unfold meD
  dsimp only
  rw [h]
  exact if_pos hl
theorem put_dic {n : Nat} {ks : List Key} {vs : List D} {x : Str} {d : D} {σ : Store} (h : σ[n]? = some (.dic ks vs)) (hl : ks.length < lim) : Iv.putAt (.ref n) (.str x) d σ = some (σ.set n (.dic ((putD (ks.zip vs) (.inr x) d).map (·.1)) ((putD (ks.zip vs) (.inr x) d).map (·.2)))) := by
  unfold Iv.putAt
  dsimp only
  rw [h]
  exact if_pos hl
theorem atI_nat {xs : List D} {r : Nat} (h : r < xs.length) : atI xs (r : Int) = some xs[r] := by
  unfold atI ixN
  simp [h]
theorem map_isEmpty {α β : Type} {f : α → β} {xs : List α} : (xs.map f).isEmpty = xs.isEmpty := by cases xs <;> rfl
theorem it_rngN {n : Nat} {σ : Store} (h : n < 2 ^ 62) : itemsOf σ .rng [.int (n : Int)] = some ((List.range n).map fun (i : Nat) => D.int (i : Int)) := by
  rw [it_rng ⟨by omega, by omega⟩]
  rfl
example : ¬ (("abc" : Str) = "abd") := by simp only [ofStr_inj, String.reduceEq, not_false_eq_true]
theorem inrI {x y : Str} : ((Sum.inr x : Key) = .inr y) = (x = y) := propext ⟨fun h => by injection h, fun h => by rw [h]⟩
theorem inlI {x y : Int} : ((Sum.inl x : Key) = .inl y) = (x = y) := propext ⟨fun h => by injection h, fun h => by rw [h]⟩
theorem inlr {x : Int} {y : Str} : ((Sum.inl x : Key) = .inr y) = False := by simp
theorem inrl {x : Int} {y : Str} : ((Sum.inr y : Key) = .inl x) = False := by simp
theorem putD_nil {k : Key} {v : D} : putD [] k v = [(k, v)] := by unfold putD; simp
theorem putD_cons {k k' : Key} {v v' : D} {r : List (Key × D)} : putD ((k, v) :: r) k' v' = if k = k' then (k, v') :: r.map (fun kv => if kv.1 = k' then (kv.1, v') else kv) else (k, v) :: putD r k' v' := by
  unfold putD
  by_cases h : k = k'
  · simp [h]
  · simp only [List.any_cons, decide_eq_false h, Bool.false_or, List.map_cons, if_neg h, List.cons_append]
    split <;> rfl
theorem look_cons {k k' : Key} {v : D} {ks : List Key} {vs : List D} : look (k :: ks) (v :: vs) k' = if k = k' then some v else look ks vs k' := by
  unfold look
  rw [List.zip_cons_cons, List.find?_cons]
  by_cases h : k = k' <;> simp [h]
theorem look_nil {k : Key} {vs : List D} : look [] vs k = none := (rfl)
theorem mergeD_cons {kvs r : List (Key × D)} {k : Key} {v : D} : mergeD kvs ((k, v) :: r) = mergeD (putD kvs k v) r := (rfl)
theorem mergeD_nil {kvs : List (Key × D)} : mergeD kvs [] = kvs := (rfl)
theorem pairUp_nil : pairUp [] = some [] := (rfl)
def puB (k : Key) (v : D) (o : Option (List (Key × D))) : Option (List (Key × D)) := o.map ((k, v) :: ·)
theorem puB_s {k : Key} {v : D} {r : List (Key × D)} : puB k v (some r) = some ((k, v) :: r) := (rfl)
theorem pairUp_s {x : Str} {v : D} {r : List D} : pairUp (.str x :: v :: r) = puB (.inr x) v (pairUp r) := (rfl)
theorem pairUp_i {x : Int} {v : D} {r : List D} : pairUp (.int x :: v :: r) = puB (.inl x) v (pairUp r) := (rfl)
theorem newD_f {ks : List Key} {vs : List D} {σ : Store} : newD false ks vs σ = .ok (.dic ks vs) σ := (rfl)
theorem newD_t {ks : List Key} {vs : List D} {σ : Store} : newD true ks vs σ = .ok (.ref σ.length) (σ ++ [.dic ks vs]) := (rfl)
/-- a display of texts and ints as keys -/
theorem dicB_s {mu : Bool} {kvs : List (Key × D)} {σ : Store} (h : decide (kvs.length ≤ 15) = true) : dicB mu σ (some kvs) = newD mu ((mergeD [] kvs).map (·.1)) ((mergeD [] kvs).map (·.2)) σ := dicB_some (of_decide_eq_true h)
/-! cells: what stands at a place is looked up first -/
section
variable {σ : Store} {n : Nat}
def viewC (n : Nat) (o : Option Cell) : D := match o with
  | some (.lst xs) => .lst xs
  | some (.dic ks vs) => .dic ks vs
  | _ => .ref n
theorem vw_ref : view σ (.ref n) = viewC n σ[n]? := by unfold view viewC; rfl
theorem viewC_l {xs : List D} : viewC n (some (.lst xs)) = .lst xs := (rfl)
theorem viewC_d {ks : List Key} {vs : List D} : viewC n (some (.dic ks vs)) = .dic ks vs := (rfl)
theorem vw_vw {τ : Store} {d : D} : view σ (view σ d) = view σ d := by
  cases d with
  | ref n =>
    rw [vw_ref]
    unfold viewC
    cases h : σ[n]? with
    | none => show view σ (.ref n) = .ref n; rw [vw_ref, h]; rfl
    | some c =>
      cases c with
      | lst xs => rfl
      | dic ks vs => rfl
      | dead => show view σ (.ref n) = .ref n; rw [vw_ref, h]; rfl
      | obj _ _ => show view σ (.ref n) = .ref n; rw [vw_ref, h]; rfl
  | _ => rfl
theorem rf_idx {i : D} : idxD (.ref n) i σ = idxD (viewC n σ[n]?) i σ := by
  rw [← vw_ref]; unfold idxD; rw [vw_vw (τ := σ)]
theorem rf_bi {b : Bi} {mu : Bool} : biD b mu (.ref n) σ = biD b mu (viewC n σ[n]?) σ := by
  rw [← vw_ref]; unfold biD; rw [vw_vw (τ := σ)]
theorem rf_slice {mu : Bool} {l h : D} : sliceD mu (.ref n) l h σ = sliceD mu (viewC n σ[n]?) l h σ := by
  rw [← vw_ref]; unfold sliceD; rw [vw_vw (τ := σ)]
theorem rf_rev {mu : Bool} : revD mu (.ref n) σ = revD mu (viewC n σ[n]?) σ := by
  rw [← vw_ref]; unfold revD; rw [vw_vw (τ := σ)]
theorem rf_cmp1 {op : COp} {y : D} : cmpD op (.ref n) y σ = cmpD op (viewC n σ[n]?) y σ := by
  rw [← vw_ref]; unfold cmpD; rw [vw_vw (τ := σ)]
theorem rf_cmp2 {op : COp} {y : D} : cmpD op y (.ref n) σ = cmpD op y (viewC n σ[n]?) σ := by
  rw [← vw_ref]; unfold cmpD; rw [vw_vw (τ := σ)]
theorem rf_bin1 {op : BOp} {y : D} : binD op (.ref n) y σ = binD op (viewC n σ[n]?) y σ := by
  rw [← vw_ref]; unfold binD; rw [vw_vw (τ := σ)]
theorem rf_bin2 {op : BOp} {y : D} : binD op y (.ref n) σ = binD op y (viewC n σ[n]?) σ := by
  rw [← vw_ref]; unfold binD; rw [vw_vw (τ := σ)]
def appC (n : Nat) (d : D) (σ : Store) (o : Option Cell) : Res D := match o with
  | some (.lst xs) => if xs.length < lim then .ok .non (σ.set n (.lst (xs ++ [d]))) else .bad
  | _ => .bad
theorem rf_app {d : D} : meD .append (.ref n) [d] σ = appC n d σ σ[n]? := by unfold meD appC; rfl
theorem appC_l {d : D} {xs : List D} (h : xs.length < lim) : appC n d σ (some (.lst xs)) = .ok .non (σ.set n (.lst (xs ++ [d]))) := if_pos h
def extC (n : Nat) (d : D) (σ : Store) (o : Option Cell) : Res D := match o, d with
  | some (.lst xs), .lst ys => if xs.length + ys.length ≤ lim then .ok .non (σ.set n (.lst (xs ++ ys))) else .bad
  | _, _ => .bad
theorem rf_ext {d : D} : meD .extend (.ref n) [d] σ = extC n (view σ d) σ σ[n]? := by unfold meD extC; rfl
theorem extC_l {xs ys : List D} (h : xs.length + ys.length ≤ lim) : extC n (.lst ys) σ (some (.lst xs)) = .ok .non (σ.set n (.lst (xs ++ ys))) := if_pos h
def popC (n : Nat) (σ : Store) (o : Option Cell) : Res D := match o with
  | some (.lst xs) => match xs[xs.length - 1]? with
    | some d => .ok d (σ.set n (.lst xs.dropLast))
    | none => .bad
  | _ => .bad
theorem rf_pop : meD .pop (.ref n) [] σ = popC n σ σ[n]? := by unfold meD popC; rfl
theorem popC_l {xs : List D} {d : D} : popC n σ (some (.lst (xs ++ [d]))) = .ok d (σ.set n (.lst xs)) := by unfold popC; simp
def putC' (n : Nat) (k v : D) (σ : Store) (o : Option Cell) : Option Store := match o with
  | some (.lst xs) => match k with
    | .int i => match ixN xs.length i with
      | some j => some (σ.set n (.lst (xs.set j v)))
      | none => none
    | _ => none
  | some (.dic ks vs) => match dKey k with
    | some k => if ks.length < lim then some (σ.set n (.dic ((putD (ks.zip vs) k v).map (·.1)) ((putD (ks.zip vs) k v).map (·.2)))) else none
    | none => none
  | _ => none
theorem rf_put {k v : D} : Iv.putAt (.ref n) k v σ = putC' n k v σ σ[n]? := by unfold Iv.putAt putC'; rfl
theorem putC_s {ks : List Key} {vs : List D} {x : Str} {v : D} (h : ks.length < lim) : putC' n (.str x) v σ (some (.dic ks vs)) = some (σ.set n (.dic ((putD (ks.zip vs) (.inr x) v).map (·.1)) ((putD (ks.zip vs) (.inr x) v).map (·.2)))) := if_pos h
theorem putC_i {ks : List Key} {vs : List D} {x : Int} {v : D} (h : ks.length < lim) : putC' n (.int x) v σ (some (.dic ks vs)) = some (σ.set n (.dic ((putD (ks.zip vs) (.inl x) v).map (·.1)) ((putD (ks.zip vs) (.inl x) v).map (·.2)))) := if_pos h
theorem rf_mok {m : Me} : meOk m (view σ (.ref n)) = meOk m (viewC n σ[n]?) := by rw [vw_ref]
end
end Iv

set_option Elab.async false
set_option linter.all false
set_option maxHeartbeats 4000000
set_option maxRecDepth 20000
/-! the deck of drawn numbers (laws k01 to k12, k58 to k61): any pr, any place -/
namespace Iv
open PySem L2
def kD : List Key := [.inr "cells", .inr "mixed", .inr "draws"]
structure Dk where
  cs : List Int
  mx : Int
  dr : Nat
def Dk.ok (δ : Dk) (n : Nat) : Prop := δ.cs.length ≤ 63 ∧ δ.dr ≤ n
/-- the deck: its cells, what was mixed, its draws -/
def S (δ : Dk) : Store := [.lst (δ.cs.map D.int), .dic kD [.ref 0, .int δ.mx, .int δ.dr]]
theorem Dk.ok.le {δ : Dk} {n m : Nat} (h : δ.ok n) (l : n ≤ m) : δ.ok m := ⟨h.1, Nat.le_trans h.2 l⟩
theorem kne1 : ¬ (Sum.inr "cells" : Key) = .inr "draws" := by decide +kernel
theorem kne2 : ¬ (Sum.inr "mixed" : Key) = .inr "draws" := by decide +kernel
theorem kne3 : ¬ (Sum.inr "cells" : Key) = .inr "mixed" := by decide +kernel
theorem look_d {a b c : D} : look kD [a, b, c] (.inr "draws") = some c := by
  unfold look kD
  simp only [List.zip_cons_cons, List.find?_cons, decide_eq_false kne1, decide_eq_false kne2, decide_true, Option.map_some]
theorem look_m {a b c : D} : look kD [a, b, c] (.inr "mixed") = some b := by
  unfold look kD
  simp only [List.zip_cons_cons, List.find?_cons, decide_eq_false kne3, decide_true, Option.map_some]
theorem look_c {a b c : D} : look kD [a, b, c] (.inr "cells") = some a := by
  unfold look kD
  simp only [List.zip_cons_cons, List.find?_cons, decide_true, Option.map_some]
section
variable {cs : List Int} {mx : Int} {dr : Nat} {X : Store}
theorem dv1 : view (S ⟨cs, mx, dr⟩ ++ X) (.ref 1) = .dic kD [.ref 0, .int mx, .int dr] := rfl
theorem dv0 : view (S ⟨cs, mx, dr⟩ ++ X) (.ref 0) = .lst (cs.map D.int) := rfl
theorem di_d : idxD (.ref 1) (.str "draws") (S ⟨cs, mx, dr⟩ ++ X) = .ok (.int dr) (S ⟨cs, mx, dr⟩ ++ X) := by
  unfold idxD; rw [dv1]; simp only [dKey, look_d]
theorem di_m : idxD (.ref 1) (.str "mixed") (S ⟨cs, mx, dr⟩ ++ X) = .ok (.int mx) (S ⟨cs, mx, dr⟩ ++ X) := by
  unfold idxD; rw [dv1]; simp only [dKey, look_m]
theorem di_c : idxD (.ref 1) (.str "cells") (S ⟨cs, mx, dr⟩ ++ X) = .ok (.ref 0) (S ⟨cs, mx, dr⟩ ++ X) := by
  unfold idxD; rw [dv1]; simp only [dKey, look_c]
theorem dp_d {n : Nat} : Iv.putAt (.ref 1) (.str "draws") (.int n) (S ⟨cs, mx, dr⟩ ++ X) = some (S ⟨cs, mx, n⟩ ++ X) := by
  rw [put_dic (ks := kD) (vs := [.ref 0, .int mx, .int dr]) rfl (by decide)]
  have e : putD (kD.zip [.ref 0, .int mx, .int dr]) (.inr "draws") (.int n) = kD.zip [.ref 0, .int mx, .int n] := by
    unfold putD kD
    simp only [List.zip_cons_cons, List.zip_nil_left, List.any_cons, List.any_nil, decide_eq_false kne1, decide_eq_false kne2, decide_true, Bool.or_true, Bool.true_or, if_true, List.map_cons, List.map_nil, if_neg kne1, if_neg kne2]
  rw [e]
  rfl
theorem dpop {c : Int} : meD .pop (.ref 0) [] (S ⟨cs ++ [c], mx, dr⟩ ++ X) = .ok (.int c) (S ⟨cs, mx, dr⟩ ++ X) := by
  rw [me_pop (xs := cs.map D.int) (d := .int c) (by unfold S; simp)]
  rfl
theorem dapp {c : Int} (h : cs.length < lim) : meD .append (.ref 0) [.int c] (S ⟨cs, mx, dr⟩ ++ X) = .ok .non (S ⟨cs ++ [c], mx, dr⟩ ++ X) := by
  rw [me_app (xs := cs.map D.int) rfl (by rw [List.length_map]; exact h)]
  unfold S
  simp
theorem dne : cmpD .ne (.ref 0) (.lst []) (S ⟨cs, mx, dr⟩ ++ X) = .ok (.bl (!cs.isEmpty)) (S ⟨cs, mx, dr⟩ ++ X) := by
  have h := c_nenil (b := false) (x := .ref 0) (σ := S ⟨cs, mx, dr⟩ ++ X) dv0 (sims_map fun z _ => by unfold D.sim; rfl) (Nat.le_trans (dps_map (n := 0) fun z _ => by unfold D.dp; exact Nat.le_refl _) (by decide))
  rw [map_isEmpty] at h
  exact h
end
theorem mulok2 {i j : Int} (h : -(2 ^ 64) < j ∧ j < 2 ^ 64) : mulOk i j = true := by unfold mulOk; exact decide_eq_true (.inr h)
theorem fmB {a b : Int} (h : 0 < b) : 0 ≤ a.fmod b ∧ a.fmod b < b := ⟨Int.fmod_nonneg_of_pos a h, Int.fmod_lt_of_pos a h⟩
theorem bm_lit {j : Int} {σ : Store} (h : -(2 ^ 64) < j ∧ j < 2 ^ 64) (x : Int) : binD .mul (.int x) (.int j) σ = .ok (.int (x * j)) σ := b_mul (mulok2 h)
section
variable {τ : Store}
theorem t2 : ∀ (x : Int), binD .mul (.int x) (.int 40692) τ = .ok (.int (x * 40692)) τ := bm_lit (by decide)
theorem t3 : ∀ (x : Int), binD .mul (.int x) (.int 39373) τ = .ok (.int (x * 39373)) τ := bm_lit (by decide)
theorem t4 : ∀ (x : Int), binD .mul (.int (x.fmod 2147483647)) (.int (x.fmod 2147483647)) τ = .ok (.int (x.fmod 2147483647 * x.fmod 2147483647)) τ := fun x => b_mul (mulok2 (by have := fmB (a := x) (b := 2147483647) (by decide); omega))
theorem t5 : ∀ (x : Int), binD .mod (.int x) (.int 2147483629) τ = .ok (.int (x.fmod 2147483629)) τ := fun x => b_mod (by decide)
theorem t6 : ∀ (x : Int), binD .mod (.int x) (.int 2147483647) τ = .ok (.int (x.fmod 2147483647)) τ := fun x => b_mod (by decide)
theorem t7 : ∀ (x : Int), binD .mod (.int x) (.int 2147483579) τ = .ok (.int (x.fmod 2147483579)) τ := fun x => b_mod (by decide)
theorem t8 : ∀ (x : Int), binD .mod (.int x) (.int 2147483563) τ = .ok (.int (x.fmod 2147483563)) τ := fun x => b_mod (by decide)
theorem t9 : ∀ (x : Int), binD .fdiv (.int x) (.int 64) τ = .ok (.int (x.fdiv 64)) τ := fun x => b_fdiv (by decide)
theorem t10 : ∀ (x : Int), binD .mul (.int x) (.int 48271) τ = .ok (.int (x * 48271)) τ := bm_lit (by decide)
theorem t11 : ∀ (x : Int), binD .mod (.int x) (.int 2147483587) τ = .ok (.int (x.fmod 2147483587)) τ := fun x => b_mod (by decide)
theorem pow18 : binD .pow (.int 10) (.int 18) τ = .ok (.int 1000000000000000000) τ := by
  rw [b_pow (by decide)]
  rfl
end
def mkDrawA (a b c : Int) : Fd := ⟨2, 5, [.put (.loc 0) (.str "draws") (.bin .add (.idx (.loc 0) (.str "draws")) (.int 1)), .par 3 4 (.idx (.loc 0) (.str "draws")) (.idx (.loc 0) (.str "mixed")), .ite (.cmp .ne (.idx (.loc 0) (.str "cells")) (.lst false [])) [.asg (.nm 4) (.me .pop (.idx (.loc 0) (.str "cells")) []), .ite (.cmp .ge (.loc 4) (.bin .pow (.int 10) (.int 18))) [.exp (.me .append (.idx (.loc 0) (.str "cells")) [.bin .fdiv (.loc 4) (.loc 1)]), .ret (.bin .mod (.bi .int false (.loc 4)) (.loc 1))] [], .asg (.nm 4) (.bin .add (.bi .int false (.loc 4)) (.idx (.loc 0) (.str "mixed")))] [], .asg (.nm 2) (.bin .mod (.bin .mul (.bi .int false (.bin .add (.bin .add (.bin .mod (.bi .int false (.loc 4)) (.int 2147483629)) (.bin .mul (.bin .mul (.int a) (.loc 3)) (.loc 3))) (.int b))) (.int 40692)) (.int 2147483647)), .asg (.nm 2) (.bin .mod (.bi .int false (.bin .add (.bin .add (.bin .mul (.loc 2) (.loc 2)) (.bin .mul (.int 69621) (.loc 3))) (.int c))) (.int 2147483579)), .ret (.bin .mod (.bin .fdiv (.bin .mod (.bi .int false (.bin .mul (.loc 2) (.int 39373))) (.int 2147483563)) (.int 64)) (.loc 1))]⟩
/-- what a drawing call gives: P of its value, the deck some draws further; nothing else has changed -/
def Drawn (δ : Dk) (X : Store) (m : Nat) (P : D → Prop) (r : Res D) : Prop := r.sat fun d σ => P d ∧ ∃ δ' : Dk, δ'.ok m ∧ σ = S δ' ++ X
theorem ed (dr : Nat) : (dr : Int) + 1 = ((dr + 1 : Nat) : Int) := by omega
section
variable {pr : List Fd} {i : Nat} {a b c : Int}
theorem draw_tail {m : Nat} (hm : 0 < m) {T : Int} (hT : 0 < T ∧ T ≤ 1000000000) {cell : Int} {z : Option D} {Φ : CallSem} {τ : Store} :
    ∃ r : Nat, r < m ∧ exs Φ ((mkDrawA a b c).body.drop 3) [some (.ref 1), some (.int m), z, some (.int T), some (.int cell)] τ = .rt (.int r) τ := by
  have hbp : (0 : Int) < m := by omega
  have hbn : (m : Int) ≠ 0 := by omega
  have key : ∀ x : Int, ∃ r : Nat, r < m ∧ x.fmod m = (r : Int) := by
    intro x
    obtain ⟨h1, h2⟩ := fmB (a := x) hbp
    exact ⟨(x.fmod m).toNat, by omega, by omega⟩
  have a1 : ∀ (x : Int), binD .mul (.int x) (.int T) τ = .ok (.int (x * T)) τ := bm_lit ⟨by omega, by omega⟩
  have a10 : ∀ (x : Int), binD .mod (.int x) (.int m) τ = .ok (.int (x.fmod m)) τ := fun x => b_mod hbn
  have e : ∃ x : Int, exs Φ ((mkDrawA a b c).body.drop 3) [some (.ref 1), some (.int m), z, some (.int T), some (.int cell)] τ = .rt (.int (x.fmod m)) τ := by
    constructor
    unfold mkDrawA
    dsimp only [List.drop]
    simp only [fx_nil, fx_one, fx_cons, fx_asg, fx_par, fx_put, fx_exp, fx_ret, fx_ite, fx_for, fx_pass, fx_frz, fv_loc, fv_bin, fv_cmp, fv_chain, fv_and, fv_or, fv_not, fv_ite, fv_tup, fv_lst, fv_dic, fv_star, fv_idx, fv_slice, fv_rev, fv_call, fv_bi, fv_isi, fv_me, fv_comp, fvs_cons, ev_nop, ev_non, ev_bl, ev_int, ev_str, ev_glo, ev_neg_int, evs_nil, thenS_nx, thenS_rt, thenS_exc, asgK_ok, asgK_exc, asgT_some, parA_ok, parB_ok, putA_ok, putB_ok, putC_ok, putR_some, expK_ok, expK_exc, retK_ok, retK_exc, iteK_ok, iteB_t, iteB_f, forA_ok, forB_some, frzA_ref, frzB_l, frzB_d, getK_s, binA_ok, binB_ok, cmpA_ok, cmpB_ok, chA_ok, chB_ok, chC_t, chC_f, andK_ok, andB_t, andB_f, orK_ok, orB_t, orB_f, notK_ok, notB_s, iteE_ok, iteEB_t, iteEB_f, tupK_ok, lstK_ok, dicK_ok, idxA_ok, idxB_ok, slA_ok, slB_n, slB_i, slC_n, slC_i, revK_ok, clA_ok, clB_ok, clC_s, biK_ok, isiK_ok, meA_ok, meB_t, meC_ok, cmA_ok, cmB_s, cmC_ok, esA_f, esA_t, spl_l, spl_t, esB_s, esC_ok, prC_s, prB_s, pr_nil, pr_cons, fin_rt', fin_nx', it_lst, it_ro, it_tup, it_str, tg_nm, tg_tup, sa_nil, sa_cons, ns_0, ns_1, ns_2, ns_3, ns_4, ns_5, ns_6, ns_7, ns_8, ns_9, ns_10, ns_11, ns_12, ns_13, ns_14, ns_15, ns_16, ns_17, ns_18, ns_19, ns_20, ns_21, ns_22, ns_23, ns_24, ns_25, ns_star, sat_ok, osat_nx, osat_rt, List.getElem?_cons_zero, List.getElem?_cons_succ, List.set, List.cons_append, List.nil_append, List.append_nil, wipe_nil, wipe_cons, view_non, view_bl, view_int, view_str, view_tup', view_lst, view_ro, view_dic, view_set, tr_non, tr_bl, tr_int, tr_tup, tr_lst, nl_nil, nl_cons1, nl2, nl3, nl4, nl5, nl6, nl7, nl8, nt0, nt1, nt2, nt3, nt4, mo_join, mo_app, mo_pop, mo_ext, mo_get, bi_lenl, bi_lent, bi_listl, bi_listt, bi_listd, bi_tupl, bi_int, b_add, b_sub, b_addl, b_addt, c_eqi, c_eqs, c_nei, c_nes, c_lti, c_lei, c_gti, c_gei, c_les, i_tup, i_lst, isi_str, isi_tup, isi_int, isi_lst, opt_non, opt_int, List.map_cons, List.map_nil, List.length_cons, List.length_nil, Nat.sub_self, List.replicate_zero, Nat.reduceAdd, Nat.reduceSub, List.reduceReplicate, Option.some.injEq, t2, t3, t4, t5, t6, t7, t8, t9, a1, a10]
    rfl
  obtain ⟨x, e⟩ := e
  obtain ⟨r, h1, h2⟩ := key x
  exact ⟨r, h1, by rw [← h2]; exact e⟩
theorem newLn {τ : Store} : newL false [] τ = .ok (.lst []) τ := rfl
theorem draw_0 {m : Nat} {mx : Int} {dr : Nat} {X : Store} {Φ : CallSem} : exs Φ ((mkDrawA a b c).body.take 3) [some (.ref 1), some (.int m), none, none, none] (S ⟨[], mx, dr⟩ ++ X) = .nx [some (.ref 1), some (.int m), none, some (.int ((dr + 1 : Nat) : Int)), some (.int mx)] (S ⟨[], mx, dr + 1⟩ ++ X) := by
  unfold mkDrawA
  dsimp only [List.take]
  simp only [fx_nil, fx_one, fx_cons, fx_asg, fx_par, fx_put, fx_exp, fx_ret, fx_ite, fx_for, fx_pass, fx_frz, fv_loc, fv_bin, fv_cmp, fv_chain, fv_and, fv_or, fv_not, fv_ite, fv_tup, fv_lst, fv_dic, fv_star, fv_idx, fv_slice, fv_rev, fv_call, fv_bi, fv_isi, fv_me, fv_comp, fvs_cons, ev_nop, ev_non, ev_bl, ev_int, ev_str, ev_glo, ev_neg_int, evs_nil, thenS_nx, thenS_rt, thenS_exc, asgK_ok, asgK_exc, asgT_some, parA_ok, parB_ok, putA_ok, putB_ok, putC_ok, putR_some, expK_ok, expK_exc, retK_ok, retK_exc, iteK_ok, iteB_t, iteB_f, forA_ok, forB_some, frzA_ref, frzB_l, frzB_d, getK_s, binA_ok, binB_ok, cmpA_ok, cmpB_ok, chA_ok, chB_ok, chC_t, chC_f, andK_ok, andB_t, andB_f, orK_ok, orB_t, orB_f, notK_ok, notB_s, iteE_ok, iteEB_t, iteEB_f, tupK_ok, lstK_ok, dicK_ok, idxA_ok, idxB_ok, slA_ok, slB_n, slB_i, slC_n, slC_i, revK_ok, clA_ok, clB_ok, clC_s, biK_ok, isiK_ok, meA_ok, meB_t, meC_ok, cmA_ok, cmB_s, cmC_ok, esA_f, esA_t, spl_l, spl_t, esB_s, esC_ok, prC_s, prB_s, pr_nil, pr_cons, fin_rt', fin_nx', it_lst, it_ro, it_tup, it_str, tg_nm, tg_tup, sa_nil, sa_cons, ns_0, ns_1, ns_2, ns_3, ns_4, ns_5, ns_6, ns_7, ns_8, ns_9, ns_10, ns_11, ns_12, ns_13, ns_14, ns_15, ns_16, ns_17, ns_18, ns_19, ns_20, ns_21, ns_22, ns_23, ns_24, ns_25, ns_star, sat_ok, osat_nx, osat_rt, List.getElem?_cons_zero, List.getElem?_cons_succ, List.set, List.cons_append, List.nil_append, List.append_nil, wipe_nil, wipe_cons, view_non, view_bl, view_int, view_str, view_tup', view_lst, view_ro, view_dic, view_set, tr_non, tr_bl, tr_int, tr_tup, tr_lst, nl_nil, nl_cons1, nl2, nl3, nl4, nl5, nl6, nl7, nl8, nt0, nt1, nt2, nt3, nt4, mo_join, mo_app, mo_pop, mo_ext, mo_get, bi_lenl, bi_lent, bi_listl, bi_listt, bi_listd, bi_tupl, bi_int, b_add, b_sub, b_addl, b_addt, c_eqi, c_eqs, c_nei, c_nes, c_lti, c_lei, c_gti, c_gei, c_les, i_tup, i_lst, isi_str, isi_tup, isi_int, isi_lst, opt_non, opt_int, List.map_cons, List.map_nil, List.length_cons, List.length_nil, Nat.sub_self, List.replicate_zero, Nat.reduceAdd, Nat.reduceSub, List.reduceReplicate, Option.some.injEq, di_d, di_m, di_c, ed, dp_d, dne, List.isEmpty_nil, Bool.not_true]
theorem ne_cc (cs : List Int) (c : Int) : (!(cs ++ [c]).isEmpty) = true := by simp
theorem draw_1 {m : Nat} (hbn : (m : Int) ≠ 0) (hb2 : m < 1073741824) {cs : List Int} {x : Int} (hc : cs.length < 100) (h : 1000000000000000000 ≤ x) {mx : Int} {dr : Nat} {X : Store} {Φ : CallSem} : exs Φ ((mkDrawA a b c).body.take 3) [some (.ref 1), some (.int m), none, none, none] (S ⟨cs ++ [x], mx, dr⟩ ++ X) = .rt (.int (x.fmod m)) (S ⟨cs ++ [x.fdiv m], mx, dr + 1⟩ ++ X) := by
  have a10 : ∀ (x : Int) (τ : Store), binD .mod (.int x) (.int m) τ = .ok (.int (x.fmod m)) τ := fun x τ => b_mod hbn
  have a11 : ∀ (x : Int) (τ : Store), binD .fdiv (.int x) (.int m) τ = .ok (.int (x.fdiv m)) τ := fun x τ => b_fdiv ⟨hbn, by omega⟩
  have ha : ∀ (dr : Nat), meD .append (.ref 0) [.int (x.fdiv m)] (S ⟨cs, mx, dr⟩ ++ X) = .ok .non (S ⟨cs ++ [x.fdiv m], mx, dr⟩ ++ X) := fun dr => dapp (by rw [lim_v]; omega)
  unfold mkDrawA
  dsimp only [List.take]
  simp only [fx_nil, fx_one, fx_cons, fx_asg, fx_par, fx_put, fx_exp, fx_ret, fx_ite, fx_for, fx_pass, fx_frz, fv_loc, fv_bin, fv_cmp, fv_chain, fv_and, fv_or, fv_not, fv_ite, fv_tup, fv_lst, fv_dic, fv_star, fv_idx, fv_slice, fv_rev, fv_call, fv_bi, fv_isi, fv_me, fv_comp, fvs_cons, ev_nop, ev_non, ev_bl, ev_int, ev_str, ev_glo, ev_neg_int, evs_nil, thenS_nx, thenS_rt, thenS_exc, asgK_ok, asgK_exc, asgT_some, parA_ok, parB_ok, putA_ok, putB_ok, putC_ok, putR_some, expK_ok, expK_exc, retK_ok, retK_exc, iteK_ok, iteB_t, iteB_f, forA_ok, forB_some, frzA_ref, frzB_l, frzB_d, getK_s, binA_ok, binB_ok, cmpA_ok, cmpB_ok, chA_ok, chB_ok, chC_t, chC_f, andK_ok, andB_t, andB_f, orK_ok, orB_t, orB_f, notK_ok, notB_s, iteE_ok, iteEB_t, iteEB_f, tupK_ok, lstK_ok, dicK_ok, idxA_ok, idxB_ok, slA_ok, slB_n, slB_i, slC_n, slC_i, revK_ok, clA_ok, clB_ok, clC_s, biK_ok, isiK_ok, meA_ok, meB_t, meC_ok, cmA_ok, cmB_s, cmC_ok, esA_f, esA_t, spl_l, spl_t, esB_s, esC_ok, prC_s, prB_s, pr_nil, pr_cons, fin_rt', fin_nx', it_lst, it_ro, it_tup, it_str, tg_nm, tg_tup, sa_nil, sa_cons, ns_0, ns_1, ns_2, ns_3, ns_4, ns_5, ns_6, ns_7, ns_8, ns_9, ns_10, ns_11, ns_12, ns_13, ns_14, ns_15, ns_16, ns_17, ns_18, ns_19, ns_20, ns_21, ns_22, ns_23, ns_24, ns_25, ns_star, sat_ok, osat_nx, osat_rt, List.getElem?_cons_zero, List.getElem?_cons_succ, List.set, List.cons_append, List.nil_append, List.append_nil, wipe_nil, wipe_cons, view_non, view_bl, view_int, view_str, view_tup', view_lst, view_ro, view_dic, view_set, tr_non, tr_bl, tr_int, tr_tup, tr_lst, nl_nil, nl_cons1, nl2, nl3, nl4, nl5, nl6, nl7, nl8, nt0, nt1, nt2, nt3, nt4, mo_join, mo_app, mo_pop, mo_ext, mo_get, bi_lenl, bi_lent, bi_listl, bi_listt, bi_listd, bi_tupl, bi_int, b_add, b_sub, b_addl, b_addt, c_eqi, c_eqs, c_nei, c_nes, c_lti, c_lei, c_gti, c_gei, c_les, i_tup, i_lst, isi_str, isi_tup, isi_int, isi_lst, opt_non, opt_int, List.map_cons, List.map_nil, List.length_cons, List.length_nil, Nat.sub_self, List.replicate_zero, Nat.reduceAdd, Nat.reduceSub, List.reduceReplicate, Option.some.injEq, di_d, di_m, di_c, ed, dp_d, dne, ne_cc, dv0, dpop, pow18, decide_eq_true h, a10, a11, ha]
theorem draw_2 {m : Nat} {cs : List Int} {x : Int} (h : ¬ 1000000000000000000 ≤ x) {mx : Int} {dr : Nat} {X : Store} {Φ : CallSem} : exs Φ ((mkDrawA a b c).body.take 3) [some (.ref 1), some (.int m), none, none, none] (S ⟨cs ++ [x], mx, dr⟩ ++ X) = .nx [some (.ref 1), some (.int m), none, some (.int ((dr + 1 : Nat) : Int)), some (.int (x + mx))] (S ⟨cs, mx, dr + 1⟩ ++ X) := by
  unfold mkDrawA
  dsimp only [List.take]
  simp only [fx_nil, fx_one, fx_cons, fx_asg, fx_par, fx_put, fx_exp, fx_ret, fx_ite, fx_for, fx_pass, fx_frz, fv_loc, fv_bin, fv_cmp, fv_chain, fv_and, fv_or, fv_not, fv_ite, fv_tup, fv_lst, fv_dic, fv_star, fv_idx, fv_slice, fv_rev, fv_call, fv_bi, fv_isi, fv_me, fv_comp, fvs_cons, ev_nop, ev_non, ev_bl, ev_int, ev_str, ev_glo, ev_neg_int, evs_nil, thenS_nx, thenS_rt, thenS_exc, asgK_ok, asgK_exc, asgT_some, parA_ok, parB_ok, putA_ok, putB_ok, putC_ok, putR_some, expK_ok, expK_exc, retK_ok, retK_exc, iteK_ok, iteB_t, iteB_f, forA_ok, forB_some, frzA_ref, frzB_l, frzB_d, getK_s, binA_ok, binB_ok, cmpA_ok, cmpB_ok, chA_ok, chB_ok, chC_t, chC_f, andK_ok, andB_t, andB_f, orK_ok, orB_t, orB_f, notK_ok, notB_s, iteE_ok, iteEB_t, iteEB_f, tupK_ok, lstK_ok, dicK_ok, idxA_ok, idxB_ok, slA_ok, slB_n, slB_i, slC_n, slC_i, revK_ok, clA_ok, clB_ok, clC_s, biK_ok, isiK_ok, meA_ok, meB_t, meC_ok, cmA_ok, cmB_s, cmC_ok, esA_f, esA_t, spl_l, spl_t, esB_s, esC_ok, prC_s, prB_s, pr_nil, pr_cons, fin_rt', fin_nx', it_lst, it_ro, it_tup, it_str, tg_nm, tg_tup, sa_nil, sa_cons, ns_0, ns_1, ns_2, ns_3, ns_4, ns_5, ns_6, ns_7, ns_8, ns_9, ns_10, ns_11, ns_12, ns_13, ns_14, ns_15, ns_16, ns_17, ns_18, ns_19, ns_20, ns_21, ns_22, ns_23, ns_24, ns_25, ns_star, sat_ok, osat_nx, osat_rt, List.getElem?_cons_zero, List.getElem?_cons_succ, List.set, List.cons_append, List.nil_append, List.append_nil, wipe_nil, wipe_cons, view_non, view_bl, view_int, view_str, view_tup', view_lst, view_ro, view_dic, view_set, tr_non, tr_bl, tr_int, tr_tup, tr_lst, nl_nil, nl_cons1, nl2, nl3, nl4, nl5, nl6, nl7, nl8, nt0, nt1, nt2, nt3, nt4, mo_join, mo_app, mo_pop, mo_ext, mo_get, bi_lenl, bi_lent, bi_listl, bi_listt, bi_listd, bi_tupl, bi_int, b_add, b_sub, b_addl, b_addt, c_eqi, c_eqs, c_nei, c_nes, c_lti, c_lei, c_gti, c_gei, c_les, i_tup, i_lst, isi_str, isi_tup, isi_int, isi_lst, opt_non, opt_int, List.map_cons, List.map_nil, List.length_cons, List.length_nil, Nat.sub_self, List.replicate_zero, Nat.reduceAdd, Nat.reduceSub, List.reduceReplicate, Option.some.injEq, di_d, di_m, di_c, ed, dp_d, dne, ne_cc, dv0, dpop, pow18, decide_eq_false h]
theorem exs_app {Φ : CallSem} : ∀ (xs ys : List Stt) (ρ : Iv.Env) (τ : Store), exs Φ (xs ++ ys) ρ τ = (exs Φ xs ρ τ).then fun ρ τ => exs Φ ys ρ τ
  | [], ys, ρ, τ => by simp
  | x :: xs, ys, ρ, τ => by
    rw [List.cons_append, exs_cons, exs_cons]
    have ih := exs_app (Φ := Φ) xs ys
    cases ex Φ x ρ τ <;> first | rfl | simp [ih]
theorem under_ints {n : Nat} : ∀ cs : List Int, D.unders n (cs.map D.int) = true
  | [] => by unfold List.map D.unders; rfl
  | x :: r => by unfold List.map D.unders; rw [under_ints r]; unfold D.under; rfl
/-- behind a call that has drawn: the callee's own cells go -/
theorem leave_S {δ δ' : Dk} {X Y : Store} {d : D} (h : d.under (2 + X.length) = true) : leave (S δ ++ X) d (S δ' ++ X ++ Y) = .ok d (S δ' ++ X) := by
  refine leave_app rfl ?_ fun i z e => ?_
  · have : (S δ ++ X).length = 2 + X.length := by rw [List.length_append]; rfl
    rw [this]; exact h
  · match i, e with
    | 0, e =>
      cases e
      exact .inr (under_ints _)
    | 1, e =>
      cases e
      right
      unfold Cell.under D.unders D.unders D.unders D.unders D.under
      simp [S]
    | i + 2, e => exact .inl e
theorem leave_S0 {δ δ' : Dk} {X : Store} {d : D} : leave (S δ ++ X) d (S δ' ++ X) = .ok d (S δ' ++ X) := leave_len rfl
/-- a draw -/
theorem w_draw (hi : pr[i]? = some (mkDrawA a b c)) {k m n : Nat} (hk : 1 ≤ k) (hb : 0 < m) (hb2 : m < 1073741824) {δ : Dk} (hδ : δ.ok n) (hn : n < 1000000000) {X : Store} :
    Drawn δ X (n + 1) (fun d => ∃ r : Nat, r < m ∧ d = .int r) (callK pr k i [.ref 1, .int m] (S δ ++ X)) := by
  obtain ⟨k, rfl⟩ : ∃ j, k = j + 1 := ⟨k - 1, by omega⟩
  obtain ⟨cs, mx, dr⟩ := δ
  have hbp : (0 : Int) < m := by omega
  have hbn : (m : Int) ≠ 0 := by omega
  have hc : cs.length ≤ 63 := hδ.1
  have hd : dr ≤ n := hδ.2
  have hsplit : (mkDrawA a b c).body = (mkDrawA a b c).body.take 3 ++ (mkDrawA a b c).body.drop 3 := rfl
  have henv : [D.ref 1, D.int m].map some ++ List.replicate ((mkDrawA a b c).ns - [D.ref 1, D.int m].length) none = [some (.ref 1), some (.int m), none, none, none] := rfl
  unfold Drawn
  rw [callK_run hi rfl, hsplit, exs_app, henv]
  rcases List.eq_nil_or_concat cs with e | ⟨cs1, x, e⟩
  · subst e
    obtain ⟨r, h1, h2⟩ := draw_tail (a := a) (b := b) (c := c) hb (T := ((dr + 1 : Nat) : Int)) (by omega) (cell := mx) (z := none) (Φ := callK pr k) (τ := S ⟨[], mx, dr + 1⟩ ++ X)
    rw [draw_0, then_nx, h2, fin_rt, leave_S0, sat_ok]
    exact ⟨⟨r, h1, rfl⟩, ⟨[], mx, dr + 1⟩, ⟨by simp, by show dr + 1 ≤ n + 1; omega⟩, rfl⟩
  · rw [List.concat_eq_append] at e
    subst e
    rw [List.length_append, List.length_singleton] at hc
    by_cases h : 1000000000000000000 ≤ x
    · obtain ⟨h1, h2⟩ := fmB (a := x) hbp
      have e1 : x.fmod m = (((x.fmod m).toNat : Nat) : Int) := by omega
      rw [draw_1 hbn hb2 (by omega) h, then_rt, fin_rt, leave_S0, sat_ok]
      exact ⟨⟨(x.fmod m).toNat, by omega, by rw [← e1]⟩, ⟨cs1 ++ [x.fdiv m], mx, dr + 1⟩, ⟨by show (cs1 ++ [x.fdiv m]).length ≤ 63; rw [List.length_append, List.length_singleton]; omega, by show dr + 1 ≤ n + 1; omega⟩, rfl⟩
    · obtain ⟨r, h1, h2⟩ := draw_tail (a := a) (b := b) (c := c) hb (T := ((dr + 1 : Nat) : Int)) (by omega) (cell := x + mx) (z := none) (Φ := callK pr k) (τ := S ⟨cs1, mx, dr + 1⟩ ++ X)
      rw [draw_2 h, then_nx, h2, fin_rt, leave_S0, sat_ok]
      exact ⟨⟨r, h1, rfl⟩, ⟨cs1, mx, dr + 1⟩, ⟨by show cs1.length ≤ 63; omega, by show dr + 1 ≤ n + 1; omega⟩, rfl⟩
end
/-! the deck of a script -/
def mkDeckA (a b : Int) : Fd := ⟨1, 4, [.par 2 3 (.bi .list false (.slice false (.loc 0) .nop (.int 63))) (.int a), .for (.nm 1) .on [.loc 2] [.asg (.nm 3) (.bin .mod (.bi .int false (.bin .add (.bin .add (.bin .mul (.loc 3) (.int 48271)) (.bin .mod (.bi .int false (.loc 1)) (.int 2147483629))) (.int b))) (.int 2147483587))], .ret (.dic true [.str "cells", .rev true (.loc 2), .str "mixed", .loc 3, .str "draws", .int 0])]⟩
theorem w_deck {pr : List Fd} {i k : Nat} {a b : Int} (hi : pr[i]? = some (mkDeckA a b)) (hk : 1 ≤ k) {ns : List Int} (hn : ns.length ≤ 63) :
    ∃ δ : Dk, δ.ok 0 ∧ callK pr k i [.ro (ns.map D.int)] [] = .ok (.ref 1) (S δ) := by
  obtain ⟨k, rfl⟩ : ∃ j, k = j + 1 := ⟨k - 1, by omega⟩
  have hl : (ns.map D.int).length ≤ lim := by rw [List.length_map, lim_v]; omega
  have s1 : sliceD false (.ro (ns.map D.int)) .non (.int 63) [] = .ok (.lst (ns.map D.int)) [] := by
    unfold sliceD
    show newL false (cutL (ns.map D.int) none (some 63)) [] = _
    rw [cut_to63, List.take_of_length_le (by rw [List.length_map]; exact hn), newL_f hl]
  have s2 : ∀ τ : Store, newL false (ns.map D.int) τ = .ok (.lst (ns.map D.int)) τ := fun τ => newL_f hl
  have h : (callK pr (k + 1) i [.ro (ns.map D.int)] []).sat fun d σ => d = .ref 1 ∧ ∃ mx, σ = S ⟨ns.reverse, mx, 0⟩ := by
    rw [callK_run hi rfl, sat_fin]
    unfold mkDeckA
    simp only [fx_nil, fx_one, fx_cons, fx_asg, fx_par, fx_put, fx_exp, fx_ret, fx_ite, fx_for, fx_pass, fx_frz, fv_loc, fv_bin, fv_cmp, fv_chain, fv_and, fv_or, fv_not, fv_ite, fv_tup, fv_lst, fv_dic, fv_star, fv_idx, fv_slice, fv_rev, fv_call, fv_bi, fv_isi, fv_me, fv_comp, fvs_cons, ev_nop, ev_non, ev_bl, ev_int, ev_str, ev_glo, ev_neg_int, evs_nil, thenS_nx, thenS_rt, thenS_exc, asgK_ok, asgK_exc, asgT_some, parA_ok, parB_ok, putA_ok, putB_ok, putC_ok, putR_some, expK_ok, expK_exc, retK_ok, retK_exc, iteK_ok, iteB_t, iteB_f, forA_ok, forB_some, frzA_ref, frzB_l, frzB_d, getK_s, binA_ok, binB_ok, cmpA_ok, cmpB_ok, chA_ok, chB_ok, chC_t, chC_f, andK_ok, andB_t, andB_f, orK_ok, orB_t, orB_f, notK_ok, notB_s, iteE_ok, iteEB_t, iteEB_f, tupK_ok, lstK_ok, dicK_ok, idxA_ok, idxB_ok, slA_ok, slB_n, slB_i, slC_n, slC_i, revK_ok, clA_ok, clB_ok, clC_s, biK_ok, isiK_ok, meA_ok, meB_t, meC_ok, cmA_ok, cmB_s, cmC_ok, esA_f, esA_t, spl_l, spl_t, esB_s, esC_ok, prC_s, prB_s, pr_nil, pr_cons, fin_rt', fin_nx', it_lst, it_ro, it_tup, it_str, tg_nm, tg_tup, sa_nil, sa_cons, ns_0, ns_1, ns_2, ns_3, ns_4, ns_5, ns_6, ns_7, ns_8, ns_9, ns_10, ns_11, ns_12, ns_13, ns_14, ns_15, ns_16, ns_17, ns_18, ns_19, ns_20, ns_21, ns_22, ns_23, ns_24, ns_25, ns_star, sat_ok, osat_nx, osat_rt, List.getElem?_cons_zero, List.getElem?_cons_succ, List.set, List.cons_append, List.nil_append, List.append_nil, wipe_nil, wipe_cons, view_non, view_bl, view_int, view_str, view_tup', view_lst, view_ro, view_dic, view_set, tr_non, tr_bl, tr_int, tr_tup, tr_lst, nl_nil, nl_cons1, nl2, nl3, nl4, nl5, nl6, nl7, nl8, nt0, nt1, nt2, nt3, nt4, mo_join, mo_app, mo_pop, mo_ext, mo_get, bi_lenl, bi_lent, bi_listl, bi_listt, bi_listd, bi_tupl, bi_int, b_add, b_sub, b_addl, b_addt, c_eqi, c_eqs, c_nei, c_nes, c_lti, c_lei, c_gti, c_gei, c_les, i_tup, i_lst, isi_str, isi_tup, isi_int, isi_lst, opt_non, opt_int, List.map_cons, List.map_nil, List.length_cons, List.length_nil, Nat.sub_self, List.replicate_zero, Nat.reduceAdd, Nat.reduceSub, List.reduceReplicate, Option.some.injEq, s1, s2]
    refine osat_thenS (osat_for D.int (fun r ρ σ => σ = [] ∧ ∃ (z : Option D) (m : Int), ρ = [some (.ro (ns.map D.int)), z, some (.lst (ns.map D.int)), some (.int m)]) ⟨rfl, _, _, rfl⟩ ?_ ?_)
    · rintro x r ρ σ ⟨rfl, z, m, rfl⟩
      refine ⟨_, rfl, ?_⟩
      simp only [fx_nil, fx_one, fx_cons, fx_asg, fx_par, fx_put, fx_exp, fx_ret, fx_ite, fx_for, fx_pass, fx_frz, fv_loc, fv_bin, fv_cmp, fv_chain, fv_and, fv_or, fv_not, fv_ite, fv_tup, fv_lst, fv_dic, fv_star, fv_idx, fv_slice, fv_rev, fv_call, fv_bi, fv_isi, fv_me, fv_comp, fvs_cons, ev_nop, ev_non, ev_bl, ev_int, ev_str, ev_glo, ev_neg_int, evs_nil, thenS_nx, thenS_rt, thenS_exc, asgK_ok, asgK_exc, asgT_some, parA_ok, parB_ok, putA_ok, putB_ok, putC_ok, putR_some, expK_ok, expK_exc, retK_ok, retK_exc, iteK_ok, iteB_t, iteB_f, forA_ok, forB_some, frzA_ref, frzB_l, frzB_d, getK_s, binA_ok, binB_ok, cmpA_ok, cmpB_ok, chA_ok, chB_ok, chC_t, chC_f, andK_ok, andB_t, andB_f, orK_ok, orB_t, orB_f, notK_ok, notB_s, iteE_ok, iteEB_t, iteEB_f, tupK_ok, lstK_ok, dicK_ok, idxA_ok, idxB_ok, slA_ok, slB_n, slB_i, slC_n, slC_i, revK_ok, clA_ok, clB_ok, clC_s, biK_ok, isiK_ok, meA_ok, meB_t, meC_ok, cmA_ok, cmB_s, cmC_ok, esA_f, esA_t, spl_l, spl_t, esB_s, esC_ok, prC_s, prB_s, pr_nil, pr_cons, fin_rt', fin_nx', it_lst, it_ro, it_tup, it_str, tg_nm, tg_tup, sa_nil, sa_cons, ns_0, ns_1, ns_2, ns_3, ns_4, ns_5, ns_6, ns_7, ns_8, ns_9, ns_10, ns_11, ns_12, ns_13, ns_14, ns_15, ns_16, ns_17, ns_18, ns_19, ns_20, ns_21, ns_22, ns_23, ns_24, ns_25, ns_star, sat_ok, osat_nx, osat_rt, List.getElem?_cons_zero, List.getElem?_cons_succ, List.set, List.cons_append, List.nil_append, List.append_nil, wipe_nil, wipe_cons, view_non, view_bl, view_int, view_str, view_tup', view_lst, view_ro, view_dic, view_set, tr_non, tr_bl, tr_int, tr_tup, tr_lst, nl_nil, nl_cons1, nl2, nl3, nl4, nl5, nl6, nl7, nl8, nt0, nt1, nt2, nt3, nt4, mo_join, mo_app, mo_pop, mo_ext, mo_get, bi_lenl, bi_lent, bi_listl, bi_listt, bi_listd, bi_tupl, bi_int, b_add, b_sub, b_addl, b_addt, c_eqi, c_eqs, c_nei, c_nes, c_lti, c_lei, c_gti, c_gei, c_les, i_tup, i_lst, isi_str, isi_tup, isi_int, isi_lst, opt_non, opt_int, List.map_cons, List.map_nil, List.length_cons, List.length_nil, Nat.sub_self, List.replicate_zero, Nat.reduceAdd, Nat.reduceSub, List.reduceReplicate, Option.some.injEq, t5, t10, t11]
      exact ⟨trivial, _, _, rfl⟩
    · rintro ρ σ ⟨rfl, z, m, rfl⟩
      have s3 : revD true (.lst (ns.map D.int)) [] = .ok (.ref 0) [.lst (ns.reverse.map D.int)] := by
        unfold revD
        show newL true (ns.map D.int).reverse [] = _
        rw [newL_t (by rw [List.length_reverse]; exact hl), List.map_reverse]
        rfl
      simp only [fx_nil, fx_one, fx_cons, fx_asg, fx_par, fx_put, fx_exp, fx_ret, fx_ite, fx_for, fx_pass, fx_frz, fv_loc, fv_bin, fv_cmp, fv_chain, fv_and, fv_or, fv_not, fv_ite, fv_tup, fv_lst, fv_dic, fv_star, fv_idx, fv_slice, fv_rev, fv_call, fv_bi, fv_isi, fv_me, fv_comp, fvs_cons, ev_nop, ev_non, ev_bl, ev_int, ev_str, ev_glo, ev_neg_int, evs_nil, thenS_nx, thenS_rt, thenS_exc, asgK_ok, asgK_exc, asgT_some, parA_ok, parB_ok, putA_ok, putB_ok, putC_ok, putR_some, expK_ok, expK_exc, retK_ok, retK_exc, iteK_ok, iteB_t, iteB_f, forA_ok, forB_some, frzA_ref, frzB_l, frzB_d, getK_s, binA_ok, binB_ok, cmpA_ok, cmpB_ok, chA_ok, chB_ok, chC_t, chC_f, andK_ok, andB_t, andB_f, orK_ok, orB_t, orB_f, notK_ok, notB_s, iteE_ok, iteEB_t, iteEB_f, tupK_ok, lstK_ok, dicK_ok, idxA_ok, idxB_ok, slA_ok, slB_n, slB_i, slC_n, slC_i, revK_ok, clA_ok, clB_ok, clC_s, biK_ok, isiK_ok, meA_ok, meB_t, meC_ok, cmA_ok, cmB_s, cmC_ok, esA_f, esA_t, spl_l, spl_t, esB_s, esC_ok, prC_s, prB_s, pr_nil, pr_cons, fin_rt', fin_nx', it_lst, it_ro, it_tup, it_str, tg_nm, tg_tup, sa_nil, sa_cons, ns_0, ns_1, ns_2, ns_3, ns_4, ns_5, ns_6, ns_7, ns_8, ns_9, ns_10, ns_11, ns_12, ns_13, ns_14, ns_15, ns_16, ns_17, ns_18, ns_19, ns_20, ns_21, ns_22, ns_23, ns_24, ns_25, ns_star, sat_ok, osat_nx, osat_rt, List.getElem?_cons_zero, List.getElem?_cons_succ, List.set, List.cons_append, List.nil_append, List.append_nil, wipe_nil, wipe_cons, view_non, view_bl, view_int, view_str, view_tup', view_lst, view_ro, view_dic, view_set, tr_non, tr_bl, tr_int, tr_tup, tr_lst, nl_nil, nl_cons1, nl2, nl3, nl4, nl5, nl6, nl7, nl8, nt0, nt1, nt2, nt3, nt4, mo_join, mo_app, mo_pop, mo_ext, mo_get, bi_lenl, bi_lent, bi_listl, bi_listt, bi_listd, bi_tupl, bi_int, b_add, b_sub, b_addl, b_addt, c_eqi, c_eqs, c_nei, c_nes, c_lti, c_lei, c_gti, c_gei, c_les, i_tup, i_lst, isi_str, isi_tup, isi_int, isi_lst, opt_non, opt_int, List.map_cons, List.map_nil, List.length_cons, List.length_nil, Nat.sub_self, List.replicate_zero, Nat.reduceAdd, Nat.reduceSub, List.reduceReplicate, Option.some.injEq, s3]
      have s6 : ∀ τ : Store, leave [] (.ref 1) τ = .ok (.ref 1) τ := fun τ => by
        unfold leave
        split
        · rename_i h; have := (dropOk_iff.mp h).1; unfold D.under at this; simp at this
        · rfl
      simp only [fx_nil, fx_one, fx_cons, fx_asg, fx_par, fx_put, fx_exp, fx_ret, fx_ite, fx_for, fx_pass, fx_frz, fv_loc, fv_bin, fv_cmp, fv_chain, fv_and, fv_or, fv_not, fv_ite, fv_tup, fv_lst, fv_dic, fv_star, fv_idx, fv_slice, fv_rev, fv_call, fv_bi, fv_isi, fv_me, fv_comp, fvs_cons, ev_nop, ev_non, ev_bl, ev_int, ev_str, ev_glo, ev_neg_int, evs_nil, thenS_nx, thenS_rt, thenS_exc, asgK_ok, asgK_exc, asgT_some, parA_ok, parB_ok, putA_ok, putB_ok, putC_ok, putR_some, expK_ok, expK_exc, retK_ok, retK_exc, iteK_ok, iteB_t, iteB_f, forA_ok, forB_some, frzA_ref, frzB_l, frzB_d, getK_s, binA_ok, binB_ok, cmpA_ok, cmpB_ok, chA_ok, chB_ok, chC_t, chC_f, andK_ok, andB_t, andB_f, orK_ok, orB_t, orB_f, notK_ok, notB_s, iteE_ok, iteEB_t, iteEB_f, tupK_ok, lstK_ok, dicK_ok, idxA_ok, idxB_ok, slA_ok, slB_n, slB_i, slC_n, slC_i, revK_ok, clA_ok, clB_ok, clC_s, biK_ok, isiK_ok, meA_ok, meB_t, meC_ok, cmA_ok, cmB_s, cmC_ok, esA_f, esA_t, spl_l, spl_t, esB_s, esC_ok, prC_s, prB_s, pr_nil, pr_cons, fin_rt', fin_nx', it_lst, it_ro, it_tup, it_str, tg_nm, tg_tup, sa_nil, sa_cons, ns_0, ns_1, ns_2, ns_3, ns_4, ns_5, ns_6, ns_7, ns_8, ns_9, ns_10, ns_11, ns_12, ns_13, ns_14, ns_15, ns_16, ns_17, ns_18, ns_19, ns_20, ns_21, ns_22, ns_23, ns_24, ns_25, ns_star, sat_ok, osat_nx, osat_rt, List.getElem?_cons_zero, List.getElem?_cons_succ, List.set, List.cons_append, List.nil_append, List.append_nil, wipe_nil, wipe_cons, view_non, view_bl, view_int, view_str, view_tup', view_lst, view_ro, view_dic, view_set, tr_non, tr_bl, tr_int, tr_tup, tr_lst, nl_nil, nl_cons1, nl2, nl3, nl4, nl5, nl6, nl7, nl8, nt0, nt1, nt2, nt3, nt4, mo_join, mo_app, mo_pop, mo_ext, mo_get, bi_lenl, bi_lent, bi_listl, bi_listt, bi_listd, bi_tupl, bi_int, b_add, b_sub, b_addl, b_addt, c_eqi, c_eqs, c_nei, c_nes, c_lti, c_lei, c_gti, c_gei, c_les, i_tup, i_lst, isi_str, isi_tup, isi_int, isi_lst, opt_non, opt_int, List.map_cons, List.map_nil, List.length_cons, List.length_nil, Nat.sub_self, List.replicate_zero, Nat.reduceAdd, Nat.reduceSub, List.reduceReplicate, Option.some.injEq, pairUp_s, pairUp_nil, puB_s, dicB_s, mergeD_cons, mergeD_nil, putD_nil, putD_cons, inrI, ofStr_inj, String.reduceEq, if_false, newD_t, s6, Nat.reduceLeDiff, decide_true, Nat.zero_add, Nat.reduceAdd]
      exact ⟨trivial, m, rfl⟩
  obtain ⟨d, σ, e, rfl, mx, rfl⟩ := h.ex
  exact ⟨_, ⟨by show ns.reverse.length ≤ 63; rw [List.length_reverse]; exact hn, Nat.le_refl _⟩, e⟩
end Iv

set_option Elab.async false
set_option linter.all false
/-! the evaluator's rules, further: objects, loops' items, lists -/
namespace Iv
open PySem L2
section
variable {α β : Type} {x y : α} {xs ys zs : List α} {n : Nat}
theorem x_app0 : [] ++ xs = xs := (rfl)
theorem x_app1 : (x :: xs) ++ ys = x :: (xs ++ ys) := (rfl)
theorem x_appn : xs ++ [] = xs := List.append_nil xs
theorem x_get0 : (x :: xs)[0]? = some x := (rfl)
theorem x_get1 : (x :: xs)[n + 1]? = xs[n]? := (rfl)
theorem x_len0 : ([] : List α).length = 0 := (rfl)
theorem x_len1 : (x :: xs).length = xs.length + 1 := (rfl)
theorem x_map0 {f : α → β} : [].map f = [] := (rfl)
theorem x_map1 {f : α → β} : (x :: xs).map f = f x :: xs.map f := (rfl)
theorem x_set0 : (x :: xs).set 0 y = y :: xs := (rfl)
theorem x_set1 : (x :: xs).set (n + 1) y = x :: xs.set n y := (rfl)
theorem x_rep0 : List.replicate 0 x = [] := (rfl)
theorem x_sub : n - n = 0 := Nat.sub_self n
theorem x_some : (some x = some y) = (x = y) := by simp
theorem x_nt : (!true) = false := (rfl)
theorem x_nf : (!false) = true := (rfl)
theorem x_at {b : Bool} : (true && b) = b := (rfl)
theorem x_af {b : Bool} : (false && b) = false := (rfl)
theorem x_ot {b : Bool} : (true || b) = true := (rfl)
theorem x_of {b : Bool} : (false || b) = b := (rfl)
theorem x_any0 {p : α → Bool} : [].any p = false := (rfl)
theorem x_any1 {p : α → Bool} : (x :: xs).any p = (p x || xs.any p) := (rfl)
theorem x_emp0 : ([] : List α).isEmpty = true := (rfl)
theorem x_emp1 : (x :: xs).isEmpty = false := (rfl)
theorem x_drop0 : (x :: xs).drop 1 = xs := (rfl)
end
section
variable {t : List Ty} {x : Str} {i : Int} {b : Bool} {xs : List D} {ks : List Key}
theorem y_ss : isTy .str (.str x) = true := (rfl)
theorem y_st : isTy .str (.tup xs) = false := (rfl)
theorem y_si : isTy .str (.int i) = false := (rfl)
theorem y_sb : isTy .str (.bl b) = false := (rfl)
theorem y_sn : isTy .str .non = false := (rfl)
theorem y_sl : isTy .str (.lst xs) = false := (rfl)
theorem y_sd : isTy .str (.dic ks xs) = false := (rfl)
theorem y_ts : isTy .tup (.str x) = false := (rfl)
theorem y_tt : isTy .tup (.tup xs) = true := (rfl)
theorem y_ti : isTy .tup (.int i) = false := (rfl)
theorem y_tb : isTy .tup (.bl b) = false := (rfl)
theorem y_tn : isTy .tup .non = false := (rfl)
theorem y_tl : isTy .tup (.lst xs) = false := (rfl)
theorem y_td : isTy .tup (.dic ks xs) = false := (rfl)
theorem y_is : isTy .int (.str x) = false := (rfl)
theorem y_it : isTy .int (.tup xs) = false := (rfl)
theorem y_ii : isTy .int (.int i) = true := (rfl)
theorem y_ib : isTy .int (.bl b) = true := (rfl)
theorem y_in : isTy .int .non = false := (rfl)
theorem y_il : isTy .int (.lst xs) = false := (rfl)
theorem y_id : isTy .int (.dic ks xs) = false := (rfl)
theorem y_bs : isTy .bool (.str x) = false := (rfl)
theorem y_bt : isTy .bool (.tup xs) = false := (rfl)
theorem y_bi : isTy .bool (.int i) = false := (rfl)
theorem y_bb : isTy .bool (.bl b) = true := (rfl)
theorem y_bn : isTy .bool .non = false := (rfl)
theorem y_bl : isTy .bool (.lst xs) = false := (rfl)
theorem y_bd : isTy .bool (.dic ks xs) = false := (rfl)
variable {σ : Store}
theorem isi_bl {ts : List Ty} : isiD ts (.bl b) σ = .ok (.bl (ts.any fun t => isTy t (.bl b))) σ := (rfl)
theorem isi_non {ts : List Ty} : isiD ts .non σ = .ok (.bl (ts.any fun t => isTy t .non)) σ := (rfl)
theorem isi_dic {ts : List Ty} : isiD ts (.dic ks xs) σ = .ok (.bl (ts.any fun t => isTy t (.dic ks xs))) σ := (rfl)
end
section
variable {Φ : CallSem} {ρ : Env} {σ : Store}
/-! attributes -/
def fldA (x : Str) (r : Res D) : Res D := r.bind fun y σ1 => fldD y x σ1
theorem fv_fld {o : Ex} {x : Str} : ev Φ (.fld o x) ρ σ = fldA x (ev Φ o ρ σ) := by rw [ev] <;> rfl
theorem fldA_ok {x : Str} {y : D} : fldA x (.ok y σ) = fldD y x σ := (rfl)
theorem fld_ref {x : Str} {n : Nat} : fldD (.ref n) x σ = fldC x σ[n]? σ := (rfl)
def fldL (o : Option D) (σ : Store) : Res D := match o with
  | some d => .ok d σ
  | none => .bad
theorem fldL_s {d : D} : fldL (some d) σ = .ok d σ := (rfl)
def lookF (x : Str) (fs : List (Str × D)) : Option D := fs.lookup x
theorem fldC_o {x c : Str} {fs : List (Str × D)} : fldC x (some (.obj c fs)) σ = fldL (lookF x fs) σ := by
  unfold fldC fldL lookF
  dsimp only
  all_goals (cases fs.lookup x <;> rfl)
theorem lookF_cons {x k : Str} {v : D} {fs : List (Str × D)} : lookF x ((k, v) :: fs) = if x = k then some v else lookF x fs := by
  unfold lookF
  rw [List.lookup_cons]
  by_cases h : x = k
  · simp [h]
  · have : (x == k) = false := by simpa using h
    rw [this, if_neg h]
theorem isObj_ref {c : Str} {n : Nat} : isObj c (.ref n) σ = isObjC c σ[n]? := (rfl)
theorem isObjC_o {c : Str} {fs : List (Str × D)} : isObjC c (some (.obj c fs)) = true := by unfold isObjC; simp
/-! making an instance -/
def mkE (n : Nat) (r : Res D) : Res D := r.bind fun v σ3 => match v with
  | .non => .ok (.ref n) σ3
  | _ => .bad
theorem mkE_ok {n : Nat} : mkE n (.ok .non σ) = .ok (.ref n) σ := (rfl)
def mkC (Φ : CallSem) (c : Str) (f : Nat) (σ2 : Store) (o : Option (List D)) : Res D := match o with
  | some ds => mkE σ2.length (Φ f ds (σ2 ++ [.obj c []]))
  | none => .bad
theorem mkC_s {c : Str} {f : Nat} {ds : List D} : mkC Φ c f σ (some ds) = mkE σ.length (Φ f ds (σ ++ [.obj c []])) := (rfl)
def mkrB (Φ : CallSem) (c : Str) (f : Nat) (dv : List D) (pm : List Nat) (xs : List D) (r : Res (List D)) : Res D := r.bind fun ys σ2 => mkC Φ c f σ2 (permD (.ref σ2.length :: (xs ++ ys ++ dv)) pm)
theorem mkB_ok {c : Str} {f : Nat} {dv xs ys : List D} {pm : List Nat} : mkrB Φ c f dv pm xs (.ok ys σ) = mkC Φ c f σ (permD (.ref σ.length :: (xs ++ ys ++ dv)) pm) := (rfl)
def mkA (Φ : CallSem) (c : Str) (f : Nat) (ks : List Ex) (dv : List D) (pm : List Nat) (ρ : Env) (r : Res (List D)) : Res D := r.bind fun xs σ1 => mkrB Φ c f dv pm xs (evs Φ ks ρ σ1)
theorem mkA_ok {c : Str} {f : Nat} {ks : List Ex} {dv xs : List D} {pm : List Nat} : mkA Φ c f ks dv pm ρ (.ok xs σ) = mkrB Φ c f dv pm xs (evs Φ ks ρ σ) := (rfl)
theorem fv_mk {c : Str} {f : Nat} {es ks : List Ex} {dv : List D} {pm : List Nat} : ev Φ (.mk c f es ks dv pm) ρ σ = mkA Φ c f ks dv pm ρ (evs Φ es ρ σ) := by rw [ev] <;> rfl
/-! methods of own classes -/
def mcD (Φ : CallSem) (f : Nat) (dv : List D) (pm : List Nat) (x : D) (xs : List D) (r : Res (List D)) : Res D := r.bind fun ys σ3 => clC Φ f σ3 (permD (x :: (xs ++ ys ++ dv)) pm)
theorem mcD_ok {f : Nat} {dv xs ys : List D} {pm : List Nat} {x : D} : mcD Φ f dv pm x xs (.ok ys σ) = clC Φ f σ (permD (x :: (xs ++ ys ++ dv)) pm) := (rfl)
def mcC (Φ : CallSem) (f : Nat) (ks : List Ex) (dv : List D) (pm : List Nat) (ρ : Env) (x : D) (r : Res (List D)) : Res D := r.bind fun xs σ2 => mcD Φ f dv pm x xs (evs Φ ks ρ σ2)
theorem mcC_ok {f : Nat} {ks : List Ex} {dv xs : List D} {pm : List Nat} {x : D} : mcC Φ f ks dv pm ρ x (.ok xs σ) = mcD Φ f dv pm x xs (evs Φ ks ρ σ) := (rfl)
def mcB (Φ : CallSem) (f : Nat) (es ks : List Ex) (dv : List D) (pm : List Nat) (ρ : Env) (x : D) (σ : Store) (b : Bool) : Res D := if b then mcC Φ f ks dv pm ρ x (evs Φ es ρ σ) else .bad
theorem mcB_t {f : Nat} {es ks : List Ex} {dv : List D} {pm : List Nat} {x : D} : mcB Φ f es ks dv pm ρ x σ true = mcC Φ f ks dv pm ρ x (evs Φ es ρ σ) := (rfl)
def mcA (Φ : CallSem) (c : Str) (f : Nat) (es ks : List Ex) (dv : List D) (pm : List Nat) (ρ : Env) (r : Res D) : Res D := r.bind fun x σ1 => mcB Φ f es ks dv pm ρ x σ1 (isObj c x σ1)
theorem mcA_ok {c : Str} {f : Nat} {es ks : List Ex} {dv : List D} {pm : List Nat} {x : D} : mcA Φ c f es ks dv pm ρ (.ok x σ) = mcB Φ f es ks dv pm ρ x σ (isObj c x σ) := (rfl)
theorem fv_mcall {c m : Str} {f : Nat} {o : Ex} {es ks : List Ex} {dv : List D} {pm : List Nat} : ev Φ (.mcall c m f o es ks dv pm) ρ σ = mcA Φ c f es ks dv pm ρ (ev Φ o ρ σ) := by rw [ev] <;> rfl
def msD (Φ : CallSem) (f np : Nat) (x y : D) (σ : Store) : Res D := match y with
  | .tup ys => if ys.length + 1 = np then Φ f (x :: ys) σ else .bad
  | _ => .bad
theorem msD_t {f np : Nat} {x : D} {ys : List D} (h : ys.length + 1 = np) : msD Φ f np x (.tup ys) σ = Φ f (x :: ys) σ := if_pos h
def msC (Φ : CallSem) (f np : Nat) (x : D) (r : Res D) : Res D := r.bind fun y σ2 => msD Φ f np x y σ2
theorem msC_ok {f np : Nat} {x y : D} : msC Φ f np x (.ok y σ) = msD Φ f np x y σ := (rfl)
def msB (Φ : CallSem) (f np : Nat) (e : Ex) (ρ : Env) (x : D) (σ : Store) (b : Bool) : Res D := if b then msC Φ f np x (ev Φ e ρ σ) else .bad
theorem msB_t {f np : Nat} {e : Ex} {x : D} : msB Φ f np e ρ x σ true = msC Φ f np x (ev Φ e ρ σ) := (rfl)
def msA (Φ : CallSem) (c : Str) (f np : Nat) (e : Ex) (ρ : Env) (r : Res D) : Res D := r.bind fun x σ1 => msB Φ f np e ρ x σ1 (isObj c x σ1)
theorem msA_ok {c : Str} {f np : Nat} {e : Ex} {x : D} : msA Φ c f np e ρ (.ok x σ) = msB Φ f np e ρ x σ (isObj c x σ) := (rfl)
theorem fv_mcallS {c m : Str} {f np : Nat} {o e : Ex} : ev Φ (.mcallS c m f np o e) ρ σ = msA Φ c f np e ρ (ev Φ o ρ σ) := by
  rw [ev]
  unfold msA msB msC msD
  rfl
/-! o.x = e -/
def sfC (ρ : Env) (o : Option Store) : Out := match o with
  | some σ => .nx ρ σ
  | none => .bad
theorem sfC_s : sfC ρ (some σ) = .nx ρ σ := (rfl)
def sfB (c x : Str) (ρ : Env) (v : D) (r : Res D) : Out := Out.of r fun y σ2 => sfC ρ (putFld c x y v σ2)
theorem sfB_ok {c x : Str} {v y : D} : sfB c x ρ v (.ok y σ) = sfC ρ (putFld c x y v σ) := (rfl)
def sfA (Φ : CallSem) (c : Str) (o : Ex) (x : Str) (ρ : Env) (r : Res D) : Out := Out.of r fun v σ1 => sfB c x ρ v (ev Φ o ρ σ1)
theorem sfA_ok {c x : Str} {o : Ex} {v : D} : sfA Φ c o x ρ (.ok v σ) = sfB c x ρ v (ev Φ o ρ σ) := (rfl)
theorem fx_sfld {c x : Str} {o e : Ex} : ex Φ (.sfld c o x e) ρ σ = sfA Φ c o x ρ (ev Φ e ρ σ) := by rw [ex] <;> rfl
theorem putFld_ref {c x : Str} {n : Nat} {v : D} : putFld c x (.ref n) v σ = putFC c x n v σ[n]? σ := (rfl)
theorem putFC_o {c x : Str} {n : Nat} {v : D} {fs : List (Str × D)} (h : fs.length < 1000) : putFC c x n v (some (.obj c fs)) σ = some (σ.set n (.obj c (putO x v fs))) := by
  unfold putFC
  exact if_pos ⟨rfl, h⟩
theorem pF0 {c x : Str} {n : Nat} {v : D} : putFC c x n v (some (.obj c [])) σ = some (σ.set n (.obj c (putO x v []))) := putFC_o (by simp)
theorem pF1 {c x : Str} {n : Nat} {v : D} {a0 : Str × D} : putFC c x n v (some (.obj c [a0])) σ = some (σ.set n (.obj c (putO x v [a0]))) := putFC_o (by simp)
theorem pF2 {c x : Str} {n : Nat} {v : D} {a0 a1 : Str × D} : putFC c x n v (some (.obj c [a0, a1])) σ = some (σ.set n (.obj c (putO x v [a0, a1]))) := putFC_o (by simp)
theorem pF3 {c x : Str} {n : Nat} {v : D} {a0 a1 a2 : Str × D} : putFC c x n v (some (.obj c [a0, a1, a2])) σ = some (σ.set n (.obj c (putO x v [a0, a1, a2]))) := putFC_o (by simp)
theorem pF4 {c x : Str} {n : Nat} {v : D} {a0 a1 a2 a3 : Str × D} : putFC c x n v (some (.obj c [a0, a1, a2, a3])) σ = some (σ.set n (.obj c (putO x v [a0, a1, a2, a3]))) := putFC_o (by simp)
theorem pF5 {c x : Str} {n : Nat} {v : D} {a0 a1 a2 a3 a4 : Str × D} : putFC c x n v (some (.obj c [a0, a1, a2, a3, a4])) σ = some (σ.set n (.obj c (putO x v [a0, a1, a2, a3, a4]))) := putFC_o (by simp)
theorem pF6 {c x : Str} {n : Nat} {v : D} {a0 a1 a2 a3 a4 a5 : Str × D} : putFC c x n v (some (.obj c [a0, a1, a2, a3, a4, a5])) σ = some (σ.set n (.obj c (putO x v [a0, a1, a2, a3, a4, a5]))) := putFC_o (by simp)
theorem pF7 {c x : Str} {n : Nat} {v : D} {a0 a1 a2 a3 a4 a5 a6 : Str × D} : putFC c x n v (some (.obj c [a0, a1, a2, a3, a4, a5, a6])) σ = some (σ.set n (.obj c (putO x v [a0, a1, a2, a3, a4, a5, a6]))) := putFC_o (by simp)
theorem pF8 {c x : Str} {n : Nat} {v : D} {a0 a1 a2 a3 a4 a5 a6 a7 : Str × D} : putFC c x n v (some (.obj c [a0, a1, a2, a3, a4, a5, a6, a7])) σ = some (σ.set n (.obj c (putO x v [a0, a1, a2, a3, a4, a5, a6, a7]))) := putFC_o (by simp)
theorem putO_nil {x : Str} {v : D} : putO x v [] = [(x, v)] := (rfl)
theorem putO_cons {x k : Str} {v w : D} {fs : List (Str × D)} : putO x v ((k, w) :: fs) = if k = x then (k, v) :: fs else (k, w) :: putO x v fs := (rfl)
/-! dict comprehensions, ranges, f-strings -/
def dcC (mu : Bool) (r : Res (List (Key × D))) : Res D := r.bind fun kvs σ2 => newD mu (kvs.map (·.1)) (kvs.map (·.2)) σ2
theorem dcC_ok {mu : Bool} {kvs : List (Key × D)} : dcC mu (.ok kvs σ) = newD mu (kvs.map (·.1)) (kvs.map (·.2)) σ := (rfl)
def dcB (Φ : CallSem) (mu : Bool) (own : List Nat) (t : Tg) (c kx vx : Ex) (ρ : Env) (σ : Store) (o : Option (List D)) : Res D := match o with
  | some xs => dcC mu (dcompL t (ev Φ c) (ev Φ kx) (ev Φ vx) (wipeE ρ own) xs [] σ)
  | none => .bad
theorem dcB_s {mu : Bool} {own : List Nat} {t : Tg} {c kx vx : Ex} {xs : List D} : dcB Φ mu own t c kx vx ρ σ (some xs) = dcC mu (dcompL t (ev Φ c) (ev Φ kx) (ev Φ vx) (wipeE ρ own) xs [] σ) := (rfl)
def dcA (Φ : CallSem) (mu : Bool) (own : List Nat) (t : Tg) (k : IK) (c kx vx : Ex) (ρ : Env) (r : Res (List D)) : Res D := r.bind fun ds σ1 => dcB Φ mu own t c kx vx ρ σ1 (itemsOf σ1 k ds)
theorem dcA_ok {mu : Bool} {own : List Nat} {t : Tg} {k : IK} {c kx vx : Ex} {ds : List D} : dcA Φ mu own t k c kx vx ρ (.ok ds σ) = dcB Φ mu own t c kx vx ρ σ (itemsOf σ k ds) := (rfl)
theorem fv_dcomp {mu : Bool} {own : List Nat} {t : Tg} {k : IK} {its : List Ex} {c kx vx : Ex} : ev Φ (.dcomp mu own t k its c kx vx) ρ σ = dcA Φ mu own t k c kx vx ρ (evs Φ its ρ σ) := by rw [ev] <;> rfl
def rgB (tp mu : Bool) (σ : Store) (o : Option (List D)) : Res D := match o with
  | some xs => if tp then newT xs σ else newL mu xs σ
  | none => .bad
theorem rgB_t {mu : Bool} {xs : List D} : rgB true mu σ (some xs) = newT xs σ := (rfl)
theorem rgB_f {mu : Bool} {xs : List D} : rgB false mu σ (some xs) = newL mu xs σ := (rfl)
def rgA (tp mu : Bool) (r : Res (List D)) : Res D := r.bind fun ds σ1 => rgB tp mu σ1 (rngOf ds)
theorem rgA_ok {tp mu : Bool} {ds : List D} : rgA tp mu (.ok ds σ) = rgB tp mu σ (rngOf ds) := (rfl)
theorem fv_rgs {tp mu : Bool} {es : List Ex} : ev Φ (.rgs tp mu es) ρ σ = rgA tp mu (evs Φ es ρ σ) := by rw [ev] <;> rfl
def fsB (σ : Store) (o : Option Str) : Res D := match o with
  | some x => .ok (.str x) σ
  | none => .bad
theorem fsB_s {x : Str} : fsB σ (some x) = .ok (.str x) σ := (rfl)
def fsA (r : Res (List D)) : Res D := match r with
  | .ok ds σ1 => fsB σ1 (fjoin ds Str.empty)
  | _ => .bad
theorem fsA_ok {ds : List D} : fsA (.ok ds σ) = fsB σ (fjoin ds Str.empty) := (rfl)
theorem fv_fstr {es : List Ex} : ev Φ (.fstr es) ρ σ = fsA (evs Φ es ρ σ) := by
  rw [ev]
  unfold fsA fsB
  rfl
/-! none of them is starred -/
section
variable {c m x : Str} {f np : Nat} {o e kx vx : Ex} {es ks its : List Ex} {dv : List D} {pm own : List Nat} {tp mu : Bool} {t : Tg} {k : IK}
theorem ns_fld : Ex.isStar (.fld o x) = false := (rfl)
theorem ns_mk : Ex.isStar (.mk c f es ks dv pm) = false := (rfl)
theorem ns_mcall : Ex.isStar (.mcall c m f o es ks dv pm) = false := (rfl)
theorem ns_mcallS : Ex.isStar (.mcallS c m f np o e) = false := (rfl)
theorem ns_rgs : Ex.isStar (.rgs tp mu es) = false := (rfl)
theorem ns_fstr : Ex.isStar (.fstr es) = false := (rfl)
theorem ns_dcomp : Ex.isStar (.dcomp mu own t k its e kx vx) = false := (rfl)
end
/-! what is walked -/
theorem seqDD_ll {xs ys : List D} : seqDD (.lst xs) (.lst ys) = some (xs, ys) := (rfl)
theorem seqDD_tt {xs ys : List D} : seqDD (.tup xs) (.tup ys) = some (xs, ys) := (rfl)
theorem it_zip {a b : D} : itemsOf σ .zip [a, b] = (seqDD a b).map zipD := (rfl)
theorem it_enul {xs : List D} : itemsOf σ .enu [.lst xs] = some (enumD xs) := (rfl)
theorem it_enut {xs : List D} : itemsOf σ .enu [.tup xs] = some (enumD xs) := (rfl)
theorem omap_s {α β : Type} {f : α → β} {x : α} : (some x).map f = some (f x) := (rfl)
theorem tg_it {is : List Nat} {ds : List D} : tgD (.tup is) (.it ds) ρ = setAll is ds ρ := (rfl)
theorem dk_s {x : Str} : dKey (.str x) = some (.inr x) := (rfl)
theorem dk_i {x : Int} : dKey (.int x) = some (.inl x) := (rfl)
theorem fl0 {t : Tg} {b : Env → Store → Out} : forL t b [] ρ σ = .nx ρ σ := by rw [forL]
/-! dicts -/
def idxL (o : Option D) (σ : Store) : Res D := match o with
  | some d => .ok d σ
  | none => .bad
theorem idxL_s {d : D} : idxL (some d) σ = .ok d σ := (rfl)
theorem i_dics {ks : List Key} {vs : List D} {x : Str} : idxD (.dic ks vs) (.str x) σ = idxL (look ks vs (.inr x)) σ := by
  unfold idxD idxL; rfl
theorem i_dici {ks : List Key} {vs : List D} {x : Int} : idxD (.dic ks vs) (.int x) σ = idxL (look ks vs (.inl x)) σ := by
  unfold idxD idxL; rfl
def lkr (ks : List Str) (vs : List D) (x : Str) : Option D := look (ks.map .inr) vs (.inr x)
theorem lkr_nil {vs : List D} {x : Str} : lkr [] vs x = none := (rfl)
theorem lkr_cons {k x : Str} {ks : List Str} {v : D} {vs : List D} : lkr (k :: ks) (v :: vs) x = if k = x then some v else lkr ks vs x := by
  unfold lkr
  rw [List.map_cons, look_cons]
  by_cases h : k = x
  · subst h; simp
  · rw [if_neg h, if_neg (by simpa using h)]
theorem i_rod {ks : List Str} {vs : List D} {x : Str} : idxD (.rod ks vs) (.str x) σ = idxL (lkr ks vs x) σ := by
  unfold idxD idxL lkr; rfl
theorem g_rod {ks : List Str} {vs : List D} {x : Str} : meD .get (.rod ks vs) [.str x] σ = .ok ((lkr ks vs x).getD .non) σ := by
  unfold meD lkr; rfl
theorem g_dic {ks : List Key} {vs : List D} {x : Str} : meD .get (.dic ks vs) [.str x] σ = .ok ((look ks vs (.inr x)).getD .non) σ := by
  unfold meD; simp only [view_dic, dKey]
theorem g_dic2 {ks : List Key} {vs : List D} {x : Str} {d : D} : meD .get (.dic ks vs) [.str x, d] σ = .ok ((look ks vs (.inr x)).getD d) σ := by
  unfold meD; simp only [view_dic, dKey]
theorem mo_rod {ks : List Str} {vs : List D} : meOk .get (.rod ks vs) = true := (rfl)
theorem mo_dic {ks : List Key} {vs : List D} : meOk .get (.dic ks vs) = true := (rfl)
theorem mo_split {x : Str} : meOk .split (.str x) = true := (rfl)
theorem view_rod {ks : List Str} {vs : List D} : view σ (.rod ks vs) = .rod ks vs := (rfl)
theorem in_dic {ks : List Key} {vs : List D} {x : Str} : cmpD .isin (.str x) (.dic ks vs) σ = .ok (.bl (look ks vs (.inr x)).isSome) σ := by
  unfold cmpD; simp only [view_dic, view_str, dKey]
theorem nin_dic {ks : List Key} {vs : List D} {x : Str} : cmpD .notin (.str x) (.dic ks vs) σ = .ok (.bl (!(look ks vs (.inr x)).isSome)) σ := by
  unfold cmpD; simp only [view_dic, view_str, dKey]
theorem in_dici {ks : List Key} {vs : List D} {x : Int} : cmpD .isin (.int x) (.dic ks vs) σ = .ok (.bl (look ks vs (.inl x)).isSome) σ := by
  unfold cmpD; simp only [view_dic, view_int, dKey]
theorem in_rod {ks : List Str} {vs : List D} {x : Str} : cmpD .isin (.str x) (.rod ks vs) σ = .ok (.bl (lkr ks vs x).isSome) σ := by
  unfold cmpD lkr; rfl
theorem nin_rod {ks : List Str} {vs : List D} {x : Str} : cmpD .notin (.str x) (.rod ks vs) σ = .ok (.bl (!(lkr ks vs x).isSome)) σ := by
  unfold cmpD lkr; rfl
theorem getD_s {d e : D} : (some d).getD e = d := (rfl)
theorem getD_n {e : D} : (none : Option D).getD e = e := (rfl)
theorem isS_s {α : Type} {d : α} : (some d).isSome = true := (rfl)
theorem isS_n {α : Type} : (none : Option α).isSome = false := (rfl)
theorem is_non : cmpD .is .non .non σ = .ok (.bl true) σ := (rfl)
theorem is_str {x : Str} : cmpD .is (.str x) .non σ = .ok (.bl false) σ := (rfl)
theorem is_tup {x : List D} : cmpD .is (.tup x) .non σ = .ok (.bl false) σ := (rfl)
theorem is_lst {x : List D} : cmpD .is (.lst x) .non σ = .ok (.bl false) σ := (rfl)
theorem is_int {x : Int} : cmpD .is (.int x) .non σ = .ok (.bl false) σ := (rfl)
theorem isnt_non : cmpD .isnot .non .non σ = .ok (.bl false) σ := (rfl)
theorem isnt_str {x : Str} : cmpD .isnot (.str x) .non σ = .ok (.bl true) σ := (rfl)
theorem isnt_tup {x : List D} : cmpD .isnot (.tup x) .non σ = .ok (.bl true) σ := (rfl)
theorem isnt_lst {x : List D} : cmpD .isnot (.lst x) .non σ = .ok (.bl true) σ := (rfl)
theorem isnt_int {x : Int} : cmpD .isnot (.int x) .non σ = .ok (.bl true) σ := (rfl)
theorem c_lts {i j : Str} : cmpD .lt (.str i) (.str j) σ = .ok (.bl (strLt i j)) σ := (rfl)
/-! under conditions -/
theorem n_lf {xs : List D} (h : xs.length ≤ lim) : newL false xs σ = .ok (.lst xs) σ := newL_f h
theorem n_lt {xs : List D} (h : xs.length ≤ lim) : newL true xs σ = .ok (.ref σ.length) (σ ++ [.lst xs]) := newL_t h
theorem n_t {xs : List D} (h : xs.length ≤ lim) : newT xs σ = .ok (.tup xs) σ := newT_ok h
theorem n_df {ks : List Key} {vs : List D} : newD false ks vs σ = .ok (.dic ks vs) σ := (rfl)
theorem n_dt {ks : List Key} {vs : List D} : newD true ks vs σ = .ok (.ref σ.length) (σ ++ [.dic ks vs]) := (rfl)
theorem i_atl {xs : List D} {i : Nat} (h : i < xs.length) : idxD (.lst xs) (.int (i : Int)) σ = .ok xs[i] σ := by rw [i_lst, atI_nat h]
theorem i_att {xs : List D} {i : Nat} (h : i < xs.length) : idxD (.tup xs) (.int (i : Int)) σ = .ok xs[i] σ := by rw [i_tup, atI_nat h]
theorem atI_natG {α : Type} {xs : List α} {n : Nat} (h : n < xs.length) : atI xs (n : Int) = some (xs[n]'h) := by
  unfold atI ixN
  simp [h]
theorem atI_1 {α : Type} {x y : α} {r : List α} : atI (x :: y :: r) 1 = some y := atI_natG (n := 1) (by simp)
theorem atI_0 {α : Type} {x : α} {r : List α} : atI (x :: r) 0 = some x := atI_zero
theorem atI_2 {α : Type} {x y z : α} {r : List α} : atI (x :: y :: z :: r) 2 = some z := atI_natG (n := 2) (by simp)
theorem atI_3 {α : Type} {x y z w : α} {r : List α} : atI (x :: y :: z :: w :: r) 3 = some w := atI_natG (n := 3) (by simp)
def idS (o : Option D) (σ : Store) : Res D := match o with
  | some d => .ok d σ
  | none => .bad
theorem idS_s {d : D} : idS (some d) σ = .ok d σ := (rfl)
theorem i_l {xs : List D} {i : Int} : idxD (.lst xs) (.int i) σ = idS (atI xs i) σ := by rw [i_lst]; rfl
theorem i_t {xs : List D} {i : Int} : idxD (.tup xs) (.int i) σ = idS (atI xs i) σ := by rw [i_tup]; rfl
theorem b_as {x y : Str} (h : x.length + y.length ≤ lim) : binD .add (.str x) (.str y) σ = .ok (.str (x ++ y)) σ := b_adds h
theorem bi_ls {mu : Bool} {x : Str} (h : x.length ≤ lim) : biD .len mu (.str x) σ = .ok (.int x.length) σ := bi_lens h
theorem bi_ld {mu : Bool} {ks : List Key} {vs : List D} : biD .len mu (.dic ks vs) σ = .ok (.int ks.length) σ := (rfl)
theorem bi_tt {mu : Bool} {xs : List D} : biD .tuple mu (.tup xs) σ = .ok (.tup xs) σ := (rfl)
theorem bi_ib {mu b : Bool} : biD .int mu (.bl b) σ = .ok (.int (if b then 1 else 0)) σ := (rfl)
theorem sl_lin {mu : Bool} {xs : List D} {i : Int} : sliceD mu (.lst xs) (.int i) .non σ = newL mu (cutL xs (some i) none) σ := (rfl)
theorem sl_lni {mu : Bool} {xs : List D} {i : Int} : sliceD mu (.lst xs) .non (.int i) σ = newL mu (cutL xs none (some i)) σ := (rfl)
theorem sl_lii {mu : Bool} {xs : List D} {i j : Int} : sliceD mu (.lst xs) (.int i) (.int j) σ = newL mu (cutL xs (some i) (some j)) σ := (rfl)
theorem sl_tin {mu : Bool} {xs : List D} {i : Int} : sliceD mu (.tup xs) (.int i) .non σ = newT (cutL xs (some i) none) σ := (rfl)
theorem sl_tni {mu : Bool} {xs : List D} {i : Int} : sliceD mu (.tup xs) .non (.int i) σ = newT (cutL xs none (some i)) σ := (rfl)
theorem sl_tii {mu : Bool} {xs : List D} {i j : Int} : sliceD mu (.tup xs) (.int i) (.int j) σ = newT (cutL xs (some i) (some j)) σ := (rfl)
theorem s_t1 {mu : Bool} {xs : List D} {l h : D} {lo hi : Option Int} (h1 : optI l = some lo) (h2 : optI h = some hi) : sliceD mu (.tup xs) l h σ = newT (cutL xs lo hi) σ := sl_tup' h1 h2
theorem cu1 {α : Type} {xs : List α} : cutL xs (some 1) none = xs.drop 1 := cut_from1 xs
theorem cu2 {α : Type} {xs : List α} : cutL xs none (some 1) = xs.take 1 := cut_to1 xs
end
/-! the store: what a call has laid behind -/
section
variable {σ L : Store} {i : Nat} {c : Cell}
theorem st_at : (σ ++ L)[σ.length + i]? = L[i]? := by
  rw [List.getElem?_append_right (by omega)]; congr 1; omega
theorem st_at0 : (σ ++ L)[σ.length]? = L[0]? := st_at (i := 0)
theorem st_set : (σ ++ L).set (σ.length + i) c = σ ++ L.set i c := by
  rw [List.set_append_right _ _ (by omega)]; congr 2; omega
theorem st_set0 : (σ ++ L).set σ.length c = σ ++ L.set 0 c := st_set (i := 0)
theorem st_len : (σ ++ L).length = σ.length + L.length := List.length_append
theorem st_ass {τ : Store} : σ ++ L ++ τ = σ ++ (L ++ τ) := List.append_assoc ..
theorem st_lo {n : Nat} (h : n < σ.length) : (σ ++ L)[n]? = σ[n]? := List.getElem?_append_left h
/-- a call's own cells go, where nothing leads to them -/
theorem leave_gone {d : D} (h : d.under σ.length = true) : leave σ d (σ ++ L) = .ok d σ := leave_app rfl h fun i c e => .inl e
theorem leave_sat' {Q : D → Store → Prop} {σ1 : Store} {d : D} (h : ∀ τ, Q d τ) : (leave σ d σ1).sat Q := by
  unfold leave
  split <;> (rw [sat_ok]; exact h _)
end
end Iv

local macro_rules
  | `(tactic| exists $xs,*) => do
    let ys ← xs.getElems.mapM fun x => `(Lean.Parser.Tactic.simpLemma| $x:term)
    `(tactic| simp (disch := first | assumption | decide | omega) only [Iv.fx_nil, Iv.fx_one, Iv.fx_cons, Iv.fx_asg, Iv.fx_par, Iv.fx_put, Iv.fx_exp, Iv.fx_ret, Iv.fx_ite, Iv.fx_for, Iv.fx_pass, Iv.fx_frz, Iv.fv_loc, Iv.fv_bin, Iv.fv_cmp, Iv.fv_chain, Iv.fv_and, Iv.fv_or, Iv.fv_not, Iv.fv_ite, Iv.fv_tup, Iv.fv_lst, Iv.fv_dic, Iv.fv_star, Iv.fv_idx, Iv.fv_slice, Iv.fv_rev, Iv.fv_call, Iv.fv_bi, Iv.fv_isi, Iv.fv_me, Iv.fv_comp, Iv.fvs_cons, Iv.ev_nop, Iv.ev_non, Iv.ev_bl, Iv.ev_int, Iv.ev_str, Iv.ev_glo, Iv.ev_neg_int, Iv.evs_nil, Iv.thenS_nx, Iv.thenS_rt, Iv.thenS_exc, Iv.asgK_ok, Iv.asgK_exc, Iv.asgT_some, Iv.parA_ok, Iv.parB_ok, Iv.putA_ok, Iv.putB_ok, Iv.putC_ok, Iv.putR_some, Iv.expK_ok, Iv.expK_exc, Iv.retK_ok, Iv.retK_exc, Iv.iteK_ok, Iv.iteB_t, Iv.iteB_f, Iv.forA_ok, Iv.forB_some, Iv.frzA_ref, Iv.frzB_l, Iv.frzB_d, Iv.getK_s, Iv.binA_ok, Iv.binB_ok, Iv.cmpA_ok, Iv.cmpB_ok, Iv.chA_ok, Iv.chB_ok, Iv.chC_t, Iv.chC_f, Iv.andK_ok, Iv.andB_t, Iv.andB_f, Iv.orK_ok, Iv.orB_t, Iv.orB_f, Iv.notK_ok, Iv.notB_s, Iv.iteE_ok, Iv.iteEB_t, Iv.iteEB_f, Iv.tupK_ok, Iv.lstK_ok, Iv.dicK_ok, Iv.idxA_ok, Iv.idxB_ok, Iv.slA_ok, Iv.slB_n, Iv.slB_i, Iv.slC_n, Iv.slC_i, Iv.revK_ok, Iv.clA_ok, Iv.clB_ok, Iv.clC_s, Iv.biK_ok, Iv.isiK_ok, Iv.meA_ok, Iv.meB_t, Iv.meC_ok, Iv.cmA_ok, Iv.cmB_s, Iv.cmC_ok, Iv.esA_f, Iv.esA_t, Iv.spl_l, Iv.spl_t, Iv.esB_s, Iv.esC_ok, Iv.prC_s, Iv.prB_s, Iv.pr_nil, Iv.pr_cons, Iv.fin_rt', Iv.fin_nx', Iv.it_lst, Iv.it_ro, Iv.it_tup, Iv.it_str, Iv.tg_nm, Iv.tg_tup, Iv.sa_nil, Iv.sa_cons, Iv.ns_0, Iv.ns_1, Iv.ns_2, Iv.ns_3, Iv.ns_4, Iv.ns_5, Iv.ns_6, Iv.ns_7, Iv.ns_8, Iv.ns_9, Iv.ns_10, Iv.ns_11, Iv.ns_12, Iv.ns_13, Iv.ns_14, Iv.ns_15, Iv.ns_16, Iv.ns_17, Iv.ns_18, Iv.ns_19, Iv.ns_20, Iv.ns_21, Iv.ns_22, Iv.ns_23, Iv.ns_24, Iv.ns_25, Iv.ns_star, Iv.sat_ok, Iv.osat_nx, Iv.osat_rt, Iv.wipe_nil, Iv.wipe_cons, Iv.view_non, Iv.view_bl, Iv.view_int, Iv.view_str, Iv.view_tup', Iv.view_lst, Iv.view_ro, Iv.view_dic, Iv.view_set, Iv.tr_non, Iv.tr_bl, Iv.tr_int, Iv.tr_tup, Iv.tr_lst, Iv.nl_nil, Iv.nl_cons1, Iv.nl2, Iv.nl3, Iv.nl4, Iv.nl5, Iv.nl6, Iv.nl7, Iv.nl8, Iv.nt0, Iv.nt1, Iv.nt2, Iv.nt3, Iv.nt4, Iv.mo_join, Iv.mo_app, Iv.mo_pop, Iv.mo_ext, Iv.mo_get, Iv.bi_lenl, Iv.bi_lent, Iv.bi_listl, Iv.bi_listt, Iv.bi_listd, Iv.bi_tupl, Iv.bi_int, Iv.b_add, Iv.b_sub, Iv.b_addl, Iv.b_addt, Iv.c_eqi, Iv.c_eqs, Iv.c_nei, Iv.c_nes, Iv.c_lti, Iv.c_lei, Iv.c_gti, Iv.c_gei, Iv.c_les, Iv.isi_str, Iv.isi_tup, Iv.isi_int, Iv.isi_lst, Iv.opt_non, Iv.opt_int, Nat.reduceAdd, Nat.reduceSub, List.reduceReplicate, Iv.vw_ref, Iv.viewC_l, Iv.viewC_d, Iv.rf_idx, Iv.rf_bi, Iv.rf_slice, Iv.rf_rev, Iv.rf_cmp1, Iv.rf_cmp2, Iv.rf_bin1, Iv.rf_bin2, Iv.rf_app, Iv.appC_l, Iv.rf_ext, Iv.extC_l, Iv.rf_pop, Iv.popC_l, Iv.rf_put, Iv.putC_s, Iv.putC_i, Iv.x_app0, Iv.x_app1, Iv.x_appn, Iv.x_get0, Iv.x_get1, Iv.x_len0, Iv.x_len1, Iv.x_map0, Iv.x_map1, Iv.x_set0, Iv.x_set1, Iv.x_rep0, Iv.x_sub, Iv.x_some, Iv.x_nt, Iv.x_nf, Iv.x_at, Iv.x_af, Iv.x_ot, Iv.x_of, Iv.x_any0, Iv.x_any1, Iv.x_emp0, Iv.x_emp1, Iv.x_drop0, Iv.y_ss, Iv.y_st, Iv.y_si, Iv.y_sb, Iv.y_sn, Iv.y_sl, Iv.y_sd, Iv.y_ts, Iv.y_tt, Iv.y_ti, Iv.y_tb, Iv.y_tn, Iv.y_tl, Iv.y_td, Iv.y_is, Iv.y_it, Iv.y_ii, Iv.y_ib, Iv.y_in, Iv.y_il, Iv.y_id, Iv.y_bs, Iv.y_bt, Iv.y_bi, Iv.y_bb, Iv.y_bn, Iv.y_bl, Iv.y_bd, Iv.isi_bl, Iv.isi_non, Iv.isi_dic, Iv.fv_fld, Iv.fldA_ok, Iv.fld_ref, Iv.fldL_s, Iv.fldC_o, Iv.lookF_cons, Iv.isObj_ref, Iv.isObjC_o, Iv.mkE_ok, Iv.mkC_s, Iv.mkB_ok, Iv.mkA_ok, Iv.fv_mk, Iv.mcD_ok, Iv.mcC_ok, Iv.mcB_t, Iv.mcA_ok, Iv.fv_mcall, Iv.msD_t, Iv.msC_ok, Iv.msB_t, Iv.msA_ok, Iv.fv_mcallS, Iv.sfC_s, Iv.sfB_ok, Iv.sfA_ok, Iv.fx_sfld, Iv.putFld_ref, Iv.pF0, Iv.pF1, Iv.pF2, Iv.pF3, Iv.pF4, Iv.pF5, Iv.pF6, Iv.pF7, Iv.pF8, Iv.putO_nil, Iv.putO_cons, Iv.dcC_ok, Iv.dcB_s, Iv.dcA_ok, Iv.fv_dcomp, Iv.rgB_t, Iv.rgB_f, Iv.rgA_ok, Iv.fv_rgs, Iv.fsB_s, Iv.fsA_ok, Iv.fv_fstr, Iv.ns_fld, Iv.ns_mk, Iv.ns_mcall, Iv.ns_mcallS, Iv.ns_rgs, Iv.ns_fstr, Iv.ns_dcomp, Iv.seqDD_ll, Iv.seqDD_tt, Iv.it_zip, Iv.it_enul, Iv.it_enut, Iv.omap_s, Iv.tg_it, Iv.dk_s, Iv.dk_i, Iv.idxL_s, Iv.i_dics, Iv.i_dici, Iv.lkr_nil, Iv.lkr_cons, Iv.i_rod, Iv.g_rod, Iv.g_dic, Iv.g_dic2, Iv.mo_rod, Iv.mo_dic, Iv.mo_split, Iv.view_rod, Iv.in_dic, Iv.nin_dic, Iv.in_dici, Iv.in_rod, Iv.nin_rod, Iv.getD_s, Iv.getD_n, Iv.isS_s, Iv.isS_n, Iv.is_non, Iv.is_str, Iv.is_tup, Iv.is_lst, Iv.is_int, Iv.isnt_non, Iv.isnt_str, Iv.isnt_tup, Iv.isnt_lst, Iv.isnt_int, Iv.c_lts, Iv.n_lf, Iv.n_lt, Iv.n_t, Iv.n_df, Iv.n_dt, Iv.i_atl, Iv.i_att, Iv.atI_1, Iv.atI_0, Iv.atI_2, Iv.atI_3, Iv.idS_s, Iv.i_l, Iv.i_t, Iv.b_as, Iv.bi_ls, Iv.bi_ld, Iv.bi_tt, Iv.bi_ib, Iv.sl_lin, Iv.sl_lni, Iv.sl_lii, Iv.sl_tin, Iv.sl_tni, Iv.sl_tii, Iv.cu1, Iv.cu2, Iv.st_at, Iv.st_at0, Iv.st_set, Iv.st_set0, Iv.st_len, Iv.st_ass, decide_true, decide_false, eq_self, Int.reduceEq, Int.reduceLE, Int.reduceLT, Int.reduceAdd, Int.reduceSub, Int.reduceNeg, Int.cast_ofNat_Int, Nat.reduceEqDiff, String.reduceEq, Iv.ofStr_inj, ↓reduceIte, $ys,*])

set_option Elab.async false
set_option linter.all false
set_option maxHeartbeats 4000000
set_option maxRecDepth 20000
/-! drawing, as functions of the deck -/
namespace Iv
open PySem L2
/-- how draws come -/
class Deck (pr : List Fd) where
  F : Dk → Nat → Nat × Dk
  lt : ∀ δ m, 0 < m → (F δ m).1 < m
  nx : ∀ {δ : Dk} {n : Nat} (m : Nat), δ.ok n → (F δ m).2.ok (n + 1)
  eq : ∀ {k n m : Nat} {δ : Dk} {X : Store}, 1 ≤ k → δ.ok n → n < 1000000000 → 0 < m → m < 1073741824 → callK pr k 13 [.ref 1, .int m] (S δ ++ X) = .ok (.int (F δ m).1) (S (F δ m).2 ++ X)
/-- the deck's draws, bounded -/
class DL (δ : Dk) (n : outParam Nat) : Prop where
  ok : δ.ok n
def dv (pr : List Fd) [Deck pr] (δ : Dk) (m : Nat) : Nat := (Deck.F pr δ m).1
def dn (pr : List Fd) [Deck pr] (δ : Dk) (m : Nat) : Dk := (Deck.F pr δ m).2
section
variable {pr : List Fd} [Deck pr] {δ : Dk} {X : Store} {k n m : Nat}
theorem dv_lt (h : 0 < m) : dv pr δ m < m := Deck.lt δ m h
theorem dn_ok (hδ : δ.ok n) : (dn pr δ m).ok (n + 1) := Deck.nx m hδ
instance [DL δ n] : DL (dn pr δ m) (n + 1) := ⟨dn_ok DL.ok⟩
theorem q_draw [DL δ n] (hn : n < 1000000000) (hk : 1 ≤ k) (hm : 0 < m) (hm2 : m < 1073741824) : callK pr k 13 [.ref 1, .int (m : Nat)] (S δ ++ X) = .ok (.int (dv pr δ m)) (S (dn pr δ m) ++ X) := Deck.eq hk DL.ok hn hm hm2
end
def mkDrawB (a b c : Int) : Fd := ⟨2, 5, [.put (.loc 0) (.str "draws") (.bin .add (.idx (.loc 0) (.str "draws")) (.int 1)), .par 3 2 (.idx (.loc 0) (.str "draws")) (.idx (.loc 0) (.str "mixed")), .ite (.cmp .ne (.idx (.loc 0) (.str "cells")) (.lst false [])) [.asg (.nm 4) (.me .pop (.idx (.loc 0) (.str "cells")) []), .ite (.cmp .ge (.loc 4) (.bin .pow (.int 10) (.int 18))) [.exp (.me .append (.idx (.loc 0) (.str "cells")) [.bin .fdiv (.loc 4) (.loc 1)]), .ret (.bin .mod (.bi .int false (.loc 4)) (.loc 1))] [], .asg (.nm 2) (.bin .add (.loc 2) (.bin .mod (.bi .int false (.loc 4)) (.int 2147483629)))] [], .asg (.nm 2) (.bin .mod (.bin .mul (.bin .mod (.bi .int false (.bin .add (.bin .add (.loc 2) (.bin .mul (.bin .mul (.int a) (.loc 3)) (.loc 3))) (.int b))) (.int 2147483629)) (.int 40692)) (.int 2147483647)), .asg (.nm 2) (.bin .mod (.bi .int false (.bin .add (.bin .add (.bin .mul (.loc 2) (.loc 2)) (.bin .mul (.int 69621) (.loc 3))) (.int c))) (.int 2147483587)), .ret (.bin .mod (.bin .fdiv (.bin .mod (.bi .int false (.bin .mul (.loc 2) (.int 39373))) (.int 2147483563)) (.int 64)) (.loc 1))]⟩
section
variable {a b c : Int} {pr : List Fd} {i : Nat}
theorem u4 {τ : Store} : ∀ (x : Int), binD .mul (.int (x.fmod 2147483647)) (.int (x.fmod 2147483647)) τ = .ok (.int (x.fmod 2147483647 * x.fmod 2147483647)) τ := t4
theorem b_tail (T cell : Int) : ∃ x : Int, ∀ (m : Nat) (z : Option D) (Φ : CallSem) (τ : Store), 0 < m → 0 < T → T ≤ 1000000000 → exs Φ ((mkDrawB a b c).body.drop 3) [some (.ref 1), some (.int m), some (.int cell), some (.int T), z] τ = .rt (.int (x.fmod m)) τ := by
  refine ⟨?x, fun m z Φ τ hm h1 h2 => ?p⟩
  case p =>
    have hbn : (m : Int) ≠ 0 := by omega
    have a1 : ∀ (x : Int), binD .mul (.int x) (.int T) τ = .ok (.int (x * T)) τ := bm_lit ⟨by omega, by omega⟩
    have a10 : ∀ (x : Int), binD .mod (.int x) (.int m) τ = .ok (.int (x.fmod m)) τ := fun x => b_mod hbn
    unfold mkDrawB
    dsimp only [List.drop]
    exists t2, t3, t4, t5, t6, t7, t8, t9, t11, a1, a10
    rfl
noncomputable def bX (a b c T cell : Int) : Int := Classical.choose (b_tail (a := a) (b := b) (c := c) T cell)
/-- a draw's value and the deck behind it -/
noncomputable def drawF (x : Int → Int → Int) (g : Int → Int → Int) (δ : Dk) (m : Nat) : Nat × Dk := match δ.cs.getLast? with
  | none => (((x ((δ.dr + 1 : Nat) : Int) δ.mx).fmod m).toNat, ⟨[], δ.mx, δ.dr + 1⟩)
  | some q => if 1000000000000000000 ≤ q then ((q.fmod m).toNat, ⟨δ.cs.dropLast ++ [q.fdiv m], δ.mx, δ.dr + 1⟩) else (((x ((δ.dr + 1 : Nat) : Int) (g δ.mx q)).fmod m).toNat, ⟨δ.cs.dropLast, δ.mx, δ.dr + 1⟩)
theorem fm_nat {y : Int} {m : Nat} (h : 0 < m) : ((y.fmod m).toNat : Int) = y.fmod m ∧ (y.fmod m).toNat < m := by
  obtain ⟨h1, h2⟩ := fmB (a := y) (b := (m : Int)) (by omega)
  omega
theorem drawF_lt {x g : Int → Int → Int} {δ : Dk} {m : Nat} (h : 0 < m) : (drawF x g δ m).1 < m := by
  unfold drawF
  split
  · exact (fm_nat h).2
  · split
    · exact (fm_nat h).2
    · exact (fm_nat h).2
theorem drawF_nx {x g : Int → Int → Int} {δ : Dk} {m n : Nat} (hδ : δ.ok n) : (drawF x g δ m).2.ok (n + 1) := by
  obtain ⟨h1, h2⟩ := hδ
  have hd := List.length_dropLast (xs := δ.cs)
  unfold drawF
  split
  · exact ⟨by simp, by show δ.dr + 1 ≤ n + 1; omega⟩
  · rename_i q hq
    have : δ.cs ≠ [] := by intro e; rw [e] at hq; cases hq
    have := List.length_pos_iff.mpr this
    split
    · exact ⟨by show (δ.cs.dropLast ++ [_]).length ≤ 63; rw [List.length_append, List.length_singleton]; omega, by show δ.dr + 1 ≤ n + 1; omega⟩
    · exact ⟨by show δ.cs.dropLast.length ≤ 63; omega, by show δ.dr + 1 ≤ n + 1; omega⟩
theorem ne_cb {cs : List Int} {c : Int} : (!(cs ++ [c]).isEmpty) = true := ne_cc cs c
theorem drawB_eq (hi : pr[i]? = some (mkDrawB a b c)) {k m n : Nat} {δ : Dk} {X : Store} (hk : 1 ≤ k) (hδ : δ.ok n) (hn : n < 1000000000) (hm : 0 < m) (hm2 : m < 1073741824) :
    callK pr k i [.ref 1, .int m] (S δ ++ X) = .ok (.int (drawF (bX a b c) (fun mx q => mx + q.fmod 2147483629) δ m).1) (S (drawF (bX a b c) (fun mx q => mx + q.fmod 2147483629) δ m).2 ++ X) := by
  obtain ⟨k, rfl⟩ : ∃ j, k = j + 1 := ⟨k - 1, by omega⟩
  obtain ⟨cs, mx, dr⟩ := δ
  have hbn : (m : Int) ≠ 0 := by omega
  have hc : cs.length ≤ 63 := hδ.1
  have hd : dr ≤ n := hδ.2
  have hsplit : (mkDrawB a b c).body = (mkDrawB a b c).body.take 3 ++ (mkDrawB a b c).body.drop 3 := rfl
  have henv : [D.ref 1, D.int m].map some ++ List.replicate ((mkDrawB a b c).ns - [D.ref 1, D.int m].length) none = [some (.ref 1), some (.int m), none, none, none] := rfl
  have tail : ∀ (cell : Int) (z : Option D) (τ : Store), exs (callK pr k) ((mkDrawB a b c).body.drop 3) [some (.ref 1), some (.int m), some (.int cell), some (.int ((dr + 1 : Nat) : Int)), z] τ = .rt (.int ((bX a b c ((dr + 1 : Nat) : Int) cell).fmod m)) τ := fun cell z τ =>
    Classical.choose_spec (b_tail (a := a) (b := b) (c := c) ((dr + 1 : Nat) : Int) cell) m z _ τ hm (by omega) (by omega)
  rw [callK_run hi rfl, hsplit, exs_app, henv]
  rcases List.eq_nil_or_concat cs with e | ⟨cs1, x, e⟩
  · subst e
    have h0 : exs (callK pr k) ((mkDrawB a b c).body.take 3) [some (.ref 1), some (.int m), none, none, none] (S ⟨[], mx, dr⟩ ++ X) = .nx [some (.ref 1), some (.int m), some (.int mx), some (.int ((dr + 1 : Nat) : Int)), none] (S ⟨[], mx, dr + 1⟩ ++ X) := by
      unfold mkDrawB
      dsimp only [List.take]
      simp only [fx_nil, fx_one, fx_cons, fx_asg, fx_par, fx_put, fx_exp, fx_ret, fx_ite, fx_for, fx_pass, fx_frz, fv_loc, fv_bin, fv_cmp, fv_chain, fv_and, fv_or, fv_not, fv_ite, fv_tup, fv_lst, fv_dic, fv_star, fv_idx, fv_slice, fv_rev, fv_call, fv_bi, fv_isi, fv_me, fv_comp, fvs_cons, ev_nop, ev_non, ev_bl, ev_int, ev_str, ev_glo, ev_neg_int, evs_nil, thenS_nx, thenS_rt, thenS_exc, asgK_ok, asgK_exc, asgT_some, parA_ok, parB_ok, putA_ok, putB_ok, putC_ok, putR_some, expK_ok, expK_exc, retK_ok, retK_exc, iteK_ok, iteB_t, iteB_f, forA_ok, forB_some, frzA_ref, frzB_l, frzB_d, getK_s, binA_ok, binB_ok, cmpA_ok, cmpB_ok, chA_ok, chB_ok, chC_t, chC_f, andK_ok, andB_t, andB_f, orK_ok, orB_t, orB_f, notK_ok, notB_s, iteE_ok, iteEB_t, iteEB_f, tupK_ok, lstK_ok, dicK_ok, idxA_ok, idxB_ok, slA_ok, slB_n, slB_i, slC_n, slC_i, revK_ok, clA_ok, clB_ok, clC_s, biK_ok, isiK_ok, meA_ok, meB_t, meC_ok, cmA_ok, cmB_s, cmC_ok, esA_f, esA_t, spl_l, spl_t, esB_s, esC_ok, prC_s, prB_s, pr_nil, pr_cons, fin_rt', fin_nx', it_lst, it_ro, it_tup, it_str, tg_nm, tg_tup, sa_nil, sa_cons, ns_0, ns_1, ns_2, ns_3, ns_4, ns_5, ns_6, ns_7, ns_8, ns_9, ns_10, ns_11, ns_12, ns_13, ns_14, ns_15, ns_16, ns_17, ns_18, ns_19, ns_20, ns_21, ns_22, ns_23, ns_24, ns_25, ns_star, sat_ok, osat_nx, osat_rt, List.getElem?_cons_zero, List.getElem?_cons_succ, List.set, List.cons_append, List.nil_append, List.append_nil, wipe_nil, wipe_cons, view_non, view_bl, view_int, view_str, view_tup', view_lst, view_ro, view_dic, view_set, tr_non, tr_bl, tr_int, tr_tup, tr_lst, nl_nil, nl_cons1, nl2, nl3, nl4, nl5, nl6, nl7, nl8, nt0, nt1, nt2, nt3, nt4, mo_join, mo_app, mo_pop, mo_ext, mo_get, bi_lenl, bi_lent, bi_listl, bi_listt, bi_listd, bi_tupl, bi_int, b_add, b_sub, b_addl, b_addt, c_eqi, c_eqs, c_nei, c_nes, c_lti, c_lei, c_gti, c_gei, c_les, i_tup, i_lst, isi_str, isi_tup, isi_int, isi_lst, opt_non, opt_int, List.map_cons, List.map_nil, List.length_cons, List.length_nil, Nat.sub_self, List.replicate_zero, Nat.reduceAdd, Nat.reduceSub, List.reduceReplicate, Option.some.injEq, di_d, di_m, di_c, ed, dp_d, dne, List.isEmpty_nil, Bool.not_true]
    rw [h0, then_nx, tail, fin_rt, leave_S0]
    unfold drawF
    dsimp only [List.getLast?_nil]
    rw [(fm_nat hm).1]
  · rw [List.concat_eq_append] at e
    subst e
    rw [List.length_append, List.length_singleton] at hc
    have hlast : (cs1 ++ [x]).getLast? = some x := by simp
    have hdrop : (cs1 ++ [x]).dropLast = cs1 := by simp
    by_cases h : 1000000000000000000 ≤ x
    · have h1 : exs (callK pr k) ((mkDrawB a b c).body.take 3) [some (.ref 1), some (.int m), none, none, none] (S ⟨cs1 ++ [x], mx, dr⟩ ++ X) = .rt (.int (x.fmod m)) (S ⟨cs1 ++ [x.fdiv m], mx, dr + 1⟩ ++ X) := by
        have a10 : ∀ (x : Int) (τ : Store), binD .mod (.int x) (.int m) τ = .ok (.int (x.fmod m)) τ := fun x τ => b_mod hbn
        have a11 : ∀ (x : Int) (τ : Store), binD .fdiv (.int x) (.int m) τ = .ok (.int (x.fdiv m)) τ := fun x τ => b_fdiv ⟨hbn, by omega⟩
        have ha : ∀ (dr : Nat), meD .append (.ref 0) [.int (x.fdiv m)] (S ⟨cs1, mx, dr⟩ ++ X) = .ok .non (S ⟨cs1 ++ [x.fdiv m], mx, dr⟩ ++ X) := fun dr => dapp (by rw [lim_v]; omega)
        unfold mkDrawB
        dsimp only [List.take]
        simp only [fx_nil, fx_one, fx_cons, fx_asg, fx_par, fx_put, fx_exp, fx_ret, fx_ite, fx_for, fx_pass, fx_frz, fv_loc, fv_bin, fv_cmp, fv_chain, fv_and, fv_or, fv_not, fv_ite, fv_tup, fv_lst, fv_dic, fv_star, fv_idx, fv_slice, fv_rev, fv_call, fv_bi, fv_isi, fv_me, fv_comp, fvs_cons, ev_nop, ev_non, ev_bl, ev_int, ev_str, ev_glo, ev_neg_int, evs_nil, thenS_nx, thenS_rt, thenS_exc, asgK_ok, asgK_exc, asgT_some, parA_ok, parB_ok, putA_ok, putB_ok, putC_ok, putR_some, expK_ok, expK_exc, retK_ok, retK_exc, iteK_ok, iteB_t, iteB_f, forA_ok, forB_some, frzA_ref, frzB_l, frzB_d, getK_s, binA_ok, binB_ok, cmpA_ok, cmpB_ok, chA_ok, chB_ok, chC_t, chC_f, andK_ok, andB_t, andB_f, orK_ok, orB_t, orB_f, notK_ok, notB_s, iteE_ok, iteEB_t, iteEB_f, tupK_ok, lstK_ok, dicK_ok, idxA_ok, idxB_ok, slA_ok, slB_n, slB_i, slC_n, slC_i, revK_ok, clA_ok, clB_ok, clC_s, biK_ok, isiK_ok, meA_ok, meB_t, meC_ok, cmA_ok, cmB_s, cmC_ok, esA_f, esA_t, spl_l, spl_t, esB_s, esC_ok, prC_s, prB_s, pr_nil, pr_cons, fin_rt', fin_nx', it_lst, it_ro, it_tup, it_str, tg_nm, tg_tup, sa_nil, sa_cons, ns_0, ns_1, ns_2, ns_3, ns_4, ns_5, ns_6, ns_7, ns_8, ns_9, ns_10, ns_11, ns_12, ns_13, ns_14, ns_15, ns_16, ns_17, ns_18, ns_19, ns_20, ns_21, ns_22, ns_23, ns_24, ns_25, ns_star, sat_ok, osat_nx, osat_rt, List.getElem?_cons_zero, List.getElem?_cons_succ, List.set, List.cons_append, List.nil_append, List.append_nil, wipe_nil, wipe_cons, view_non, view_bl, view_int, view_str, view_tup', view_lst, view_ro, view_dic, view_set, tr_non, tr_bl, tr_int, tr_tup, tr_lst, nl_nil, nl_cons1, nl2, nl3, nl4, nl5, nl6, nl7, nl8, nt0, nt1, nt2, nt3, nt4, mo_join, mo_app, mo_pop, mo_ext, mo_get, bi_lenl, bi_lent, bi_listl, bi_listt, bi_listd, bi_tupl, bi_int, b_add, b_sub, b_addl, b_addt, c_eqi, c_eqs, c_nei, c_nes, c_lti, c_lei, c_gti, c_gei, c_les, i_tup, i_lst, isi_str, isi_tup, isi_int, isi_lst, opt_non, opt_int, List.map_cons, List.map_nil, List.length_cons, List.length_nil, Nat.sub_self, List.replicate_zero, Nat.reduceAdd, Nat.reduceSub, List.reduceReplicate, Option.some.injEq, di_d, di_m, di_c, ed, dp_d, dne, ne_cc, dv0, dpop, pow18, decide_eq_true h, a10, a11, ha]
      rw [h1, then_rt, fin_rt, leave_S0]
      unfold drawF
      dsimp only
      rw [hlast, hdrop]
      dsimp only
      rw [if_pos h]
      dsimp only
      rw [(fm_nat hm).1]
    · have h1 : exs (callK pr k) ((mkDrawB a b c).body.take 3) [some (.ref 1), some (.int m), none, none, none] (S ⟨cs1 ++ [x], mx, dr⟩ ++ X) = .nx [some (.ref 1), some (.int m), some (.int (mx + x.fmod 2147483629)), some (.int ((dr + 1 : Nat) : Int)), some (.int x)] (S ⟨cs1, mx, dr + 1⟩ ++ X) := by
        unfold mkDrawB
        dsimp only [List.take]
        simp only [fx_nil, fx_one, fx_cons, fx_asg, fx_par, fx_put, fx_exp, fx_ret, fx_ite, fx_for, fx_pass, fx_frz, fv_loc, fv_bin, fv_cmp, fv_chain, fv_and, fv_or, fv_not, fv_ite, fv_tup, fv_lst, fv_dic, fv_star, fv_idx, fv_slice, fv_rev, fv_call, fv_bi, fv_isi, fv_me, fv_comp, fvs_cons, ev_nop, ev_non, ev_bl, ev_int, ev_str, ev_glo, ev_neg_int, evs_nil, thenS_nx, thenS_rt, thenS_exc, asgK_ok, asgK_exc, asgT_some, parA_ok, parB_ok, putA_ok, putB_ok, putC_ok, putR_some, expK_ok, expK_exc, retK_ok, retK_exc, iteK_ok, iteB_t, iteB_f, forA_ok, forB_some, frzA_ref, frzB_l, frzB_d, getK_s, binA_ok, binB_ok, cmpA_ok, cmpB_ok, chA_ok, chB_ok, chC_t, chC_f, andK_ok, andB_t, andB_f, orK_ok, orB_t, orB_f, notK_ok, notB_s, iteE_ok, iteEB_t, iteEB_f, tupK_ok, lstK_ok, dicK_ok, idxA_ok, idxB_ok, slA_ok, slB_n, slB_i, slC_n, slC_i, revK_ok, clA_ok, clB_ok, clC_s, biK_ok, isiK_ok, meA_ok, meB_t, meC_ok, cmA_ok, cmB_s, cmC_ok, esA_f, esA_t, spl_l, spl_t, esB_s, esC_ok, prC_s, prB_s, pr_nil, pr_cons, fin_rt', fin_nx', it_lst, it_ro, it_tup, it_str, tg_nm, tg_tup, sa_nil, sa_cons, ns_0, ns_1, ns_2, ns_3, ns_4, ns_5, ns_6, ns_7, ns_8, ns_9, ns_10, ns_11, ns_12, ns_13, ns_14, ns_15, ns_16, ns_17, ns_18, ns_19, ns_20, ns_21, ns_22, ns_23, ns_24, ns_25, ns_star, sat_ok, osat_nx, osat_rt, List.getElem?_cons_zero, List.getElem?_cons_succ, List.set, List.cons_append, List.nil_append, List.append_nil, wipe_nil, wipe_cons, view_non, view_bl, view_int, view_str, view_tup', view_lst, view_ro, view_dic, view_set, tr_non, tr_bl, tr_int, tr_tup, tr_lst, nl_nil, nl_cons1, nl2, nl3, nl4, nl5, nl6, nl7, nl8, nt0, nt1, nt2, nt3, nt4, mo_join, mo_app, mo_pop, mo_ext, mo_get, bi_lenl, bi_lent, bi_listl, bi_listt, bi_listd, bi_tupl, bi_int, b_add, b_sub, b_addl, b_addt, c_eqi, c_eqs, c_nei, c_nes, c_lti, c_lei, c_gti, c_gei, c_les, i_tup, i_lst, isi_str, isi_tup, isi_int, isi_lst, opt_non, opt_int, List.map_cons, List.map_nil, List.length_cons, List.length_nil, Nat.sub_self, List.replicate_zero, Nat.reduceAdd, Nat.reduceSub, List.reduceReplicate, Option.some.injEq, di_d, di_m, di_c, ed, dp_d, dne, ne_cc, dv0, dpop, pow18, decide_eq_false h, t5]
      rw [h1, then_nx, tail, fin_rt, leave_S0]
      unfold drawF
      dsimp only
      rw [hlast, hdrop]
      dsimp only
      rw [if_neg h]
      dsimp only
      rw [(fm_nat hm).1]
end
@[reducible] noncomputable def deckB {pr : List Fd} {a b c : Int} (hi : pr[13]? = some (mkDrawB a b c)) : Deck pr where
  F := drawF (bX a b c) fun mx q => mx + q.fmod 2147483629
  lt := fun _ _ h => drawF_lt h
  nx := fun _ h => drawF_nx h
  eq := fun hk hδ hn hm hm2 => drawB_eq hi hk hδ hn hm hm2
/-- one of some: the pick of all families -/
def c_pick : Fd := ⟨2, 2, [.ret (.idx (.loc 1) (.call 13 [.loc 0, .bi .len false (.loc 1)] [] [] [0, 1]))]⟩
class Draws (pr : List Fd) extends Deck pr where
  pick : pr[14]? = some c_pick
theorem q_drawI {pr : List Fd} [Deck pr] {δ : Dk} {X : Store} {k n m : Nat} [DL δ n] {i : Int} (hn : n < 1000000000) (hk : 1 ≤ k) (hi : i = (m : Int)) (hm : 0 < m) (hm2 : m < 1073741824) : callK pr k 13 [.ref 1, .int i] (S δ ++ X) = .ok (.int (dv pr δ m)) (S (dn pr δ m) ++ X) := by subst hi; exact q_draw hn hk hm hm2
section
variable {pr : List Fd} [Draws pr] {δ : Dk} {X : Store} {k n : Nat}
theorem x_draw {m : Nat} {r : Res D} [DL δ n] (hr : callK pr k 13 [.ref 1, .int (m : Nat)] (S δ ++ X) = r) (hn : n < 1000000000) (hk : 1 ≤ k) (hm : 0 < m) (hm2 : m < 1073741824) : ∃ (v : Nat) (δ' : Dk), v < m ∧ DL δ' (n + 1) ∧ r = .ok (.int (v : Nat)) (S δ' ++ X) :=
  ⟨_, _, dv_lt hm, inferInstance, hr.symm.trans (q_draw hn hk hm hm2)⟩
theorem x_pick {xs : List D} {r : Res D} [DL δ n] (hr : callK pr k 14 [.ref 1, .lst xs] (S δ ++ X) = r) (hn : n < 1000000000) (hk : 2 ≤ k) (hx : xs ≠ []) (hl : xs.length ≤ 1000) : ∃ (d : D) (δ' : Dk), d ∈ xs ∧ DL δ' (n + 1) ∧ r = .ok d (S δ' ++ X) := by
  obtain ⟨k, rfl⟩ : ∃ j, k = j + 1 := ⟨k - 1, by omega⟩
  have hp : 0 < xs.length := List.length_pos_iff.mpr hx
  have h1 := dv_lt (pr := pr) (δ := δ) hp
  refine ⟨xs[dv pr δ xs.length], dn pr δ xs.length, List.getElem_mem h1, inferInstance, ?_⟩
  rw [← hr, callK_run Draws.pick rfl]
  unfold c_pick
  exists q_draw hn (show 1 ≤ k by omega) hp (show xs.length < 1073741824 by omega), atI_nat h1, leave_S0
theorem x_pickT {xs : List D} {r : Res D} [DL δ n] (hr : callK pr k 14 [.ref 1, .tup xs] (S δ ++ X) = r) (hn : n < 1000000000) (hk : 2 ≤ k) (hx : xs ≠ []) (hl : xs.length ≤ 1000) : ∃ (d : D) (δ' : Dk), d ∈ xs ∧ DL δ' (n + 1) ∧ r = .ok d (S δ' ++ X) := by
  obtain ⟨k, rfl⟩ : ∃ j, k = j + 1 := ⟨k - 1, by omega⟩
  have hp : 0 < xs.length := List.length_pos_iff.mpr hx
  have h1 := dv_lt (pr := pr) (δ := δ) hp
  refine ⟨xs[dv pr δ xs.length], dn pr δ xs.length, List.getElem_mem h1, inferInstance, ?_⟩
  rw [← hr, callK_run Draws.pick rfl]
  unfold c_pick
  exists q_draw hn (show 1 ≤ k by omega) hp (show xs.length < 1073741824 by omega), atI_nat h1, leave_S0
/-- of typed items -/
theorem x_pickM {α : Type} {f : α → D} {L : List α} {r : Res D} [DL δ n] (hr : callK pr k 14 [.ref 1, .lst (L.map f)] (S δ ++ X) = r) (hn : n < 1000000000) (hk : 2 ≤ k) (hx : L ≠ []) (hl : L.length ≤ 1000) : ∃ (d : α) (δ' : Dk), d ∈ L ∧ DL δ' (n + 1) ∧ r = .ok (f d) (S δ' ++ X) := by
  obtain ⟨d, δ', h1, h2, h3⟩ := x_pick hr hn hk (by simpa using hx) (by rw [List.length_map]; exact hl)
  obtain ⟨a, ha, rfl⟩ := List.mem_map.mp h1
  exact ⟨a, δ', ha, h2, h3⟩
theorem x_pickMT {α : Type} {f : α → D} {L : List α} {r : Res D} [DL δ n] (hr : callK pr k 14 [.ref 1, .tup (L.map f)] (S δ ++ X) = r) (hn : n < 1000000000) (hk : 2 ≤ k) (hx : L ≠ []) (hl : L.length ≤ 1000) : ∃ (d : α) (δ' : Dk), d ∈ L ∧ DL δ' (n + 1) ∧ r = .ok (f d) (S δ' ++ X) := by
  obtain ⟨d, δ', h1, h2, h3⟩ := x_pickT hr hn hk (by simpa using hx) (by rw [List.length_map]; exact hl)
  obtain ⟨a, ha, rfl⟩ := List.mem_map.mp h1
  exact ⟨a, δ', ha, h2, h3⟩
theorem DL.le {m : Nat} (h : DL δ n) (l : n ≤ m) : DL δ m := ⟨h.ok.le l⟩
end
section
variable {pr : List Fd} [Deck pr] {δ : Dk} {X : Store} {k n : Nat}
theorem q_d2 [DL δ n] (hn : n < 1000000000) (hk : 1 ≤ k) : callK pr k 13 [.ref 1, .int 2] (S δ ++ X) = .ok (.int (dv pr δ 2)) (S (dn pr δ 2) ++ X) := q_draw (m := 2) hn hk (by decide) (by decide)
theorem q_d3 [DL δ n] (hn : n < 1000000000) (hk : 1 ≤ k) : callK pr k 13 [.ref 1, .int 3] (S δ ++ X) = .ok (.int (dv pr δ 3)) (S (dn pr δ 3) ++ X) := q_draw (m := 3) hn hk (by decide) (by decide)
theorem q_d4 [DL δ n] (hn : n < 1000000000) (hk : 1 ≤ k) : callK pr k 13 [.ref 1, .int 4] (S δ ++ X) = .ok (.int (dv pr δ 4)) (S (dn pr δ 4) ++ X) := q_draw (m := 4) hn hk (by decide) (by decide)
theorem q_d5 [DL δ n] (hn : n < 1000000000) (hk : 1 ≤ k) : callK pr k 13 [.ref 1, .int 5] (S δ ++ X) = .ok (.int (dv pr δ 5)) (S (dn pr δ 5) ++ X) := q_draw (m := 5) hn hk (by decide) (by decide)
theorem q_d6 [DL δ n] (hn : n < 1000000000) (hk : 1 ≤ k) : callK pr k 13 [.ref 1, .int 6] (S δ ++ X) = .ok (.int (dv pr δ 6)) (S (dn pr δ 6) ++ X) := q_draw (m := 6) hn hk (by decide) (by decide)
theorem q_d7 [DL δ n] (hn : n < 1000000000) (hk : 1 ≤ k) : callK pr k 13 [.ref 1, .int 7] (S δ ++ X) = .ok (.int (dv pr δ 7)) (S (dn pr δ 7) ++ X) := q_draw (m := 7) hn hk (by decide) (by decide)
theorem q_d8 [DL δ n] (hn : n < 1000000000) (hk : 1 ≤ k) : callK pr k 13 [.ref 1, .int 8] (S δ ++ X) = .ok (.int (dv pr δ 8)) (S (dn pr δ 8) ++ X) := q_draw (m := 8) hn hk (by decide) (by decide)
theorem q_d9 [DL δ n] (hn : n < 1000000000) (hk : 1 ≤ k) : callK pr k 13 [.ref 1, .int 9] (S δ ++ X) = .ok (.int (dv pr δ 9)) (S (dn pr δ 9) ++ X) := q_draw (m := 9) hn hk (by decide) (by decide)
theorem q_d10 [DL δ n] (hn : n < 1000000000) (hk : 1 ≤ k) : callK pr k 13 [.ref 1, .int 10] (S δ ++ X) = .ok (.int (dv pr δ 10)) (S (dn pr δ 10) ++ X) := q_draw (m := 10) hn hk (by decide) (by decide)
theorem q_d11 [DL δ n] (hn : n < 1000000000) (hk : 1 ≤ k) : callK pr k 13 [.ref 1, .int 11] (S δ ++ X) = .ok (.int (dv pr δ 11)) (S (dn pr δ 11) ++ X) := q_draw (m := 11) hn hk (by decide) (by decide)
theorem q_d12 [DL δ n] (hn : n < 1000000000) (hk : 1 ≤ k) : callK pr k 13 [.ref 1, .int 12] (S δ ++ X) = .ok (.int (dv pr δ 12)) (S (dn pr δ 12) ++ X) := q_draw (m := 12) hn hk (by decide) (by decide)
end
/-! cells behind the deck -/
theorem S_len {δ : Dk} : (S δ).length = 2 := rfl
section
variable {δ : Dk} {X L : Store} {i : Nat} {c : Cell}
theorem sx_at : (S δ ++ (X ++ L))[2 + (X.length + i)]? = L[i]? := by
  rw [List.getElem?_append_right (by rw [S_len]; omega), List.getElem?_append_right (by rw [S_len]; omega), S_len]
  congr 1; omega
theorem sx_at0 : (S δ ++ (X ++ L))[2 + X.length]? = L[0]? := sx_at (i := 0)
theorem sx_set : (S δ ++ (X ++ L)).set (2 + (X.length + i)) c = S δ ++ (X ++ L.set i c) := by
  rw [List.set_append_right _ _ (by rw [S_len]; omega), List.set_append_right _ _ (by rw [S_len]; omega), S_len]
  congr 3; omega
theorem sx_set0 : (S δ ++ (X ++ L)).set (2 + X.length) c = S δ ++ (X ++ L.set 0 c) := sx_set (i := 0)
end
section
variable {n : Nat} {σ : Store}
def popiC (n : Nat) (i : Int) (σ : Store) (o : Option Cell) : Res D := match o with
  | some (.lst xs) => if 0 ≤ i ∧ i < 2 ^ 62 then (match xs[i.toNat]? with
    | some d => .ok d (σ.set n (.lst (xs.eraseIdx i.toNat)))
    | none => .bad) else .bad
  | _ => .bad
theorem rf_popi {i : Int} : meD .pop (.ref n) [.int i] σ = popiC n i σ σ[n]? := by unfold meD popiC; rfl
theorem popi_l {xs : List D} {i : Nat} (h : i < xs.length) (h2 : xs.length ≤ 100000) : popiC n (i : Int) σ (some (.lst xs)) = .ok xs[i] (σ.set n (.lst (xs.eraseIdx i))) := by
  unfold popiC
  dsimp only
  rw [if_pos ⟨by omega, by omega⟩, Int.toNat_natCast, List.getElem?_eq_getElem h]
theorem map_erase {α β : Type} {f : α → β} : ∀ (xs : List α) (i : Nat), (xs.map f).eraseIdx i = (xs.eraseIdx i).map f
  | [], _ => by simp
  | x :: r, 0 => by simp
  | x :: r, i + 1 => by rw [List.map_cons, List.eraseIdx_cons_succ, List.eraseIdx_cons_succ, List.map_cons, map_erase r i]
theorem popi_m {α : Type} {f : α → D} {xs : List α} {i : Nat} (h : i < xs.length) (h2 : xs.length ≤ 100000) : popiC n (i : Int) σ (some (.lst (xs.map f))) = .ok (f xs[i]) (σ.set n (.lst ((xs.eraseIdx i).map f))) := by
  rw [popi_l (by rw [List.length_map]; exact h) (by rw [List.length_map]; exact h2), List.getElem_map, map_erase]
end
section
variable {mu : Bool} {σ : Store} {a b c : Key × D}
theorem dic1 : dicB mu σ (some [a]) = newD mu ((mergeD [] [a]).map (·.1)) ((mergeD [] [a]).map (·.2)) σ := dicB_s (rfl)
theorem dic2 : dicB mu σ (some [a, b]) = newD mu ((mergeD [] [a, b]).map (·.1)) ((mergeD [] [a, b]).map (·.2)) σ := dicB_s (rfl)
theorem dic3 : dicB mu σ (some [a, b, c]) = newD mu ((mergeD [] [a, b, c]).map (·.1)) ((mergeD [] [a, b, c]).map (·.2)) σ := dicB_s (rfl)
end
end Iv

set_option Elab.async false
set_option linter.all false
set_option maxHeartbeats 4000000
set_option maxRecDepth 20000
namespace Iv
open PySem L2
def b_is_short : Fd := ⟨1, 1, [.ret (.and (.isi (.loc 0) [.str]) (.chain .le .le (.int 1) (.bi .len false (.loc 0)) (.glo "" (.int 8))))]⟩
def b_is_word : Fd := ⟨1, 2, [.ret (.and (.call 0 [.loc 0] [] [] [0]) (.bi .all false (.comp false [1] (.nm 1) .on [.loc 0] (.bl true) (.cmp .isin (.loc 1) (.glo "" (.str "abcdefghijklmnopqrstuvwxyz"))))))]⟩
def b_is_name : Fd := ⟨1, 2, [.ret (.and (.call 0 [.loc 0] [] [] [0]) (.and (.cmp .isin (.idx (.loc 0) (.int 0)) (.glo "" (.str "ABCDEFGHIJKLMNOPQRSTUVWXYZ"))) (.bi .all false (.comp false [1] (.nm 1) .on [.slice false (.loc 0) (.int 1) .nop] (.bl true) (.cmp .isin (.loc 1) (.bin .add (.glo "" (.str "abcdefghijklmnopqrstuvwxyz")) (.glo "" (.str "0123456789"))))))))]⟩
def b_parts_of : Fd := ⟨1, 1, [.ret (.ite (.isi (.loc 0) [.str]) (.tup []) (.slice false (.loc 0) (.int 1) .nop))]⟩
def b_text_of : Fd := ⟨1, 2, [.ite (.isi (.loc 0) [.str]) [.ret (.loc 0)] [], .ret (.bin .add (.bin .add (.bin .add (.idx (.loc 0) (.int 0)) (.glo "" (.str "("))) (.me .join (.glo "" (.str ",")) [.comp false [1] (.nm 1) .on [.call 3 [.loc 0] [] [] [0]] (.bl true) (.call 4 [.loc 1] [] [] [0])])) (.glo "" (.str ")")))]⟩
def b_pieces_in : Fd := ⟨1, 5, [.asg (.nm 1) (.dic true []), .asg (.nm 2) (.lst true [.star (.loc 0)]), .whl (.cmp .ne (.loc 2) (.lst false [])) [.asg (.nm 3) (.me .pop (.loc 2) []), .asg (.nm 4) (.call 4 [.loc 3] [] [] [0]), .ite (.cmp .notin (.loc 4) (.loc 1)) [.put (.loc 1) (.loc 4) (.loc 3), .exp (.me .extend (.loc 2) [.bi .list false (.call 3 [.loc 3] [] [] [0])])] []], .frz 1, .ret (.bi .tuple false (.comp false [4] (.nm 4) .on [.bi .sorted false (.loc 1)] (.bl true) (.idx (.loc 1) (.loc 4))))]⟩
def b_pieces_of : Fd := ⟨1, 1, [.ret (.call 5 [.lst false [.loc 0]] [] [] [0])]⟩
def b_size_of : Fd := ⟨1, 2, [.ret (.bin .add (.int 1) (.bi .sum false (.comp false [1] (.nm 1) .on [.call 3 [.loc 0] [] [] [0]] (.bl true) (.call 7 [.loc 1] [] [] [0]))))]⟩
def b_names_in : Fd := ⟨1, 2, [.ret (.bi .tuple false (.comp false [1] (.nm 1) .on [.call 6 [.loc 0] [] [] [0]] (.call 2 [.loc 1] [] [] [0]) (.loc 1)))]⟩
def b_words_in : Fd := ⟨1, 2, [.ret (.bi .tuple false (.comp false [1] (.nm 1) .on [.call 6 [.loc 0] [] [] [0]] (.call 1 [.loc 1] [] [] [0]) (.loc 1)))]⟩
def b_with_others : Fd := ⟨2, 3, [.ite (.isi (.loc 0) [.str]) [.ret (.me .get (.loc 1) [.loc 0, .loc 0])] [], .ret (.tup [.idx (.loc 0) (.int 0), .star (.comp false [2] (.nm 2) .on [.call 3 [.loc 0] [] [] [0]] (.bl true) (.call 10 [.loc 2, .loc 1] [] [] [0, 1]))])]⟩
def b_replaced : Fd := ⟨3, 3, [.ret (.call 10 [.loc 0, .dic false [.loc 1, .loc 2]] [] [] [0, 1])]⟩
def b_law_text : Fd := ⟨1, 2, [.ite (.isi (.loc 0) [.str]) [.ret (.loc 0)] [], .ret (.bin .add (.bin .add (.bin .add (.idx (.loc 0) (.int 0)) (.str "(")) (.me .join (.str ",") [.comp false [1] (.nm 1) .on [.slice false (.loc 0) (.int 1) .nop] (.bl true) (.call 18 [.loc 1] [] [] [0])])) (.str ")"))]⟩
def b_law_is_word : Fd := ⟨1, 2, [.ite (.or (.not (.isi (.loc 0) [.str])) (.or (.cmp .lt (.bi .len false (.loc 0)) (.int 1)) (.cmp .gt (.bi .len false (.loc 0)) (.int 8)))) [.ret (.bl false)] [], .ret (.cmp .eq (.comp false [1] (.nm 1) .on [.loc 0] (.not (.chain .le .le (.str "a") (.loc 1) (.str "z"))) (.loc 1)) (.lst false []))]⟩
def b_law_is_name : Fd := ⟨1, 2, [.ite (.or (.not (.isi (.loc 0) [.str])) (.or (.cmp .lt (.bi .len false (.loc 0)) (.int 1)) (.or (.cmp .gt (.bi .len false (.loc 0)) (.int 8)) (.not (.chain .le .le (.str "A") (.idx (.loc 0) (.int 0)) (.str "Z")))))) [.ret (.bl false)] [], .ret (.cmp .eq (.comp false [1] (.nm 1) .on [.slice false (.loc 0) (.int 1) .nop] (.and (.not (.chain .le .le (.str "a") (.loc 1) (.str "z"))) (.not (.chain .le .le (.str "0") (.loc 1) (.str "9")))) (.loc 1)) (.lst false []))]⟩
def b_law_lot : Fd := ⟨1, 3, [.asg (.nm 1) (.lst false [.loc 0]), .for (.nm 2) .on [.ite (.isi (.loc 0) [.tup]) (.slice false (.loc 0) (.int 1) .nop) (.tup [])] [.asg (.nm 1) (.bin .add (.loc 1) (.call 21 [.loc 2] [] [] [0]))], .ret (.loc 1)]⟩
def b_law_sorted : Fd := ⟨1, 4, [.asg (.nm 1) (.bi .dict false (.comp false [2] (.nm 2) .on [.loc 0] (.bl true) (.tup [.call 18 [.loc 2] [] [] [0], .loc 2]))), .ret (.bi .tuple false (.comp false [3] (.nm 3) .on [.bi .sorted false (.bi .list false (.loc 1))] (.bl true) (.idx (.loc 1) (.loc 3))))]⟩
def b_law_put : Fd := ⟨3, 4, [.ite (.isi (.loc 0) [.str]) [.ret (.ite (.cmp .eq (.loc 0) (.loc 1)) (.loc 2) (.loc 0))] [], .ret (.bin .add (.slice false (.loc 0) .nop (.int 1)) (.bi .tuple false (.comp false [3] (.nm 3) .on [.slice false (.loc 0) (.int 1) .nop] (.bl true) (.call 23 [.loc 3, .loc 1, .loc 2] [] [] [0, 1, 2]))))]⟩
/-- the functions of things, at their numbers -/
class WordP (pr : List Fd) : Prop where
  is_short : pr[0]? = some b_is_short
  is_word : pr[1]? = some b_is_word
class NameP (pr : List Fd) : Prop extends WordP pr where
  is_name : pr[2]? = some b_is_name
class TextP (pr : List Fd) : Prop where
  parts_of : pr[3]? = some b_parts_of
  text_of : pr[4]? = some b_text_of
class Things (pr : List Fd) : Prop extends NameP pr, TextP pr where
  pieces_in : pr[5]? = some b_pieces_in
  pieces_of : pr[6]? = some b_pieces_of
  size_of : pr[7]? = some b_size_of
  names_in : pr[8]? = some b_names_in
  words_in : pr[9]? = some b_words_in
  with_others : pr[10]? = some b_with_others
  replaced : pr[11]? = some b_replaced
/-- the law's own -/
class LawA (pr : List Fd) : Prop where
  law_text : pr[18]? = some b_law_text
  law_is_word : pr[19]? = some b_law_is_word
  law_is_name : pr[20]? = some b_law_is_name
  law_lot : pr[21]? = some b_law_lot
  law_sorted : pr[22]? = some b_law_sorted
  law_put : pr[23]? = some b_law_put
end Iv

set_option Elab.async false
set_option linter.all false
set_option maxHeartbeats 4000000
set_option maxRecDepth 20000

/-! things: what the package's and the law's functions say of them -/
namespace Iv
open PySem L2
inductive Th where
  | leaf (x : Str) | node (w : Str) (ps : List Th)
  deriving Inhabited
mutual
def Th.d : Th → D
  | .leaf x => .str x
  | .node w ps => .tup (.str w :: Th.ds ps)
def Th.ds : List Th → List D
  | [] => []
  | t :: r => t.d :: Th.ds r
end
mutual
def Th.sz : Th → Nat
  | .leaf _ => 1
  | .node _ ps => 1 + Th.szs ps
def Th.szs : List Th → Nat
  | [] => 0
  | t :: r => t.sz + Th.szs r
end
mutual
def Th.dp : Th → Nat
  | .leaf _ => 0
  | .node _ ps => 1 + Th.dps ps
def Th.dps : List Th → Nat
  | [] => 0
  | t :: r => max t.dp (Th.dps r)
end
/-- a word or a name: short, of plain signs -/
def gd (x : Str) : Bool := decide (x.length ≤ 8) && decide (1 ≤ x.length) && x.cps.toList.all fun c => (decide (97 ≤ c) && decide (c ≤ 122)) || (decide (65 ≤ c) && decide (c ≤ 90)) || (decide (48 ≤ c) && decide (c ≤ 57))
mutual
def Th.ok : Th → Bool
  | .leaf x => gd x
  | .node w ps => gd w && !ps.isEmpty && Th.oks ps
def Th.oks : List Th → Bool
  | [] => true
  | t :: r => t.ok && Th.oks r
end
mutual
def Th.text : Th → Str
  | .leaf x => x
  | .node w ps => w ++ "(" ++ Txt.join "," (Th.texts ps) ++ ")"
def Th.texts : List Th → List Str
  | [] => []
  | t :: r => t.text :: Th.texts r
end
theorem ds_map : ∀ ps, Th.ds ps = ps.map Th.d
  | [] => by unfold Th.ds; rfl
  | t :: r => by unfold Th.ds; rw [ds_map r]; rfl
theorem texts_map : ∀ ps, Th.texts ps = ps.map Th.text
  | [] => by unfold Th.texts; rfl
  | t :: r => by unfold Th.texts; rw [texts_map r]; rfl
theorem sz_pos (t : Th) : 1 ≤ t.sz := by
  cases t with
  | leaf x => unfold Th.sz; exact Nat.le_refl _
  | node w ps => unfold Th.sz; omega
theorem szs_mem : ∀ {ps : List Th} {t : Th}, t ∈ ps → t.sz ≤ Th.szs ps
  | t :: r, u, h => by
    unfold Th.szs
    rcases List.mem_cons.mp h with e | h
    · rw [e]; omega
    · have := szs_mem h; omega
theorem szs_len : ∀ ps : List Th, ps.length ≤ Th.szs ps
  | [] => by unfold Th.szs; exact Nat.le_refl _
  | t :: r => by unfold Th.szs; have := szs_len r; have := sz_pos t; rw [List.length_cons]; omega
theorem dps_mem : ∀ {ps : List Th} {t : Th}, t ∈ ps → t.dp ≤ Th.dps ps
  | t :: r, u, h => by
    unfold Th.dps
    rcases List.mem_cons.mp h with e | h
    · rw [e]; omega
    · have := dps_mem h; omega
theorem oks_mem : ∀ {ps : List Th} {t : Th}, Th.oks ps = true → t ∈ ps → t.ok = true
  | t :: r, u, h, hm => by
    unfold Th.oks at h
    rw [Bool.and_eq_true] at h
    rcases List.mem_cons.mp hm with e | hm
    · rw [e]; exact h.1
    · exact oks_mem h.2 hm
/-- an induction over things: the parts are smaller -/
theorem Th.ind {M : Th → Prop} (h1 : ∀ x, M (.leaf x)) (h2 : ∀ w ps, (∀ t ∈ ps, M t) → M (.node w ps)) (t : Th) : M t := by
  have go : ∀ n (t : Th), t.sz ≤ n → M t := by
    intro n
    induction n with
    | zero => intro t h; have := sz_pos t; omega
    | succ n ih =>
      intro t h
      cases t with
      | leaf x => exact h1 x
      | node w ps =>
        refine h2 w ps fun t ht => ih t ?_
        have := szs_mem ht
        unfold Th.sz at h
        omega
  exact go t.sz t (Nat.le_refl _)
theorem len_app (x y : Str) : (x ++ y).length = x.length + y.length := Str.length_append x y
theorem l_open : ("(" : Str).length = 1 := by decide +kernel
theorem l_close : (")" : Str).length = 1 := by decide +kernel
theorem l_comma : ("," : Str).length = 1 := by decide +kernel
theorem gd_len {x : Str} (h : gd x = true) : 1 ≤ x.length ∧ x.length ≤ 8 := by
  unfold gd at h
  simp only [Bool.and_eq_true, decide_eq_true_eq] at h
  exact ⟨h.1.2, h.1.1⟩
theorem join_len (sep : Str) (xs : List Str) : (Txt.join sep xs).length ≤ (xs.map (·.length)).sum + xs.length * sep.length := by
  show (Builtin.Str.glued sep xs).length ≤ _
  rw [StrLaws.glued_eq_join]
  exact StrLaws.join_length_le sep xs
/-- texts are not long -/
theorem text_len (t : Th) : t.ok = true → t.text.length + 1 ≤ 12 * t.sz := by
  refine Th.ind (M := fun t => t.ok = true → t.text.length + 1 ≤ 12 * t.sz) (fun x h => ?_) (fun w ps ih h => ?_) t
  · unfold Th.ok at h; unfold Th.text Th.sz; have := gd_len h; omega
  · unfold Th.ok at h
    rw [Bool.and_eq_true, Bool.and_eq_true] at h
    have hw := gd_len h.1.1
    have hs : ∀ ps : List Th, (∀ t ∈ ps, t.ok = true → t.text.length + 1 ≤ 12 * t.sz) → Th.oks ps = true → ((Th.texts ps).map (·.length)).sum + ps.length ≤ 12 * Th.szs ps := by
      intro ps
      induction ps with
      | nil => intro _ _; unfold Th.texts; simp
      | cons t r ih =>
        intro h1 h2
        unfold Th.texts Th.szs
        unfold Th.oks at h2
        rw [Bool.and_eq_true] at h2
        have a := h1 t List.mem_cons_self h2.1
        have b := ih (fun u hu => h1 u (List.mem_cons_of_mem _ hu)) h2.2
        simp only [List.map_cons, List.sum_cons, List.length_cons]
        omega
    have h1 := hs ps ih h.2
    have h2 := join_len "," (Th.texts ps)
    have h3 : (Th.texts ps).length = ps.length := by rw [texts_map, List.length_map]
    unfold Th.text Th.sz
    rw [len_app, len_app, len_app, l_open, l_close]
    rw [h3, l_comma, Nat.mul_one] at h2
    omega
theorem texts_sum : ∀ {ps : List Th}, Th.oks ps = true → ((ps.map Th.text).map (·.length)).sum + ps.length ≤ 12 * Th.szs ps
  | [], _ => by unfold Th.szs; simp
  | t :: r, h => by
    unfold Th.oks at h
    rw [Bool.and_eq_true] at h
    have a := text_len t h.1
    have b := texts_sum h.2
    unfold Th.szs
    simp only [List.map_cons, List.sum_cons, List.length_cons]
    omega
end Iv

set_option Elab.async false
set_option linter.all false
set_option maxHeartbeats 4000000
set_option maxRecDepth 20000

namespace Iv
open PySem L2
variable {pr : List Fd}
theorem r_short_s [WordP pr] {x : Str} (h : x.length ≤ lim) (k : Nat) (σ : Store) : callK pr (k+1) 0 [.str x] σ = .ok (.bl (decide (1 ≤ x.length) && decide (x.length ≤ 8))) σ := by
  rw [callK_run (fd := b_is_short) WordP.is_short rfl]
  simp [b_is_short, bi_lens h, leave_same]
  by_cases h1 : 1 ≤ x.length
  · have e1 : (1 : Int) ≤ (x.length : Int) := by omega
    by_cases h2 : x.length ≤ 8
    · have e2 : (x.length : Int) ≤ 8 := by omega
      simp [h1, h2, e1, e2, leave_same]
    · have e2 : ¬ (x.length : Int) ≤ 8 := by omega
      simp [h1, h2, e1, e2, leave_same]
  · have e1 : ¬ (1 : Int) ≤ (x.length : Int) := by omega
    simp [h1, e1, leave_same]
theorem r_short_n [WordP pr] {ds : List D} (k : Nat) (σ : Store) : callK pr (k+1) 0 [.tup ds] σ = .ok (.bl false) σ := by
  rw [callK_run (fd := b_is_short) WordP.is_short rfl]
  simp [b_is_short, leave_same]
theorem r_parts_s [TextP pr] {x : Str} (k : Nat) (σ : Store) : callK pr (k+1) 3 [.str x] σ = .ok (.tup []) σ := by
  rw [callK_run (fd := b_parts_of) TextP.parts_of rfl]
  simp [b_parts_of, leave_same, newT]
theorem r_parts_n [TextP pr] {w : D} {ps : List D} (h : ps.length ≤ lim) (k : Nat) (σ : Store) : callK pr (k+1) 3 [.tup (w :: ps)] σ = .ok (.tup ps) σ := by
  rw [callK_run (fd := b_parts_of) TextP.parts_of rfl]
  simp [b_parts_of, leave_same, newT, cut_from1, h]
theorem r_text [TextP pr] (t : Th) : t.ok = true → t.sz ≤ 1000 → ∀ k, t.dp + 2 ≤ k → ∀ σ, callK pr k 4 [t.d] σ = .ok (.str t.text) σ := by
  refine Th.ind (M := fun t => t.ok = true → t.sz ≤ 1000 → ∀ k, t.dp + 2 ≤ k → ∀ σ, callK pr k 4 [t.d] σ = .ok (.str t.text) σ) (fun x h _ k hk σ => ?_) (fun w ps ih h hsz k hk σ => ?_) t
  · obtain ⟨k, rfl⟩ : ∃ j, k = j + 1 := ⟨k - 1, by omega⟩
    unfold Th.d Th.text
    rw [callK_run (fd := b_text_of) TextP.text_of rfl]
    simp [b_text_of, leave_same]
  · unfold Th.dp at hk
    obtain ⟨k, rfl⟩ : ∃ j, k = j + 2 := ⟨k - 2, by omega⟩
    have hok := h
    unfold Th.ok at h
    rw [Bool.and_eq_true, Bool.and_eq_true] at h
    have hlen := text_len _ hok
    have hps := szs_len ps
    have hsz' := hsz
    unfold Th.sz at hsz'
    unfold Th.text at hlen ⊢
    unfold Th.d
    rw [ds_map, texts_map] at *
    rw [len_app, len_app, len_app] at hlen
    rw [callK_run (fd := b_text_of) TextP.text_of rfl]
    have hmap : ∀ t ∈ ps, ev (callK pr (k+1)) (.call 4 [.loc 1] [] [] [0]) ([some (.tup (.str w :: ps.map Th.d)), none].set 1 (some t.d)) σ = .ok (.str t.text) σ := by
      intro t ht
      have := ih t ht (oks_mem h.2 ht) (by have := szs_mem ht; omega) (k+1) (by have := dps_mem ht; omega) σ
      simp [this]
    have hc := compL_mapT Th.d (fun t => .str t.text) hmap (by show ps.length ≤ 16777216; omega)
    have hp := r_parts_n (pr := pr) (w := .str w) (ps := ps.map Th.d) (by rw [List.length_map]; show ps.length ≤ 16777216; omega) k σ
    have hsum := texts_sum h.2
    have hj := join_len "," (ps.map Th.text)
    rw [l_comma, List.length_map] at hj
    rw [l_open, l_close] at hlen
    have hw := gd_len h.1.1
    have f2 : ∀ σ : Store, meD .join (.str ",") [.lst (ps.map fun t => .str t.text)] σ = .ok (.str (Txt.join "," (ps.map Th.text))) σ := fun σ => me_join (strs_of_map _ _) (by rw [l_comma, List.length_map, lim_v]; omega)
    have f1 : ∀ σ : Store, binD .add (.str w) (.str "(") σ = .ok (.str (w ++ "(")) σ := fun σ => b_adds (by rw [l_open, lim_v]; omega)
    have f3 : ∀ σ : Store, binD .add (.str (w ++ "(")) (.str (Txt.join "," (ps.map Th.text))) σ = .ok (.str (w ++ "(" ++ Txt.join "," (ps.map Th.text))) σ := fun σ => b_adds (by rw [len_app, l_open, lim_v]; omega)
    have f4 : ∀ σ : Store, binD .add (.str (w ++ "(" ++ Txt.join "," (ps.map Th.text))) (.str ")") σ = .ok (.str (w ++ "(" ++ Txt.join "," (ps.map Th.text) ++ ")")) σ := fun σ => b_adds (by rw [len_app, len_app, l_open, l_close, lim_v]; omega)
    simp [b_text_of, hp, f1, f2, f3, f4, hc, newL_f (show (ps.map fun t => D.str t.text).length ≤ lim by rw [List.length_map, lim_v]; omega), leave_same]
end Iv

set_option Elab.async false
set_option linter.all false
set_option maxHeartbeats 4000000
set_option maxRecDepth 20000

namespace Iv
open PySem L2
variable {pr : List Fd} [Things pr]
mutual
def Th.units : Th → List Th
  | .leaf x => [.leaf x]
  | .node w ps => .node w ps :: Th.unitss ps
def Th.unitss : List Th → List Th
  | [] => []
  | t :: r => t.units ++ Th.unitss r
end
theorem units_len (t : Th) : t.units.length = t.sz := by
  refine Th.ind (M := fun t => t.units.length = t.sz) (fun x => by unfold Th.units Th.sz; rfl) (fun w ps ih => ?_) t
  have hs : ∀ ps : List Th, (∀ t ∈ ps, t.units.length = t.sz) → (Th.unitss ps).length = Th.szs ps := by
    intro ps
    induction ps with
    | nil => intro _; unfold Th.unitss Th.szs; rfl
    | cons t r ih =>
      intro h
      unfold Th.unitss Th.szs
      rw [List.length_append, h t List.mem_cons_self, ih fun u hu => h u (List.mem_cons_of_mem _ hu)]
  unfold Th.units Th.sz
  rw [List.length_cons, hs ps ih, Nat.add_comm]
theorem unitss_len : ∀ ps : List Th, (Th.unitss ps).length = Th.szs ps
  | [] => by unfold Th.unitss Th.szs; rfl
  | t :: r => by
    unfold Th.unitss Th.szs
    rw [List.length_append, units_len, unitss_len r]
theorem szs_sum : ∀ ps : List Th, (ps.map fun t => (t.sz : Int)).sum = (Th.szs ps : Int)
  | [] => by unfold Th.szs; rfl
  | t :: r => by
    unfold Th.szs
    rw [List.map_cons, List.sum_cons, szs_sum r, Int.natCast_add]
theorem sz_le {t : Th} {ps : List Th} {w : Str} {n : Nat} (h : (Th.node w ps).sz ≤ n) (ht : t ∈ ps) : t.sz ≤ n := by
  have := szs_mem ht
  unfold Th.sz at h
  omega
theorem dp_le {t : Th} {ps : List Th} {w : Str} {n k : Nat} (h : (Th.node w ps).dp + n ≤ k + 1) (ht : t ∈ ps) : t.dp + n ≤ k := by
  have := dps_mem ht
  unfold Th.dp at h
  omega
theorem plen {w : Str} {ps : List Th} {n : Nat} (h : (Th.node w ps).sz ≤ n) : ps.length ≤ n := by
  have := szs_len ps
  unfold Th.sz at h
  omega
theorem ok_parts {w : Str} {ps : List Th} (h : (Th.node w ps).ok = true) : gd w = true ∧ Th.oks ps = true ∧ ps ≠ [] := by
  unfold Th.ok at h
  rw [Bool.and_eq_true, Bool.and_eq_true] at h
  refine ⟨h.1.1, h.2, ?_⟩
  intro e
  rw [e] at h
  exact absurd h.1.2 (by decide)
theorem r_size (t : Th) : t.sz ≤ 1000 → ∀ k, t.dp + 2 ≤ k → ∀ σ, callK pr k 7 [t.d] σ = .ok (.int t.sz) σ := by
  refine Th.ind (M := fun t => t.sz ≤ 1000 → ∀ k, t.dp + 2 ≤ k → ∀ σ, callK pr k 7 [t.d] σ = .ok (.int t.sz) σ) (fun x _ k hk σ => ?_) (fun w ps ih hsz k hk σ => ?_) t
  · obtain ⟨k, rfl⟩ : ∃ j, k = j + 2 := ⟨k - 2, by omega⟩
    unfold Th.d
    rw [callK_run (fd := b_size_of) Things.size_of rfl]
    have hp := r_parts_s (pr := pr) (x := x) k σ
    have hs : biD .sum false (.lst []) σ = .ok (.int 0) σ := bi_sum (ns := []) rfl
    simp [b_size_of, hp, compL, newL, hs, leave_same, Th.sz]
  · obtain ⟨k, rfl⟩ : ∃ j, k = j + 2 := ⟨k - 2, by omega⟩
    have hpl := plen hsz
    unfold Th.d
    rw [ds_map]
    rw [callK_run (fd := b_size_of) Things.size_of rfl]
    have hmap : ∀ t ∈ ps, ev (callK pr (k+1)) (.call 7 [.loc 1] [] [] [0]) ([some (.tup (.str w :: ps.map Th.d)), none].set 1 (some t.d)) σ = .ok (.int t.sz) σ := by
      intro t ht
      have := ih t ht (sz_le hsz ht) (k+1) (dp_le hk ht) σ
      simp [this]
    have hc := compL_mapT Th.d (fun t => .int t.sz) hmap (by rw [lim_v]; omega)
    have hp := r_parts_n (pr := pr) (w := .str w) (ps := ps.map Th.d) (by rw [List.length_map, lim_v]; omega) k σ
    have hs : biD .sum false (.lst (ps.map fun t => .int t.sz)) σ = .ok (.int (Th.szs ps)) σ := by
      rw [bi_sum (ints_of_map (fun t : Th => (t.sz : Int)) ps), szs_sum]
    simp [b_size_of, hp, hc, newL_f (show (ps.map fun t => D.int (t.sz : Int)).length ≤ lim by rw [List.length_map, lim_v]; omega), hs, leave_same, Th.sz]
theorem r_ltext [LawA pr] (t : Th) : t.ok = true → t.sz ≤ 1000 → ∀ k, t.dp + 1 ≤ k → ∀ σ, callK pr k 18 [t.d] σ = .ok (.str t.text) σ := by
  refine Th.ind (M := fun t => t.ok = true → t.sz ≤ 1000 → ∀ k, t.dp + 1 ≤ k → ∀ σ, callK pr k 18 [t.d] σ = .ok (.str t.text) σ) (fun x h _ k hk σ => ?_) (fun w ps ih h hsz k hk σ => ?_) t
  · obtain ⟨k, rfl⟩ : ∃ j, k = j + 1 := ⟨k - 1, by omega⟩
    unfold Th.d Th.text
    rw [callK_run (fd := b_law_text) LawA.law_text rfl]
    simp [b_law_text, leave_same]
  · obtain ⟨k, rfl⟩ : ∃ j, k = j + 1 := ⟨k - 1, by omega⟩
    have hpl := plen hsz
    obtain ⟨hg, ho, _⟩ := ok_parts h
    have hlen := text_len _ h
    unfold Th.text at hlen ⊢
    unfold Th.d
    rw [ds_map, texts_map] at *
    rw [len_app, len_app, len_app] at hlen
    rw [callK_run (fd := b_law_text) LawA.law_text rfl]
    have hmap : ∀ t ∈ ps, ev (callK pr k) (.call 18 [.loc 1] [] [] [0]) ([some (.tup (.str w :: ps.map Th.d)), none].set 1 (some t.d)) σ = .ok (.str t.text) σ := by
      intro t ht
      have := ih t ht (oks_mem ho ht) (sz_le hsz ht) k (dp_le hk ht) σ
      simp [this]
    have hc := compL_mapT Th.d (fun t => .str t.text) hmap (by rw [lim_v]; omega)
    have hsum := texts_sum ho
    have hsz' := hsz
    unfold Th.sz at hsz'
    have hj := join_len "," (ps.map Th.text)
    rw [l_comma, List.length_map] at hj
    rw [l_open, l_close] at hlen
    have hw := gd_len hg
    have f2 : ∀ σ : Store, meD .join (.str ",") [.lst (ps.map fun t => .str t.text)] σ = .ok (.str (Txt.join "," (ps.map Th.text))) σ := fun σ => me_join (strs_of_map _ _) (by rw [l_comma, List.length_map, lim_v]; omega)
    have f1 : ∀ σ : Store, binD .add (.str w) (.str "(") σ = .ok (.str (w ++ "(")) σ := fun σ => b_adds (by rw [l_open, lim_v]; omega)
    have f3 : ∀ σ : Store, binD .add (.str (w ++ "(")) (.str (Txt.join "," (ps.map Th.text))) σ = .ok (.str (w ++ "(" ++ Txt.join "," (ps.map Th.text))) σ := fun σ => b_adds (by rw [len_app, l_open, lim_v]; omega)
    have f4 : ∀ σ : Store, binD .add (.str (w ++ "(" ++ Txt.join "," (ps.map Th.text))) (.str ")") σ = .ok (.str (w ++ "(" ++ Txt.join "," (ps.map Th.text) ++ ")")) σ := fun σ => b_adds (by rw [len_app, len_app, l_open, l_close, lim_v]; omega)
    simp [b_law_text, f1, f2, f3, f4, cut_from1, newT_ok (show (ps.map Th.d).length ≤ lim by rw [List.length_map, lim_v]; omega), hc, newL_f (show (ps.map fun t => D.str t.text).length ≤ lim by rw [List.length_map, lim_v]; omega), leave_same]
end Iv

set_option Elab.async false
set_option linter.all false
set_option maxHeartbeats 4000000
set_option maxRecDepth 20000

namespace Iv
open PySem L2
variable {pr : List Fd} [Things pr]
theorem forL_cons {t : Tg} {b : Iv.Env → Store → Out} {d : D} {ds : List D} {ρ ρ1 : Iv.Env} {σ : Store} (h : tgD t d ρ = some ρ1) : forL t b (d :: ds) ρ σ = match b ρ1 σ with
      | .nx ρ2 σ2 => forL t b ds ρ2 σ2
      | .ct ρ2 σ2 => forL t b ds ρ2 σ2
      | .bk ρ2 σ2 => .nx ρ2 σ2
      | o => o := by
  rw [forL, h]
  try rfl
  try (cases b ρ1 σ <;> rfl)
theorem r_lot [LawA pr] (t : Th) : t.sz ≤ 1000 → ∀ k, t.dp + 1 ≤ k → ∀ σ, callK pr k 21 [t.d] σ = .ok (.lst (t.units.map Th.d)) σ := by
  refine Th.ind (M := fun t => t.sz ≤ 1000 → ∀ k, t.dp + 1 ≤ k → ∀ σ, callK pr k 21 [t.d] σ = .ok (.lst (t.units.map Th.d)) σ) (fun x _ k hk σ => ?_) (fun w ps ih hsz k hk σ => ?_) t
  · obtain ⟨k, rfl⟩ : ∃ j, k = j + 1 := ⟨k - 1, by omega⟩
    unfold Th.d Th.units
    rw [callK_run (fd := b_law_lot) LawA.law_lot rfl]
    simp [b_law_lot, leave_same, newT, newL, forL, lim_v, Th.d]
  · obtain ⟨k, rfl⟩ : ∃ j, k = j + 1 := ⟨k - 1, by omega⟩
    have hpl := plen hsz
    have hsz' := hsz
    unfold Th.sz at hsz'
    unfold Th.units
    unfold Th.d
    rw [callK_run (fd := b_law_lot) LawA.law_lot rfl]
    have hfor : ∀ (qs : List Th) (acc : List D) (p : Option D), (∀ t ∈ qs, t ∈ ps) → acc.length + Th.szs qs ≤ 2000 → ∃ p', forL (.nm 2) (exs (callK pr k) [.asg (.nm 1) (.bin .add (.loc 1) (.call 21 [.loc 2] [] [] [0]))]) (qs.map Th.d) [some (.tup (.str w :: ps.map Th.d)), some (.lst acc), p] σ = .nx [some (.tup (.str w :: ps.map Th.d)), some (.lst (acc ++ (Th.unitss qs).map Th.d)), p'] σ := by
      intro qs
      induction qs with
      | nil => intro acc p _ _; exact ⟨p, by unfold Th.unitss; simp [forL]⟩
      | cons t r ihq =>
        intro acc p hm hl
        unfold Th.szs at hl
        have h1 := ih t (hm t List.mem_cons_self) (sz_le hsz (hm t List.mem_cons_self)) k (dp_le hk (hm t List.mem_cons_self)) σ
        obtain ⟨p', e⟩ := ihq (acc ++ t.units.map Th.d) (some t.d) (fun u hu => hm u (List.mem_cons_of_mem _ hu)) (by rw [List.length_append, List.length_map, units_len]; omega)
        refine ⟨p', ?_⟩
        rw [List.map_cons, forL_cons (ρ1 := [some (.tup (.str w :: ps.map Th.d)), some (.lst acc), some t.d]) rfl]
        have hn : ∀ σ : Store, newL false (acc ++ t.units.map Th.d) σ = .ok (.lst (acc ++ t.units.map Th.d)) σ := fun σ => newL_f (by rw [List.length_append, List.length_map, units_len, lim_v]; omega)
        simp only [exs_cons, exs_nil, ex_asg, ev_bin, ev_loc, ev_call, evs_cons', evs_nil, ns_1, splice_f, Res.bind_ok, perm_cons, perm_nil, h1, b_addl, hn, Out.of_ok, tg_nm, then_nx, List.getElem?_cons_zero, List.getElem?_cons_succ, List.nil_append, List.append_nil, List.cons_append, Option.bind_some, List.set]
        unfold Th.unitss
        rw [List.map_append, ← List.append_assoc]
        exact e
    obtain ⟨p', e⟩ := hfor ps [.tup (.str w :: ps.map Th.d)] none (fun _ h => h) (by simp; omega)
    rw [ds_map]
    have e2 := newT_ok (σ := σ) (show (ps.map Th.d).length ≤ lim by rw [List.length_map, lim_v]; omega)
    have e3 : ∀ σ : Store, newL false [D.tup (.str w :: ps.map Th.d)] σ = .ok (.lst [D.tup (.str w :: ps.map Th.d)]) σ := fun σ => newL_f (by simp [lim_v])
    simp [b_law_lot, leave_same, cut_from1, e, e2, e3, Th.d, ds_map]
/-! another thing in the place of a name -/
mutual
def put (n : Str) (o : Th) : Th → Th
  | .leaf x => if x = n then o else .leaf x
  | .node w ps => .node w (puts n o ps)
def puts (n : Str) (o : Th) : List Th → List Th
  | [] => []
  | t :: r => put n o t :: puts n o r
end
theorem puts_map {n : Str} {o : Th} : ∀ ps, puts n o ps = ps.map (put n o)
  | [] => by unfold puts; rfl
  | t :: r => by unfold puts; rw [puts_map r]; rfl
theorem d_leaf {x : Str} : (Th.leaf x).d = .str x := by unfold Th.d; rfl
theorem d_node {w : Str} {ps : List Th} : (Th.node w ps).d = .tup (.str w :: ps.map Th.d) := by unfold Th.d; rw [ds_map]
theorem put_leaf {n x : Str} {o : Th} : put n o (.leaf x) = if x = n then o else .leaf x := by unfold put; rfl
theorem put_node {n w : Str} {o : Th} {ps : List Th} : put n o (.node w ps) = .node w (ps.map (put n o)) := by unfold put; rw [puts_map]
theorem r_put [LawA pr] {n : Str} {o : Th} (t : Th) : t.sz ≤ 1000 → ∀ k, t.dp + 1 ≤ k → ∀ σ, callK pr k 23 [t.d, .str n, o.d] σ = .ok (put n o t).d σ := by
  refine Th.ind (M := fun t => t.sz ≤ 1000 → ∀ k, t.dp + 1 ≤ k → ∀ σ, callK pr k 23 [t.d, .str n, o.d] σ = .ok (put n o t).d σ) (fun x _ k hk σ => ?_) (fun w ps ih hsz k hk σ => ?_) t
  · obtain ⟨k, rfl⟩ : ∃ j, k = j + 1 := ⟨k - 1, by omega⟩
    rw [d_leaf, put_leaf, callK_run (fd := b_law_put) LawA.law_put rfl]
    by_cases e : x = n
    · simp [b_law_put, leave_same, e]
    · simp [b_law_put, leave_same, e, d_leaf]
  · obtain ⟨k, rfl⟩ : ∃ j, k = j + 1 := ⟨k - 1, by omega⟩
    have hpl := plen hsz
    rw [put_node, d_node, d_node, List.map_map]
    rw [callK_run (fd := b_law_put) LawA.law_put rfl]
    have hmap : ∀ t ∈ ps, ev (callK pr k) (.call 23 [.loc 3, .loc 1, .loc 2] [] [] [0, 1, 2]) ([some (.tup (.str w :: ps.map Th.d)), some (.str n), some o.d, none].set 3 (some t.d)) σ = .ok (put n o t).d σ := by
      intro t ht
      have := ih t ht (sz_le hsz ht) k (dp_le hk ht) σ
      simp [this]
    have hc := compL_mapT Th.d (fun t => (put n o t).d) hmap (by rw [lim_v]; omega)
    have e1 : ∀ σ : Store, newT (ps.map Th.d) σ = .ok (.tup (ps.map Th.d)) σ := fun σ => newT_ok (by rw [List.length_map, lim_v]; omega)
    have e2 : ∀ σ : Store, newT (ps.map fun t => (put n o t).d) σ = .ok (.tup (ps.map fun t => (put n o t).d)) σ := fun σ => newT_ok (by rw [List.length_map, lim_v]; omega)
    have e3 : ∀ σ : Store, newL false (ps.map fun t => (put n o t).d) σ = .ok (.lst (ps.map fun t => (put n o t).d)) σ := fun σ => newL_f (by rw [List.length_map, lim_v]; omega)
    have e4 : ∀ σ : Store, newT [D.str w] σ = .ok (.tup [D.str w]) σ := fun σ => newT_ok (by simp [lim_v])
    have e5 : ∀ σ : Store, newT (D.str w :: ps.map fun t => (put n o t).d) σ = .ok (.tup (D.str w :: ps.map fun t => (put n o t).d)) σ := fun σ => newT_ok (by rw [List.length_cons, List.length_map, lim_v]; omega)
    simp [b_law_put, leave_same, cut_from1, cut_to1, e1, e2, e3, e4, e5, hc, Function.comp_def]
theorem r_others {n : Str} {o : Th} (t : Th) : t.sz ≤ 1000 → ∀ k, t.dp + 2 ≤ k → ∀ σ, callK pr k 10 [t.d, .dic [.inr n] [o.d]] σ = .ok (put n o t).d σ := by
  refine Th.ind (M := fun t => t.sz ≤ 1000 → ∀ k, t.dp + 2 ≤ k → ∀ σ, callK pr k 10 [t.d, .dic [.inr n] [o.d]] σ = .ok (put n o t).d σ) (fun x _ k hk σ => ?_) (fun w ps ih hsz k hk σ => ?_) t
  · obtain ⟨k, rfl⟩ : ∃ j, k = j + 1 := ⟨k - 1, by omega⟩
    rw [d_leaf, put_leaf, callK_run (fd := b_with_others) Things.with_others rfl]
    by_cases e : x = n
    · simp [b_with_others, leave_same, e, meD, dKey, look]
    · have e' : ¬ n = x := fun h => e h.symm
      simp [b_with_others, leave_same, e, e', meD, dKey, look, d_leaf]
  · obtain ⟨k, rfl⟩ : ∃ j, k = j + 2 := ⟨k - 2, by omega⟩
    have hpl := plen hsz
    rw [put_node, d_node, d_node, List.map_map]
    rw [callK_run (fd := b_with_others) Things.with_others rfl]
    have hmap : ∀ t ∈ ps, ev (callK pr (k+1)) (.call 10 [.loc 2, .loc 1] [] [] [0, 1]) ([some (.tup (.str w :: ps.map Th.d)), some (.dic [.inr n] [o.d]), none].set 2 (some t.d)) σ = .ok (put n o t).d σ := by
      intro t ht
      have := ih t ht (sz_le hsz ht) (k+1) (dp_le hk ht) σ
      simp [this]
    have hc := compL_mapT Th.d (fun t => (put n o t).d) hmap (by rw [lim_v]; omega)
    have hp := r_parts_n (pr := pr) (w := .str w) (ps := ps.map Th.d) (by rw [List.length_map, lim_v]; omega) k σ
    have e3 : ∀ σ : Store, newL false (ps.map fun t => (put n o t).d) σ = .ok (.lst (ps.map fun t => (put n o t).d)) σ := fun σ => newL_f (by rw [List.length_map, lim_v]; omega)
    have e5 : ∀ σ : Store, newT (D.str w :: ps.map fun t => (put n o t).d) σ = .ok (.tup (D.str w :: ps.map fun t => (put n o t).d)) σ := fun σ => newT_ok (by rw [List.length_cons, List.length_map, lim_v]; omega)
    simp [b_with_others, leave_same, hp, e3, e5, hc, Function.comp_def]
theorem r_replaced {n : Str} {o : Th} (t : Th) (hsz : t.sz ≤ 1000) (k : Nat) (hk : t.dp + 3 ≤ k) (σ : Store) : callK pr k 11 [t.d, .str n, o.d] σ = .ok (put n o t).d σ := by
  obtain ⟨k, rfl⟩ : ∃ j, k = j + 1 := ⟨k - 1, by omega⟩
  have h := r_others (pr := pr) (n := n) (o := o) t hsz k (by omega) σ
  rw [callK_run (fd := b_replaced) Things.replaced rfl]
  simp [b_replaced, leave_same, pairUp, dKey, mergeD, putD, newD, lim_v, h]
end Iv

set_option Elab.async false
set_option linter.all false
set_option maxHeartbeats 4000000
set_option maxRecDepth 20000

namespace Iv
open PySem L2
variable {pr : List Fd} [WordP pr]
def low (c : Nat) : Bool := decide (97 ≤ c) && decide (c ≤ 122)
def cap (c : Nat) : Bool := decide (65 ≤ c) && decide (c ≤ 90)
def dig (c : Nat) : Bool := decide (48 ≤ c) && decide (c ≤ 57)
def isW : Th → Bool
  | .leaf x => x.cps.toList.all low
  | .node _ _ => false
def isN : Th → Bool
  | .leaf x => (match x.cps.toList with
    | c :: r => cap c && r.all fun c => low c || dig c
    | [] => false)
  | .node _ _ => false
theorem gd_ch {x : Str} (h : gd x = true) : ∀ c ∈ x.cps.toList, c < 123 := by
  unfold gd at h
  rw [Bool.and_eq_true, List.all_eq_true] at h
  intro c hc
  have := h.2 c hc
  simp only [Bool.or_eq_true, Bool.and_eq_true, decide_eq_true_eq] at this
  omega
theorem gd_cons {x : Str} (h : gd x = true) : ∃ c r, x.cps.toList = c :: r := by
  have := (gd_len h).1
  have e : x.length = x.cps.toList.length := by simp [Str.length]
  rw [e] at this
  cases hx : x.cps.toList with
  | nil => rw [hx] at this; simp at this
  | cons c r => exact ⟨c, r, rfl⟩
def small : Str := "abcdefghijklmnopqrstuvwxyz"
def caps : Str := "ABCDEFGHIJKLMNOPQRSTUVWXYZ"
def digs : Str := "0123456789"
theorem in_small : ∀ c, c < 123 → (Builtin.Str.occurrences small ⟨#[c]⟩ 0 small.length 1).isEmpty = !low c := by decide +kernel
theorem in_caps : ∀ c, c < 123 → (Builtin.Str.occurrences caps ⟨#[c]⟩ 0 caps.length 1).isEmpty = !cap c := by decide +kernel
theorem in_both : ∀ c, c < 123 → (Builtin.Str.occurrences (small ++ digs) ⟨#[c]⟩ 0 (small ++ digs).length 1).isEmpty = !(low c || dig c) := by decide +kernel
def sg (c : Nat) : Str := ⟨#[c]⟩
theorem lt_a : ∀ c, c < 123 → strLt (sg c) "a" = !decide (97 ≤ c) := by decide +kernel
theorem lt_z : ∀ c, c < 123 → strLt "z" (sg c) = !decide (c ≤ 122) := by decide +kernel
theorem lt_A : ∀ c, c < 123 → strLt (sg c) "A" = !decide (65 ≤ c) := by decide +kernel
theorem lt_Z : ∀ c, c < 123 → strLt "Z" (sg c) = !decide (c ≤ 90) := by decide +kernel
theorem lt_0 : ∀ c, c < 123 → strLt (sg c) "0" = !decide (48 ≤ c) := by decide +kernel
theorem lt_9 : ∀ c, c < 123 → strLt "9" (sg c) = !decide (c ≤ 57) := by decide +kernel
theorem c_in_small {c : Nat} {σ : Store} (h : c < 123) : cmpD .isin (.str (sg c)) (.str "abcdefghijklmnopqrstuvwxyz") σ = .ok (.bl (low c)) σ := by
  have := in_small c h
  rw [c_ins]
  show Res.ok (D.bl (!(Builtin.Str.occurrences small (sg c) 0 small.length 1).isEmpty)) σ = _
  unfold sg
  rw [this, Bool.not_not]
theorem c_in_caps {c : Nat} {σ : Store} (h : c < 123) : cmpD .isin (.str (sg c)) (.str "ABCDEFGHIJKLMNOPQRSTUVWXYZ") σ = .ok (.bl (cap c)) σ := by
  have := in_caps c h
  rw [c_ins]
  show Res.ok (D.bl (!(Builtin.Str.occurrences caps (sg c) 0 caps.length 1).isEmpty)) σ = _
  unfold sg
  rw [this, Bool.not_not]
theorem c_in_both {c : Nat} {σ : Store} (h : c < 123) : cmpD .isin (.str (sg c)) (.str (small ++ digs)) σ = .ok (.bl (low c || dig c)) σ := by
  have := in_both c h
  rw [c_ins]
  unfold sg
  rw [this, Bool.not_not]
theorem strok {x : Str} (h : gd x = true) : PyData.strOk x = true := by
  unfold PyData.strOk
  rw [← Array.all_toList, List.all_eq_true]
  intro c hc
  have := gd_ch h c hc
  rw [decide_eq_true_eq]
  omega
theorem r_is_word (t : Th) (h : t.ok = true) (k : Nat) (σ : Store) : callK pr (k+2) 1 [t.d] σ = .ok (.bl (isW t)) σ := by
  cases t with
  | leaf x =>
    unfold Th.ok at h
    have hl := gd_len h
    have hch := gd_ch h
    have hs := r_short_s (pr := pr) (x := x) (by rw [lim_v]; omega) k σ
    rw [d_leaf, callK_run (fd := b_is_word) WordP.is_word rfl]
    have hmap : ∀ c ∈ x.cps.toList, ev (callK pr (k+1)) (.cmp .isin (.loc 1) (.glo "" (.str "abcdefghijklmnopqrstuvwxyz"))) ([some (.str x), none].set 1 (some (.str (sg c)))) σ = .ok (.bl (low c)) σ := by
      intro c hc
      have := c_in_small (σ := σ) (hch c hc)
      simp [this, -c_ins]
    have hc := compL_mapT (fun c => D.str (sg c)) (fun c => D.bl (low c)) hmap (by have e : x.length = x.cps.toList.length := by simp [Str.length]
                                                                                   rw [lim_v]; omega)
    have ha : biD .all false (.lst (x.cps.toList.map fun c => D.bl (low c))) σ = .ok (.bl (x.cps.toList.all low)) σ := by
      rw [bi_all (bls_of_map low _)]
      simp
    have e1 : (decide (1 ≤ x.length) && decide (x.length ≤ 8)) = true := by simp; omega
    have hn : newL false (x.cps.toList.map fun c => D.bl (low c)) σ = .ok (.lst (x.cps.toList.map fun c => D.bl (low c))) σ := newL_f (by
      have e : x.length = x.cps.toList.length := by simp [Str.length]
      rw [List.length_map, lim_v]; omega)
    rw [e1] at hs
    have hi : itemsOf σ .on [.str x] = some (x.cps.toList.map fun c => D.str (sg c)) := rfl
    simp [b_is_word, hs, hi, hc, hn, ha, leave_same, isW, -it_str, -List.map_map, -compL]
  | node w ps =>
    rw [d_node, callK_run (fd := b_is_word) WordP.is_word rfl]
    have hs := r_short_n (pr := pr) (ds := .str w :: ps.map Th.d) k σ
    simp [b_is_word, hs, leave_same, isW]
end Iv

set_option Elab.async false
set_option linter.all false
set_option maxHeartbeats 4000000
set_option maxRecDepth 20000

namespace Iv
open PySem L2
variable {pr : List Fd} [Things pr]
theorem str_len (x : Str) : x.cps.toList.length = x.length := by simp [Str.length]
theorem idx_str0 {x : Str} {c : Nat} {r : List Nat} {σ : Store} (h : x.cps.toList = c :: r) (hl : x.length ≤ lim) : idxD (.str x) (.int 0) σ = .ok (.str (sg c)) σ := by
  unfold idxD
  rw [view_str]
  dsimp only
  rw [if_pos hl, h, atI_zero]
  rfl
theorem sl_str1 {x : Str} {c : Nat} {r : List Nat} {σ : Store} (h : x.cps.toList = c :: r) (hl : x.length ≤ lim) : sliceD false (.str x) (.int 1) .non σ = .ok (.str ⟨r.toArray⟩) σ := by
  rw [sl_str' hl opt_int opt_non, cut_from1, h]
  rfl
theorem r_is_name (t : Th) (h : t.ok = true) (k : Nat) (σ : Store) : callK pr (k+2) 2 [t.d] σ = .ok (.bl (isN t)) σ := by
  cases t with
  | leaf x =>
    unfold Th.ok at h
    have hl := gd_len h
    have hch := gd_ch h
    obtain ⟨c0, r, hx⟩ := gd_cons h
    have hrl : r.length ≤ 8 := by have := str_len x; rw [hx, List.length_cons] at this; omega
    have hs := r_short_s (pr := pr) (x := x) (by rw [lim_v]; omega) k σ
    rw [d_leaf, callK_run (fd := b_is_name) NameP.is_name rfl]
    have hadd : ∀ σ : Store, binD .add (.str "abcdefghijklmnopqrstuvwxyz") (.str "0123456789") σ = .ok (.str (small ++ digs)) σ := fun σ => b_adds (by decide +kernel)
    have hmap : ∀ c ∈ r, ev (callK pr (k+1)) (.cmp .isin (.loc 1) (.bin .add (.glo "" (.str "abcdefghijklmnopqrstuvwxyz")) (.glo "" (.str "0123456789")))) ([some (.str x), none].set 1 (some (.str (sg c)))) σ = .ok (.bl (low c || dig c)) σ := by
      intro c hc
      have := c_in_both (σ := σ) (hch c (by rw [hx]; exact List.mem_cons_of_mem _ hc))
      simp [this, hadd, -c_ins]
    have hc := compL_mapT (fun c => D.str (sg c)) (fun c => D.bl (low c || dig c)) hmap (by rw [lim_v]; omega)
    have ha : biD .all false (.lst (r.map fun c => D.bl (low c || dig c))) σ = .ok (.bl (r.all fun c => low c || dig c)) σ := by
      rw [bi_all (bls_of_map (fun c => low c || dig c) _)]
      simp
    have e1 : (decide (1 ≤ x.length) && decide (x.length ≤ 8)) = true := by simp; omega
    have hn : newL false (r.map fun c => D.bl (low c || dig c)) σ = .ok (.lst (r.map fun c => D.bl (low c || dig c))) σ := newL_f (by rw [List.length_map, lim_v]; omega)
    rw [e1] at hs
    have hi : itemsOf σ .on [.str ⟨r.toArray⟩] = some (r.map fun c => D.str (sg c)) := rfl
    have hi0 := idx_str0 (σ := σ) hx (by rw [lim_v]; omega)
    have hs1 := sl_str1 (σ := σ) hx (by rw [lim_v]; omega)
    have hcap := c_in_caps (σ := σ) (hch c0 (by rw [hx]; exact List.mem_cons_self))
    have hN : isN (.leaf x) = (cap c0 && r.all fun c => low c || dig c) := by unfold isN; dsimp only; rw [hx]
    rw [hN]
    cases hcc : cap c0 with
    | true =>
      rw [hcc] at hcap
      simp [b_is_name, hs, hi, hi0, hs1, hcap, hc, hn, ha, leave_same, -it_str, -List.map_map, -c_ins]
    | false =>
      rw [hcc] at hcap
      simp [b_is_name, hs, hi0, hcap, leave_same, -it_str, -List.map_map, -c_ins]
  | node w ps =>
    rw [d_node, callK_run (fd := b_is_name) NameP.is_name rfl]
    have hs := r_short_n (pr := pr) (ds := .str w :: ps.map Th.d) k σ
    simp [b_is_name, hs, leave_same, isN]
theorem filt_nil {α : Type} (p : α → Bool) : ∀ xs : List α, ((xs.filter fun x => !p x).map fun _ => ()).isEmpty = xs.all p
  | [] => rfl
  | x :: r => by
    have ih := filt_nil p r
    rw [List.filter_cons, List.all_cons]
    cases h : p x with
    | true => simpa using ih
    | false => rfl
theorem filt_nil' {α : Type} (p : α → Bool) (f : α → D) (xs : List α) : ((xs.filter fun x => !p x).map f).isEmpty = xs.all p := by
  rw [← filt_nil p xs, map_isEmpty, map_isEmpty]
theorem ok_sg {c : Nat} (h : c < 123) : PyData.strOk (sg c) = true := by
  unfold PyData.strOk sg
  rw [← Array.all_toList]
  simp
  omega
theorem eq_nil_sg {l : List Nat} {σ : Store} (h : ∀ c ∈ l, c < 123) : cmpD .eq (.lst (l.map fun c => D.str (sg c))) (.lst []) σ = .ok (.bl (l.map fun c => D.str (sg c)).isEmpty) σ :=
  c_eqnil (b := true) rfl (sims_map fun c hc => by unfold D.sim; exact ok_sg (h c hc)) (Nat.le_trans (dps_map (n := 0) (f := fun c => D.str (sg c)) (xs := l) fun c _ => by unfold D.dp; exact Nat.le_refl _) (by decide))
theorem r_law_is_word [LawA pr] (t : Th) (h : t.ok = true) (k : Nat) (σ : Store) : callK pr (k+1) 19 [t.d] σ = .ok (.bl (isW t)) σ := by
  cases t with
  | leaf x =>
    unfold Th.ok at h
    have hl := gd_len h
    have hch := gd_ch h
    rw [d_leaf, callK_run (fd := b_law_is_word) LawA.law_is_word rfl]
    have hc := compL_fT (t := .nm 1) (ρ := [some (.str x), none]) (σ := σ) (c := ev (callK pr k) (.not (.chain .le .le (.str "a") (.loc 1) (.str "z")))) (elt := ev (callK pr k) (.loc 1)) (fun c => D.str (sg c)) (fun c => !low c) (fun c => D.str (sg c)) (xs := x.cps.toList) (acc := []) (fun c hc => by
      have hc := hch c hc
      refine ⟨_, rfl, ?_, fun _ => ?_⟩
      · have e1 := lt_a c hc
        have e2 := lt_z c hc
        by_cases e : 97 ≤ c
        · simp [e1, e2, e, low]
        · simp [e1, e2, e, low]
      · simp) (by rw [str_len, lim_v]; simp; omega)
    have hi : itemsOf σ .on [.str x] = some (x.cps.toList.map fun c => D.str (sg c)) := rfl
    have hfl : (x.cps.toList.filter fun c => !low c).length ≤ lim := Nat.le_trans (List.length_filter_le _ _) (by rw [str_len, lim_v]; omega)
    have hn := newL_f (σ := σ) (xs := (x.cps.toList.filter fun c => !low c).map fun c => D.str (sg c)) (by rw [List.length_map]; exact hfl)
    have he := eq_nil_sg (l := x.cps.toList.filter fun c => !low c) (σ := σ) (fun c hc => hch c ((List.mem_filter.mp hc).1))
    rw [filt_nil'] at he
    rw [List.nil_append] at hc
    have g1 : ¬ (x.length : Int) < 1 := by omega
    have g2 : ¬ (8 : Int) < (x.length : Int) := by omega
    have hnil := newL_f (σ := σ) (show ([] : List D).length ≤ lim from Nat.zero_le _)
    have hlen := bi_lens (mu := false) (σ := σ) (show x.length ≤ lim by rw [lim_v]; omega)
    simp [b_law_is_word, hlen, g1, g2, hi, hc, hn, hnil, he, isW, leave_same, -it_str, -List.map_map]
  | node w ps =>
    rw [d_node, callK_run (fd := b_law_is_word) LawA.law_is_word rfl]
    simp [b_law_is_word, leave_same, isW]
theorem r_law_is_name [LawA pr] (t : Th) (h : t.ok = true) (k : Nat) (σ : Store) : callK pr (k+1) 20 [t.d] σ = .ok (.bl (isN t)) σ := by
  cases t with
  | leaf x =>
    unfold Th.ok at h
    have hl := gd_len h
    have hch := gd_ch h
    obtain ⟨c0, r, hx⟩ := gd_cons h
    have hrl : r.length ≤ 8 := by have := str_len x; rw [hx, List.length_cons] at this; omega
    rw [d_leaf, callK_run (fd := b_law_is_name) LawA.law_is_name rfl]
    have hr : ∀ c ∈ r, c < 123 := fun c hc => hch c (by rw [hx]; exact List.mem_cons_of_mem _ hc)
    have h0 : c0 < 123 := hch c0 (by rw [hx]; exact List.mem_cons_self)
    have hc := compL_fT (t := .nm 1) (ρ := [some (.str x), none]) (σ := σ) (c := ev (callK pr k) (.and (.not (.chain .le .le (.str "a") (.loc 1) (.str "z"))) (.not (.chain .le .le (.str "0") (.loc 1) (.str "9"))))) (elt := ev (callK pr k) (.loc 1)) (fun c => D.str (sg c)) (fun c => !(low c || dig c)) (fun c => D.str (sg c)) (xs := r) (acc := []) (fun c hc => by
      have hc := hr c hc
      refine ⟨_, rfl, ?_, fun _ => ?_⟩
      · have e1 := lt_a c hc
        have e2 := lt_z c hc
        have e3 := lt_0 c hc
        have e4 := lt_9 c hc
        by_cases e : 97 ≤ c
        · by_cases e' : c ≤ 122
          · simp [e1, e2, e3, e4, e, e', low, dig]
          · have e5 : ¬ c ≤ 57 := by omega
            have e6 : 48 ≤ c := by omega
            simp [e1, e2, e3, e4, e, e', e5, e6, low, dig]
        · by_cases e' : 48 ≤ c
          · simp [e1, e2, e3, e4, e, e', low, dig]
          · simp [e1, e2, e3, e4, e, e', low, dig]
      · simp) (by rw [lim_v]; simp; omega)
    have hi : itemsOf σ .on [.str ⟨r.toArray⟩] = some (r.map fun c => D.str (sg c)) := rfl
    have hfl : (r.filter fun c => !(low c || dig c)).length ≤ lim := Nat.le_trans (List.length_filter_le _ _) (by rw [lim_v]; omega)
    have hn := newL_f (σ := σ) (xs := (r.filter fun c => !(low c || dig c)).map fun c => D.str (sg c)) (by rw [List.length_map]; exact hfl)
    have he := eq_nil_sg (l := r.filter fun c => !(low c || dig c)) (σ := σ) (fun c hc => hr c (List.mem_filter.mp hc).1)
    rw [filt_nil'] at he
    rw [List.nil_append] at hc
    have g1 : ¬ (x.length : Int) < 1 := by omega
    have g2 : ¬ (8 : Int) < (x.length : Int) := by omega
    have hnil := newL_f (σ := σ) (show ([] : List D).length ≤ lim from Nat.zero_le _)
    have hlen := bi_lens (mu := false) (σ := σ) (show x.length ≤ lim by rw [lim_v]; omega)
    have hi0 := idx_str0 (σ := σ) hx (by rw [lim_v]; omega)
    have hs1 := sl_str1 (σ := σ) hx (by rw [lim_v]; omega)
    have hN : isN (.leaf x) = (cap c0 && r.all fun c => low c || dig c) := by unfold isN; dsimp only; rw [hx]
    rw [hN]
    have e1 := lt_A c0 h0
    have e2 := lt_Z c0 h0
    by_cases e : 65 ≤ c0
    · by_cases e' : c0 ≤ 90
      · have ec : cap c0 = true := by unfold cap; simp [e, e']
        rw [ec, Bool.true_and]
        generalize (r.filter fun c => !(low c || dig c)) = L at *
        generalize (r.all fun c => low c || dig c) = B at *
        simp [b_law_is_name, hlen, g1, g2, hi, hi0, hs1, hc, hn, hnil, he, e1, e2, e, e', leave_same, -it_str, -List.map_map]
      · have ec : cap c0 = false := by unfold cap; simp [e, e']
        rw [ec, Bool.false_and]
        simp [b_law_is_name, hlen, g1, g2, hi0, e1, e2, e, e', leave_same, -it_str, -List.map_map]
    · have ec : cap c0 = false := by unfold cap; simp [e]
      rw [ec, Bool.false_and]
      simp [b_law_is_name, hlen, g1, g2, hi0, e1, e2, e, leave_same, -it_str, -List.map_map]
  | node w ps =>
    rw [d_node, callK_run (fd := b_law_is_name) LawA.law_is_name rfl]
    simp [b_law_is_name, leave_same, isN]
end Iv

set_option Elab.async false
set_option linter.all false
set_option maxHeartbeats 4000000
set_option maxRecDepth 20000

namespace Iv
open PySem L2
variable {pr : List Fd} [Things pr]
/-! one text, one thing -/
def Str.l (x : Str) : List Nat := x.cps.toList
mutual
def Th.l : Th → List Nat
  | .leaf x => x.cps.toList
  | .node w ps => w.cps.toList ++ 40 :: (Th.ls ps ++ [41])
def Th.ls : List Th → List Nat
  | [] => []
  | t :: r => t.l ++ Th.lr r
def Th.lr : List Th → List Nat
  | [] => []
  | t :: r => 44 :: (t.l ++ Th.lr r)
end
theorem lr_cons (t : Th) (r : List Th) : Th.lr (t :: r) = 44 :: (t.l ++ Th.lr r) := by rw [Th.lr]
theorem ls_cons (t : Th) (r : List Th) : Th.ls (t :: r) = t.l ++ Th.lr r := by rw [Th.ls]
theorem lr_join : ∀ (ps : List Th) (t : Th), (∀ u ∈ t :: ps, u.text.cps.toList = u.l) → (Str.join "," (t.text :: ps.map Th.text)).cps.toList = t.l ++ Th.lr ps
  | [], t, h => by unfold Th.lr; simp [Str.join, h t]
  | u :: r, t, h => by
    have ih := lr_join r u fun v hv => h v (List.mem_cons_of_mem _ hv)
    have e : Str.join "," (t.text :: (u :: r).map Th.text) = t.text ++ "," ++ Str.join "," (u.text :: r.map Th.text) := rfl
    have e1 : ("," : Str).cps.toList = [44] := by decide +kernel
    rw [e, Str.cps_append, Str.cps_append, Array.toList_append, Array.toList_append, ih, e1, h t List.mem_cons_self, lr_cons]
    simp
theorem text_l (t : Th) : t.text.cps.toList = t.l := by
  refine Th.ind (M := fun t => t.text.cps.toList = t.l) (fun x => by unfold Th.text Th.l; rfl) (fun w ps ih => ?_) t
  have e : Txt.join "," (Th.texts ps) = Str.join "," (ps.map Th.text) := by
    show Builtin.Str.glued "," (Th.texts ps) = _
    rw [StrLaws.glued_eq_join, texts_map]
  have e1 : ("(" : Str).cps.toList = [40] := by decide +kernel
  have e2 : (")" : Str).cps.toList = [41] := by decide +kernel
  unfold Th.text Th.l
  rw [e, Str.cps_append, Str.cps_append, Str.cps_append, Array.toList_append, Array.toList_append, Array.toList_append, e1, e2]
  cases ps with
  | nil => unfold Th.ls; simp [Str.join]; decide +kernel
  | cons p r =>
    rw [List.map_cons, lr_join r p ih]
    unfold Th.ls
    simp
def an (c : Nat) : Bool := (decide (97 ≤ c) && decide (c ≤ 122)) || (decide (65 ≤ c) && decide (c ≤ 90)) || (decide (48 ≤ c) && decide (c ≤ 57))
theorem gd_an {x : Str} (h : gd x = true) : ∀ c ∈ x.cps.toList, an c = true := by
  unfold gd at h
  rw [Bool.and_eq_true, List.all_eq_true] at h
  exact h.2
theorem words_eq : ∀ {a b r s : List Nat}, (∀ c ∈ a, an c = true) → (∀ c ∈ b, an c = true) → (∀ c, r.head? = some c → an c = false) → (∀ c, s.head? = some c → an c = false) → a ++ r = b ++ s → a = b ∧ r = s
  | [], [], _, _, _, _, _, _, h => ⟨rfl, h⟩
  | [], c :: b, r, s, _, h2, h3, _, h => by
    have e : r = c :: (b ++ s) := h
    have := h3 c (by rw [e]; rfl)
    rw [h2 c List.mem_cons_self] at this
    cases this
  | c :: a, [], r, s, h1, _, _, h4, h => by
    have e : s = c :: (a ++ r) := h.symm
    have := h4 c (by rw [e]; rfl)
    rw [h1 c List.mem_cons_self] at this
    cases this
  | c :: a, d :: b, r, s, h1, h2, h3, h4, h => by
    rw [List.cons_append, List.cons_append, List.cons.injEq] at h
    obtain ⟨e1, e2⟩ := words_eq (fun x hx => h1 x (List.mem_cons_of_mem _ hx)) (fun x hx => h2 x (List.mem_cons_of_mem _ hx)) h3 h4 h.2
    exact ⟨by rw [h.1, e1], e2⟩
def stp (r : List Nat) : Prop := ∀ c, r.head? = some c → c = 44 ∨ c = 41
theorem stp_an {r : List Nat} (h : stp r) : ∀ c, r.head? = some c → an c = false := by
  intro c hc
  rcases h c hc with e | e <;> rw [e] <;> decide
theorem l_inj (t : Th) : ∀ u : Th, t.ok = true → u.ok = true → ∀ r s, stp r → stp s → t.l ++ r = u.l ++ s → t = u ∧ r = s := by
  refine Th.ind (M := fun t => ∀ u : Th, t.ok = true → u.ok = true → ∀ r s, stp r → stp s → t.l ++ r = u.l ++ s → t = u ∧ r = s) (fun x => ?_) (fun w ps ih => ?_) t
  · intro u h1 h2 r s hr hs e
    unfold Th.ok at h1
    cases u with
    | leaf y =>
      unfold Th.ok at h2
      unfold Th.l at e
      obtain ⟨e1, e2⟩ := words_eq (gd_an h1) (gd_an h2) (stp_an hr) (stp_an hs) e
      exact ⟨by rw [show x = y from Str.ext' (Array.toList_inj.mp e1)], e2⟩
    | node w qs =>
      obtain ⟨h2, _, _⟩ := ok_parts h2
      unfold Th.l at e
      rw [List.append_assoc, List.cons_append] at e
      obtain ⟨e1, e2⟩ := words_eq (gd_an h1) (gd_an h2) (stp_an hr) (fun c hc => by rw [List.head?_cons, Option.some.injEq] at hc; rw [← hc]; decide) e
      have := hr 40 (by rw [e2]; rfl)
      omega
  · intro u h1 h2 r s hr hs e
    obtain ⟨g1, o1, n1⟩ := ok_parts h1
    cases u with
    | leaf y =>
      unfold Th.ok at h2
      unfold Th.l at e
      rw [List.append_assoc, List.cons_append] at e
      obtain ⟨e1, e2⟩ := words_eq (gd_an g1) (gd_an h2) (fun c hc => by rw [List.head?_cons, Option.some.injEq] at hc; rw [← hc]; decide) (stp_an hs) e
      have := hs 40 (by rw [← e2]; rfl)
      omega
    | node v qs =>
      obtain ⟨g2, o2, n2⟩ := ok_parts h2
      unfold Th.l at e
      rw [List.append_assoc, List.append_assoc, List.cons_append, List.cons_append] at e
      obtain ⟨e1, e2⟩ := words_eq (gd_an g1) (gd_an g2) (fun c hc => by rw [List.head?_cons, Option.some.injEq] at hc; rw [← hc]; decide) (fun c hc => by rw [List.head?_cons, Option.some.injEq] at hc; rw [← hc]; decide) e
      rw [List.cons.injEq] at e2
      have e3 := e2.2
      rw [List.append_assoc, List.append_assoc] at e3
      have hw : w = v := Str.ext' (Array.toList_inj.mp e1)
      have go : ∀ (ps qs : List Th), (∀ t ∈ ps, ∀ u : Th, t.ok = true → u.ok = true → ∀ r s, stp r → stp s → t.l ++ r = u.l ++ s → t = u ∧ r = s) → Th.oks ps = true → Th.oks qs = true → Th.lr ps ++ 41 :: r = Th.lr qs ++ 41 :: s → ps = qs ∧ r = s := by
        intro ps
        induction ps with
        | nil =>
          intro qs _ _ _ e
          cases qs with
          | nil => unfold Th.lr at e; exact ⟨rfl, by simpa using e⟩
          | cons q qs => unfold Th.lr at e; simp at e
        | cons p ps ihp =>
          intro qs h ho1 ho2 e
          cases qs with
          | nil => unfold Th.lr at e; simp at e
          | cons q qs =>
            unfold Th.lr at e
            unfold Th.oks at ho1 ho2
            rw [Bool.and_eq_true] at ho1 ho2
            rw [List.cons_append, List.cons_append, List.cons.injEq, List.append_assoc, List.append_assoc] at e
            have hst : ∀ (xs : List Th) (r : List Nat), stp (Th.lr xs ++ 41 :: r) := by
              intro xs r c hc
              cases xs with
              | nil => unfold Th.lr at hc; rw [List.nil_append, List.head?_cons, Option.some.injEq] at hc; exact .inr hc.symm
              | cons x xs => unfold Th.lr at hc; rw [List.cons_append, List.head?_cons, Option.some.injEq] at hc; exact .inl hc.symm
            obtain ⟨a1, a2⟩ := h p List.mem_cons_self q ho1.1 ho2.1 _ _ (hst ps r) (hst qs s) e.2
            obtain ⟨b1, b2⟩ := ihp qs (fun t ht => h t (List.mem_cons_of_mem _ ht)) ho1.2 ho2.2 a2
            exact ⟨by rw [a1, b1], b2⟩
      have hls : ∀ xs : List Th, xs ≠ [] → 44 :: Th.ls xs = Th.lr xs := by
        intro xs hx
        cases xs with
        | nil => exact absurd rfl hx
        | cons x xs => rw [ls_cons, lr_cons]
      have e4 : Th.lr ps ++ 41 :: r = Th.lr qs ++ 41 :: s := by
        rw [← hls ps n1, ← hls qs n2, List.cons_append, List.cons_append]
        exact congrArg (44 :: ·) e3
      obtain ⟨c1, c2⟩ := go ps qs ih o1 o2 e4
      exact ⟨by rw [hw, c1], c2⟩
theorem text_inj {t u : Th} (h1 : t.ok = true) (h2 : u.ok = true) (e : t.text = u.text) : t = u := by
  have e1 : t.l = u.l := by rw [← text_l, ← text_l, e]
  exact (l_inj t u h1 h2 [] [] (fun c hc => by cases hc) (fun c hc => by cases hc) (by rw [e1])).1
end Iv

set_option Elab.async false
set_option linter.all false
set_option maxHeartbeats 4000000
set_option maxRecDepth 20000

namespace Iv
open PySem L2
variable {pr : List Fd} [Things pr]
/-! dicts of things by their texts -/
def kys (L : List Th) : List Key := L.map fun t => .inr t.text
def img (L : List Th) : List (Key × D) := L.map fun t => (.inr t.text, t.d)
def ins (L : List Th) (t : Th) : List Th := if t.text ∈ L.map Th.text then L else L ++ [t]
def dd (U : List Th) : List Th := U.foldl ins []
theorem zip_img : ∀ L : List Th, (kys L).zip (L.map Th.d) = img L
  | [] => rfl
  | t :: r => by
    have := zip_img r
    unfold kys img at *
    rw [List.map_cons, List.map_cons, List.map_cons, List.zip_cons_cons, this]
theorem img_1 (L : List Th) : (img L).map (·.1) = kys L := by unfold img kys; rw [List.map_map]; rfl
theorem img_2 (L : List Th) : (img L).map (·.2) = L.map Th.d := by unfold img; rw [List.map_map]; rfl
theorem kys_keyD (L : List Th) : (kys L).map keyD = L.map fun t => .str t.text := by unfold kys; rw [List.map_map]; rfl
theorem putD_img {L : List Th} {t : Th} (hL : ∀ u ∈ L, u.ok = true) (ht : t.ok = true) : putD (img L) (.inr t.text) t.d = img (ins L t) := by
  unfold putD ins
  by_cases h : t.text ∈ L.map Th.text
  · rw [if_pos h]
    have e : ((img L).any fun kv => decide (kv.1 = .inr t.text)) = true := by
      obtain ⟨u, hu, e⟩ := List.mem_map.mp h
      rw [List.any_eq_true]
      exact ⟨(.inr u.text, u.d), List.mem_map.mpr ⟨u, hu, rfl⟩, by rw [e]; simp⟩
    rw [if_pos e]
    unfold img
    rw [List.map_map]
    refine List.map_congr_left fun u hu => ?_
    dsimp only [Function.comp]
    split
    · rename_i he
      have he' : u.text = t.text := by simpa using he
      rw [text_inj (hL u hu) ht he']
    · rfl
  · rw [if_neg h]
    have e : ¬ ((img L).any fun kv => decide (kv.1 = .inr t.text)) = true := by
      rw [List.any_eq_true]
      rintro ⟨kv, hkv, e⟩
      unfold img at hkv
      obtain ⟨u, hu, rfl⟩ := List.mem_map.mp hkv
      exact h (List.mem_map.mpr ⟨u, hu, by simpa using e⟩)
    rw [if_neg e]
    unfold img
    rw [List.map_append]
    rfl
theorem look_img {L : List Th} {t : Th} (hL : ∀ u ∈ L, u.ok = true) (ht : t ∈ L) : look (kys L) (L.map Th.d) (.inr t.text) = some t.d := by
  unfold look
  rw [zip_img]
  have : ∀ M : List Th, (∀ u ∈ M, u ∈ L) → t ∈ M → ((img M).find? fun p => decide (p.1 = .inr t.text)) = some (.inr t.text, t.d) := by
    intro M
    induction M with
    | nil => intro _ h; cases h
    | cons u r ih =>
      intro hM hm
      unfold img
      rw [List.map_cons, List.find?_cons]
      by_cases e : u.text = t.text
      · have := text_inj (hL u (hM u List.mem_cons_self)) (hL t ht) e
        rw [this]
        simp
      · have e' : decide ((Sum.inr u.text : Key) = .inr t.text) = false := by simpa using e
        dsimp only
        rw [e']
        refine ih (fun v hv => hM v (List.mem_cons_of_mem _ hv)) ?_
        rcases List.mem_cons.mp hm with h | h
        · rw [h] at e; exact absurd rfl e
        · exact h
  rw [this L (fun _ h => h) ht]
  rfl
theorem look_is {L : List Th} {k : Str} : (look (kys L) (L.map Th.d) (.inr k)).isSome = decide (k ∈ L.map Th.text) := by
  unfold look
  rw [zip_img, Option.isSome_map]
  rw [Bool.eq_iff_iff, List.find?_isSome, decide_eq_true_iff]
  unfold img
  constructor
  · rintro ⟨p, hp, e⟩
    obtain ⟨u, hu, rfl⟩ := List.mem_map.mp hp
    exact List.mem_map.mpr ⟨u, hu, by simpa using e⟩
  · intro h
    obtain ⟨u, hu, e⟩ := List.mem_map.mp h
    exact ⟨_, List.mem_map.mpr ⟨u, hu, rfl⟩, by rw [e]; simp⟩
theorem mem_ins {L : List Th} {t u : Th} (hL : ∀ u ∈ L, u.ok = true) (ht : t.ok = true) : u ∈ ins L t ↔ u ∈ L ∨ u = t := by
  unfold ins
  split
  · rename_i h
    obtain ⟨v, hv, e⟩ := List.mem_map.mp h
    have := text_inj (hL v hv) ht e
    constructor
    · exact .inl
    · rintro (h | h)
      · exact h
      · rw [h, ← this]; exact hv
  · simp
theorem nodup_ins {L : List Th} {t : Th} (h : (L.map Th.text).Nodup) : ((ins L t).map Th.text).Nodup := by
  unfold ins
  split
  · exact h
  · rename_i hn
    rw [List.map_append, List.nodup_append]
    refine ⟨h, by simp, ?_⟩
    intro a ha b hb e
    simp at hb
    rw [e, hb] at ha
    exact hn ha
theorem foldl_ins : ∀ (U L : List Th), (∀ u ∈ L, u.ok = true) → (∀ u ∈ U, u.ok = true) → (L.map Th.text).Nodup → (∀ u, u ∈ U.foldl ins L ↔ u ∈ L ∨ u ∈ U) ∧ ((U.foldl ins L).map Th.text).Nodup ∧ (U.map fun t => ((.inr t.text : Key), t.d)).foldl (fun acc kv => putD acc kv.1 kv.2) (img L) = img (U.foldl ins L)
  | [], L, _, _, h => ⟨fun u => by simp, h, rfl⟩
  | t :: r, L, hL, hU, h => by
    have ht := hU t List.mem_cons_self
    obtain ⟨a, b, c⟩ := foldl_ins r (ins L t) (fun u hu => by
      rcases (mem_ins hL ht).mp hu with h | h
      · exact hL u h
      · rw [h]; exact ht) (fun u hu => hU u (List.mem_cons_of_mem _ hu)) (nodup_ins h)
    refine ⟨fun u => ?_, b, ?_⟩
    · rw [List.foldl_cons, a, mem_ins hL ht, List.mem_cons, or_assoc]
    · rw [List.map_cons, List.foldl_cons, List.foldl_cons]
      dsimp only
      rw [putD_img hL ht]
      exact c
theorem dd_all {U : List Th} (h : ∀ u ∈ U, u.ok = true) : (∀ u, u ∈ dd U ↔ u ∈ U) ∧ ((dd U).map Th.text).Nodup ∧ mergeD [] (U.map fun t => ((.inr t.text : Key), t.d)) = img (dd U) := by
  obtain ⟨a, b, c⟩ := foldl_ins U [] (fun u h => by cases h) h List.nodup_nil
  exact ⟨fun u => by unfold dd; rw [a]; simp, b, c⟩
end Iv

set_option Elab.async false
set_option linter.all false
set_option maxHeartbeats 4000000
set_option maxRecDepth 20000

namespace Iv
open PySem L2
variable {pr : List Fd} [Things pr]
theorem sortS_congr {xs ys : List Str} (p : xs.Perm ys) : sortS xs = sortS ys :=
  List.Perm.eq_of_pairwise (le := fun a b => sLe a b = true) (fun _ _ _ _ => sLe_anti) (List.pairwise_mergeSort sLe_trans sLe_total xs) (List.pairwise_mergeSort sLe_trans sLe_total ys) ((sortS_perm xs).trans (p.trans (sortS_perm ys).symm))
def th (U : List Th) (k : Str) : Th := (U.find? fun t => decide (t.text = k)).getD (.leaf k)
theorem th_of {U : List Th} (hU : ∀ u ∈ U, u.ok = true) {t : Th} (h : t ∈ U) : th U t.text = t := by
  unfold th
  cases e : U.find? fun u => decide (u.text = t.text) with
  | none =>
    have := List.find?_eq_none.mp e t h
    simp at this
  | some u =>
    have h1 := List.find?_some e
    have h2 := List.mem_of_find?_eq_some e
    exact text_inj (hU u h2) (hU t h) (by simpa using h1)
/-- the pieces -/
def pcs (U : List Th) : List Th := (sortS ((dd U).map Th.text)).map (th U)
theorem keys_same {U L : List Th} (hU : ∀ u ∈ U, u.ok = true) (h1 : ∀ u, u ∈ L ↔ u ∈ U) (h2 : (L.map Th.text).Nodup) : sortS (L.map Th.text) = sortS ((dd U).map Th.text) := by
  obtain ⟨a, b, _⟩ := dd_all hU
  refine sortS_congr ((List.perm_ext_iff_of_nodup h2 b).mpr fun k => ?_)
  rw [List.mem_map, List.mem_map]
  constructor
  · rintro ⟨u, hu, e⟩; exact ⟨u, (a u).mpr ((h1 u).mp hu), e⟩
  · rintro ⟨u, hu, e⟩; exact ⟨u, (h1 u).mpr ((a u).mp hu), e⟩
theorem dd_len {U : List Th} : (dd U).length ≤ U.length := by
  have : ∀ (U L : List Th), (U.foldl ins L).length ≤ L.length + U.length := by
    intro U
    induction U with
    | nil => intro L; exact Nat.le_refl _
    | cons t r ih =>
      intro L
      rw [List.foldl_cons]
      have := ih (ins L t)
      have h2 : (ins L t).length ≤ L.length + 1 := by unfold ins; split <;> simp
      rw [List.length_cons]
      omega
  have := this U []
  simpa [dd] using this
theorem pcs_len {U : List Th} : (pcs U).length ≤ U.length := by
  unfold pcs
  rw [List.length_map, sortS_length, List.length_map]
  exact dd_len
theorem mem_pcs {U : List Th} (hU : ∀ u ∈ U, u.ok = true) {t : Th} : t ∈ pcs U ↔ t ∈ U := by
  obtain ⟨a, b, _⟩ := dd_all hU
  unfold pcs
  rw [List.mem_map]
  constructor
  · rintro ⟨k, hk, e⟩
    obtain ⟨u, hu, rfl⟩ := List.mem_map.mp ((sortS_perm _).mem_iff.mp hk)
    rw [th_of hU ((a u).mp hu)] at e
    rw [← e]; exact (a u).mp hu
  · intro h
    exact ⟨t.text, (sortS_perm _).mem_iff.mpr (List.mem_map.mpr ⟨t, (a t).mpr h, rfl⟩), th_of hU h⟩
/-- reading a dict of things by its sorted texts -/
theorem by_keys {i j : Nat} {Φ : CallSem} {ρ : Iv.Env} {σ : Store} {U L : List Th} (hU : ∀ u ∈ U, u.ok = true) (h1 : ∀ u, u ∈ L ↔ u ∈ U) (h2 : (L.map Th.text).Nodup) (hij : i ≠ j) (hj : ρ[j]? = some (some (.dic (kys L) (L.map Th.d)))) (hi : i < ρ.length) (hl : U.length ≤ lim) :
    compL (.nm i) (ev Φ (.bl true)) (ev Φ (.idx (.loc j) (.loc i))) ρ ((sortS (L.map Th.text)).map D.str) [] σ = .ok ((pcs U).map Th.d) σ := by
  rw [keys_same hU h1 h2]
  obtain ⟨a, b, _⟩ := dd_all hU
  rw [compL_mapT D.str (fun k => (th U k).d)]
  · unfold pcs
    rw [List.map_map]
    rfl
  · intro k hk
    obtain ⟨u, hu, rfl⟩ := List.mem_map.mp ((sortS_perm _).mem_iff.mp hk)
    have hu := (a u).mp hu
    rw [th_of hU hu]
    have e1 : (ρ.set i (some (.str u.text)))[j]? = some (some (.dic (kys L) (L.map Th.d))) := by rw [List.getElem?_set_ne hij, hj]
    have e2 : (ρ.set i (some (.str u.text)))[i]? = some (some (.str u.text)) := by rw [List.getElem?_set_self hi]
    have e3 := look_img (L := L) (fun v hv => hU v ((h1 v).mp hv)) ((h1 u).mpr hu)
    have e4 : idxD (.dic (kys L) (L.map Th.d)) (.str u.text) σ = .ok u.d σ := by
      unfold idxD
      rw [view_dic]
      simp [dKey, e3]
    simp [e1, e2, e4]
  · rw [sortS_length, List.length_map]
    exact Nat.le_trans dd_len hl
theorem kys_strs (L : List Th) : strsOf ((kys L).map keyD) = some (L.map Th.text) := by
  rw [kys_keyD, strs_of_map]
theorem pairs_img : ∀ U : List Th, pairsOf (U.map fun t => .tup [.str t.text, t.d]) = some (U.map fun t => ((.inr t.text : Key), t.d))
  | [] => rfl
  | t :: r => by
    rw [List.map_cons, pairsOf]
    rw [pairs_img r]
    rfl
theorem r_law_sorted [LawA pr] {U : List Th} (hU : ∀ u ∈ U, u.ok = true) (hs : ∀ u ∈ U, u.sz ≤ 1000) (hl : U.length ≤ 1000) (k : Nat) (hk : ∀ u ∈ U, u.dp + 1 ≤ k) (σ : Store) : callK pr (k+1) 22 [.lst (U.map Th.d)] σ = .ok (.tup ((pcs U).map Th.d)) σ := by
  rw [callK_run (fd := b_law_sorted) LawA.law_sorted rfl]
  have hmap : ∀ t ∈ U, ev (callK pr k) (.tup [.call 18 [.loc 2] [] [] [0], .loc 2]) ([some (.lst (U.map Th.d)), none, none, none].set 2 (some t.d)) σ = .ok (.tup [.str t.text, t.d]) σ := by
    intro t ht
    have := r_ltext (pr := pr) t (hU t ht) (hs t ht) k (hk t ht) σ
    have hn := newT_ok (σ := σ) (show [D.str t.text, t.d].length ≤ lim by simp [lim_v])
    simp [this, hn]
  have hc := compL_mapT Th.d (fun t => .tup [.str t.text, t.d]) hmap (by rw [lim_v]; omega)
  have hn := newL_f (σ := σ) (show (U.map fun t => D.tup [.str t.text, t.d]).length ≤ lim by rw [List.length_map, lim_v]; omega)
  obtain ⟨a, b, c⟩ := dd_all hU
  have hd : biD .dict false (.lst (U.map fun t => D.tup [.str t.text, t.d])) σ = .ok (.dic (kys (dd U)) ((dd U).map Th.d)) σ := by
    unfold biD
    simp only [view_lst, pairs_img]
    rw [c, img_1, img_2]
    rfl
  have hdl := dd_len (U := U)
  have hn2 := newL_f (σ := σ) (show ((kys (dd U)).map keyD).length ≤ lim by unfold kys; rw [List.length_map, List.length_map, lim_v]; omega)
  have hso := bi_sorted (mu := false) (σ := σ) (kys_strs (dd U))
  have hn3 := newL_f (σ := σ) (show ((sortS ((dd U).map Th.text)).map D.str).length ≤ lim by rw [List.length_map, sortS_length, List.length_map, lim_v]; omega)
  rw [hn3] at hso
  have hb := by_keys (i := 3) (j := 1) (Φ := callK pr k) (ρ := [some (.lst (U.map Th.d)), some (.dic (kys (dd U)) ((dd U).map Th.d)), none, none]) (σ := σ) hU a b (by decide) rfl (by simp) (by rw [lim_v]; omega)
  have hpl := pcs_len (U := U)
  have hn4 := newL_f (σ := σ) (show ((pcs U).map Th.d).length ≤ lim by rw [List.length_map, lim_v]; omega)
  have hn5 := newT_ok (σ := σ) (show ((pcs U).map Th.d).length ≤ lim by rw [List.length_map, lim_v]; omega)
  simp [b_law_sorted, hc, hn, hd, hn2, hso, hb, hn4, hn5, leave_same, -List.map_map]
end Iv

set_option Elab.async false
set_option linter.all false
set_option maxHeartbeats 4000000
set_option maxRecDepth 20000

namespace Iv
open PySem L2
variable {pr : List Fd} [Things pr]
def parts : Th → List Th
  | .leaf _ => []
  | .node _ ps => ps
theorem units_node (w : Str) (ps : List Th) : (Th.node w ps).units = .node w ps :: Th.unitss ps := by rw [Th.units]
theorem sz_node (w : Str) (ps : List Th) : (Th.node w ps).sz = 1 + Th.szs ps := by rw [Th.sz]
theorem dp_node (w : Str) (ps : List Th) : (Th.node w ps).dp = 1 + Th.dps ps := by rw [Th.dp]
theorem parts_node (w : Str) (ps : List Th) : parts (.node w ps) = ps := rfl
theorem unitss_mem : ∀ {ps : List Th} {u : Th}, u ∈ Th.unitss ps ↔ ∃ p ∈ ps, u ∈ p.units
  | [], u => by unfold Th.unitss; simp
  | t :: r, u => by
    unfold Th.unitss
    rw [List.mem_append, unitss_mem]
    simp
theorem units_self (t : Th) : t ∈ t.units := by
  cases t <;> unfold Th.units <;> simp
theorem units_parts {t u : Th} : u ∈ t.units ↔ u = t ∨ ∃ p ∈ parts t, u ∈ p.units := by
  cases t with
  | leaf x => unfold Th.units parts; simp
  | node w ps => rw [units_node, List.mem_cons, unitss_mem, parts_node]
theorem units_trans (t : Th) : ∀ u ∈ t.units, ∀ v ∈ u.units, v ∈ t.units := by
  refine Th.ind (M := fun t => ∀ u ∈ t.units, ∀ v ∈ u.units, v ∈ t.units) (fun x => ?_) (fun w ps ih => ?_) t
  · intro u hu v hv
    unfold Th.units at hu
    rw [List.mem_singleton] at hu
    rw [hu] at hv
    exact hv
  · intro u hu v hv
    rcases units_parts.mp hu with e | ⟨p, hp, h⟩
    · rw [e] at hv; exact hv
    · exact units_parts.mpr (.inr ⟨p, hp, ih p hp u h v hv⟩)
theorem units_ok (t : Th) : t.ok = true → ∀ u ∈ t.units, u.ok = true ∧ u.sz ≤ t.sz ∧ u.dp ≤ t.dp := by
  refine Th.ind (M := fun t => t.ok = true → ∀ u ∈ t.units, u.ok = true ∧ u.sz ≤ t.sz ∧ u.dp ≤ t.dp) (fun x h u hu => ?_) (fun w ps ih h u hu => ?_) t
  · unfold Th.units at hu
    rw [List.mem_singleton] at hu
    rw [hu]; exact ⟨h, Nat.le_refl _, Nat.le_refl _⟩
  · rcases units_parts.mp hu with e | ⟨p, hp, h'⟩
    · rw [e]; exact ⟨h, Nat.le_refl _, Nat.le_refl _⟩
    · obtain ⟨_, ho, _⟩ := ok_parts h
      rw [parts_node] at hp
      obtain ⟨a, b, c⟩ := ih p hp (oks_mem ho hp) u h'
      have := szs_mem hp
      have := dps_mem hp
      rw [sz_node, dp_node]
      exact ⟨a, by omega, by omega⟩
theorem parts_szs (t : Th) : Th.szs (parts t) + 1 = t.sz := by
  cases t with
  | leaf x => unfold parts Th.szs Th.sz; rfl
  | node w ps => rw [parts_node, sz_node]; omega
theorem szs_app : ∀ a b : List Th, Th.szs (a ++ b) = Th.szs a + Th.szs b
  | [], b => by rw [List.nil_append]; simp [Th.szs]
  | t :: r, b => by rw [List.cons_append, Th.szs, Th.szs, szs_app r b]; omega
theorem r_parts (t : Th) (h : t.sz ≤ 1000) (k : Nat) (σ : Store) : callK pr (k+1) 3 [t.d] σ = .ok (.tup ((parts t).map Th.d)) σ := by
  cases t with
  | leaf x => rw [d_leaf]; exact r_parts_s k σ
  | node w ps =>
    have := plen h
    rw [d_node]
    exact r_parts_n (by rw [List.length_map, lim_v]; omega) k σ
/-- what holds at each turn -/
structure Inv (root : Th) (W F : List Th) : Prop where
  w : ∀ t ∈ W, t ∈ root.units
  f : ∀ t ∈ F, t ∈ root.units
  nd : (F.map Th.text).Nodup
  cl : ∀ t ∈ F, ∀ p ∈ parts t, p ∈ F ∨ p ∈ W
  rt : root ∈ F ∨ root ∈ W
theorem Inv.full {root : Th} {F : List Th} (h : Inv root [] F) : ∀ u, u ∈ F ↔ u ∈ root.units := by
  have go : ∀ t : Th, t ∈ F → ∀ u ∈ t.units, u ∈ F := by
    intro t
    refine Th.ind (M := fun t => t ∈ F → ∀ u ∈ t.units, u ∈ F) (fun x ht u hu => ?_) (fun w ps ih ht u hu => ?_) t
    · unfold Th.units at hu
      rw [List.mem_singleton] at hu
      rw [hu]; exact ht
    · rcases units_parts.mp hu with e | ⟨p, hp, h'⟩
      · rw [e]; exact ht
      · rcases h.cl _ ht p hp with a | a
        · exact ih p hp a u h'
        · cases a
  intro u
  refine ⟨h.f u, fun hu => ?_⟩
  rcases h.rt with a | a
  · exact go root a u hu
  · cases a
theorem Inv.step {root : Th} {W F : List Th} {t : Th} (ho : root.ok = true) (h : Inv root (W ++ [t]) F) : (t.text ∈ F.map Th.text → Inv root W F) ∧ (t.text ∉ F.map Th.text → Inv root (W ++ parts t) (F ++ [t])) := by
  have hok := units_ok root ho
  have htr : t ∈ root.units := h.w t (by simp)
  constructor
  · intro hm
    obtain ⟨v, hv, e⟩ := List.mem_map.mp hm
    have e := text_inj (hok v (h.f v hv)).1 (hok t htr).1 e
    rw [e] at hv
    refine ⟨fun u hu => h.w u (by simp [hu]), h.f, h.nd, fun u hu p hp => ?_, ?_⟩
    · rcases h.cl u hu p hp with a | a
      · exact .inl a
      · rcases List.mem_append.mp a with a | a
        · exact .inr a
        · rw [List.mem_singleton] at a; rw [a]; exact .inl hv
    · rcases h.rt with a | a
      · exact .inl a
      · rcases List.mem_append.mp a with a | a
        · exact .inr a
        · rw [List.mem_singleton] at a; rw [a]; exact .inl hv
  · intro hm
    refine ⟨fun u hu => ?_, fun u hu => ?_, ?_, fun u hu p hp => ?_, ?_⟩
    · rcases List.mem_append.mp hu with a | a
      · exact h.w u (by simp [a])
      · exact units_trans root t htr u (units_parts.mpr (.inr ⟨u, a, units_self u⟩))
    · rcases List.mem_append.mp hu with a | a
      · exact h.f u a
      · rw [List.mem_singleton] at a; rw [a]; exact htr
    · have := nodup_ins (t := t) h.nd
      unfold ins at this
      rw [if_neg hm] at this
      exact this
    · rcases List.mem_append.mp hu with a | a
      · rcases h.cl u a p hp with b | b
        · exact .inl (by simp [b])
        · rcases List.mem_append.mp b with b | b
          · exact .inr (by simp [b])
          · rw [List.mem_singleton] at b; rw [b]; exact .inl (by simp)
      · rw [List.mem_singleton] at a; rw [a] at hp; exact .inr (by simp [hp])
    · rcases h.rt with a | a
      · exact .inl (by simp [a])
      · rcases List.mem_append.mp a with a | a
        · exact .inr (by simp [a])
        · rw [List.mem_singleton] at a; rw [a]; exact .inl (by simp)
section
variable {σ : Store} {A B C : Cell}
theorem at0 : (σ ++ [A, B])[σ.length]? = some A := by simp
theorem at1 : (σ ++ [A, B])[σ.length + 1]? = some B := by rw [List.getElem?_append_right (by omega)]; simp
theorem set0 : (σ ++ [A, B]).set σ.length C = σ ++ [C, B] := by rw [List.set_append_right _ _ (Nat.le_refl _)]; simp
theorem set1 : (σ ++ [A, B]).set (σ.length + 1) C = σ ++ [A, C] := by rw [List.set_append_right _ _ (by omega)]; simp
end
theorem sim_th (t : Th) : t.ok = true → D.sim true t.d = true ∧ t.d.dp = t.dp ∧ t.d.wt + 2 ≤ 100 * t.sz := by
  refine Th.ind (M := fun t => t.ok = true → D.sim true t.d = true ∧ t.d.dp = t.dp ∧ t.d.wt + 2 ≤ 100 * t.sz) (fun x h => ?_) (fun w ps ih h => ?_) t
  · unfold Th.ok at h
    have := gd_len h
    rw [d_leaf]
    unfold D.sim D.dp D.wt Th.dp Th.sz
    exact ⟨strok h, rfl, by omega⟩
  · obtain ⟨hg, ho, _⟩ := ok_parts h
    have hl := gd_len hg
    rw [d_node]
    have hs : ∀ ps : List Th, (∀ t ∈ ps, t.ok = true → D.sim true t.d = true ∧ t.d.dp = t.dp ∧ t.d.wt + 2 ≤ 100 * t.sz) → Th.oks ps = true → D.sims true (ps.map Th.d) = true ∧ D.dps (ps.map Th.d) = Th.dps ps ∧ D.wts (ps.map Th.d) ≤ 100 * Th.szs ps := by
      intro ps
      induction ps with
      | nil => intro _ _; unfold List.map D.sims D.dps D.wts Th.dps Th.szs; exact ⟨rfl, rfl, by omega⟩
      | cons t r ih =>
        intro h1 h2
        unfold Th.oks at h2
        rw [Bool.and_eq_true] at h2
        obtain ⟨a1, a2, a3⟩ := h1 t List.mem_cons_self h2.1
        obtain ⟨b1, b2, b3⟩ := ih (fun u hu => h1 u (List.mem_cons_of_mem _ hu)) h2.2
        rw [List.map_cons, D.sims, D.dps, D.wts, Th.dps, Th.szs, a1, a2, b1, b2]
        exact ⟨rfl, rfl, by omega⟩
    obtain ⟨a1, a2, a3⟩ := hs ps ih ho
    have x1 : D.sim true (.str w) = true := by unfold D.sim; exact strok hg
    have x2 : (D.str w).dp = 0 := by unfold D.dp; rfl
    have x3 : (D.str w).wt = 10 * w.length + 2 := by unfold D.wt; rfl
    rw [D.sim, D.sims, D.dp, D.dps, D.wt, D.wts, x1, x2, x3, a1, a2, sz_node, dp_node, Nat.zero_max, Nat.add_comm 1]
    exact ⟨rfl, rfl, by omega⟩
end Iv

set_option Elab.async false
set_option linter.all false
set_option maxHeartbeats 4000000
set_option maxRecDepth 20000

namespace Iv
open PySem L2
variable {pr : List Fd} [Things pr]
theorem c_notin {n : Nat} {ks : List Key} {vs : List D} {x : Str} {σ : Store} (h : σ[n]? = some (.dic ks vs)) : cmpD .notin (.str x) (.ref n) σ = .ok (.bl (!(look ks vs (.inr x)).isSome)) σ := by
  unfold cmpD
  rw [view_celld h]
  rfl
theorem whl_step {c : Iv.Env → Store → Res D} {b : Iv.Env → Store → Out} {n : Nat} {ρ ρ2 : Iv.Env} {σ σ1 σ2 : Store} (h : c ρ σ = .ok (.bl true) σ1) (h2 : b ρ σ1 = .nx ρ2 σ2) : whlN c b (n + 1) ρ σ = whlN c b n ρ2 σ2 := by
  rw [whlN, h]
  simp [h2]
theorem whl_end {c : Iv.Env → Store → Res D} {b : Iv.Env → Store → Out} {n : Nat} {ρ : Iv.Env} {σ σ1 : Store} (h : c ρ σ = .ok (.bl false) σ1) : whlN c b (n + 1) ρ σ = .nx ρ σ1 := by
  rw [whlN, h]
  simp
def w_cond : Ex := .cmp .ne (.loc 2) (.lst false [])
def w_body : List Stt := [.asg (.nm 3) (.me .pop (.loc 2) []), .asg (.nm 4) (.call 4 [.loc 3] [] [] [0]), .ite (.cmp .notin (.loc 4) (.loc 1)) [.put (.loc 1) (.loc 4) (.loc 3), .exp (.me .extend (.loc 2) [.bi .list false (.call 3 [.loc 3] [] [] [0])])] []]
theorem r_loop {root : Th} (ho : root.ok = true) (hsz : root.sz ≤ 1000) (hd : root.dp ≤ 60) {k : Nat} (hk : root.dp + 2 ≤ k) {σ : Store} {d0 : D} : ∀ (n fuel : Nat) (W F : List Th) (a b : Option D), Th.szs W ≤ n → Th.szs W + F.length ≤ 2000 → n < fuel → Inv root W F →
    ∃ F' a' b', whlN (ev (callK pr k) w_cond) (exs (callK pr k) w_body) fuel [some d0, some (.ref σ.length), some (.ref (σ.length + 1)), a, b] (σ ++ [.dic (kys F) (F.map Th.d), .lst (W.map Th.d)]) = .nx [some d0, some (.ref σ.length), some (.ref (σ.length + 1)), a', b'] (σ ++ [.dic (kys F') (F'.map Th.d), .lst []]) ∧ Inv root [] F' := by
  have hok := units_ok root ho
  have hcond : ∀ (W F : List Th) (a b : Option D), (∀ t ∈ W, t ∈ root.units) → ev (callK pr k) w_cond [some d0, some (.ref σ.length), some (.ref (σ.length + 1)), a, b] (σ ++ [.dic (kys F) (F.map Th.d), .lst (W.map Th.d)]) = .ok (.bl (!W.isEmpty)) (σ ++ [.dic (kys F) (F.map Th.d), .lst (W.map Th.d)]) := by
    intro W F a b h
    have hv := view_cell (σ := σ ++ [.dic (kys F) (F.map Th.d), .lst (W.map Th.d)]) (n := σ.length + 1) at1
    have hc := c_nenil (b := true) (x := .ref (σ.length + 1)) hv (sims_map fun t ht => (sim_th t (hok t (h t ht)).1).1) (Nat.le_trans (dps_map (n := 60) fun t ht => by
      obtain ⟨o, _, d⟩ := hok t (h t ht)
      have := (sim_th t o).2.1
      omega) (by decide))
    have hn := newL_f (σ := σ ++ [.dic (kys F) (F.map Th.d), .lst (W.map Th.d)]) (show ([] : List D).length ≤ lim from Nat.zero_le _)
    rw [map_isEmpty] at hc
    simp [w_cond, hn, hc]
  intro n
  induction n with
  | zero =>
    intro fuel W F a b hn _ hf hI
    obtain ⟨fuel, rfl⟩ : ∃ j, fuel = j + 1 := ⟨fuel - 1, by omega⟩
    have : W = [] := by
      cases W with
      | nil => rfl
      | cons t r => rw [Th.szs] at hn; have := sz_pos t; omega
    subst this
    exact ⟨F, a, b, whl_end (hcond [] F a b (fun t h => by cases h)), hI⟩
  | succ n ih =>
    intro fuel W F a b hn hl hf hI
    obtain ⟨fuel, rfl⟩ : ∃ j, fuel = j + 1 := ⟨fuel - 1, by omega⟩
    have hc := hcond W F a b hI.w
    rcases List.eq_nil_or_concat W with e | ⟨W', t, e⟩
    · subst e
      exact ⟨F, a, b, whl_end hc, hI⟩
    · rw [List.concat_eq_append] at e
      subst e
      obtain ⟨s1, s2⟩ := hI.step ho
      obtain ⟨to, ts, td⟩ := hok t (hI.w t (by simp))
      have hs := szs_app W' [t]
      have hs1 : Th.szs [t] = t.sz := by rw [Th.szs, Th.szs]; rfl
      have hs2 := parts_szs t
      have hs3 := szs_app W' (parts t)
      have hs4 := szs_len W'
      have hs5 := szs_len (parts t)
      have e1 : (!(W' ++ [t]).isEmpty) = true := by simp
      rw [e1] at hc
      rw [List.map_append] at hc ⊢
      have p1 := me_pop (σ := σ ++ [.dic (kys F) (F.map Th.d), .lst (W'.map Th.d ++ [t].map Th.d)]) (n := σ.length + 1) (xs := W'.map Th.d) (d := t.d) at1
      rw [set1] at p1
      have v1 := view_cell (σ := σ ++ [.dic (kys F) (F.map Th.d), .lst (W'.map Th.d ++ [t].map Th.d)]) (n := σ.length + 1) at1
      have tx := r_text (pr := pr) t to (by omega) k (by omega) (σ ++ [.dic (kys F) (F.map Th.d), .lst (W'.map Th.d)])
      have cn := c_notin (σ := σ ++ [.dic (kys F) (F.map Th.d), .lst (W'.map Th.d)]) (x := t.text) at0
      rw [look_is] at cn
      by_cases hm : t.text ∈ F.map Th.text
      · have hb : exs (callK pr k) w_body [some d0, some (.ref σ.length), some (.ref (σ.length + 1)), a, b] (σ ++ [.dic (kys F) (F.map Th.d), .lst (W'.map Th.d ++ [t].map Th.d)]) = .nx [some d0, some (.ref σ.length), some (.ref (σ.length + 1)), some t.d, some (.str t.text)] (σ ++ [.dic (kys F) (F.map Th.d), .lst (W'.map Th.d)]) := by
          rw [decide_eq_true hm] at cn
          simp only [List.map_cons, List.map_nil] at p1 v1 ⊢
          simp [w_body, v1, p1, tx, cn]
        rw [whl_step hc hb]
        exact ih fuel W' F _ _ (by have := sz_pos t; omega) (by omega) (by omega) (s1 hm)
      · have hb : exs (callK pr k) w_body [some d0, some (.ref σ.length), some (.ref (σ.length + 1)), a, b] (σ ++ [.dic (kys F) (F.map Th.d), .lst (W'.map Th.d ++ [t].map Th.d)]) = .nx [some d0, some (.ref σ.length), some (.ref (σ.length + 1)), some t.d, some (.str t.text)] (σ ++ [.dic (kys (F ++ [t])) ((F ++ [t]).map Th.d), .lst ((W' ++ parts t).map Th.d)]) := by
          rw [decide_eq_false hm] at cn
          have pd := put_dic (σ := σ ++ [.dic (kys F) (F.map Th.d), .lst (W'.map Th.d)]) (x := t.text) (d := t.d) at0 (by unfold kys; rw [List.length_map, lim_v]; omega)
          have hins : ins F t = F ++ [t] := by unfold ins; rw [if_neg hm]
          rw [zip_img, putD_img (fun u hu => (hok u (hI.f u hu)).1) to, hins, img_1, img_2, set0] at pd
          obtain ⟨k, rfl⟩ : ∃ j, k = j + 1 := ⟨k - 1, by omega⟩
          have rp := r_parts (pr := pr) t (by omega) k (σ ++ [.dic (kys (F ++ [t])) ((F ++ [t]).map Th.d), .lst (W'.map Th.d)])
          have nl := newL_f (σ := σ ++ [.dic (kys (F ++ [t])) ((F ++ [t]).map Th.d), .lst (W'.map Th.d)]) (xs := (parts t).map Th.d) (by rw [List.length_map, lim_v]; omega)
          have me := me_ext (σ := σ ++ [.dic (kys (F ++ [t])) ((F ++ [t]).map Th.d), .lst (W'.map Th.d)]) (n := σ.length + 1) (ys := (parts t).map Th.d) at1 (by rw [List.length_map, List.length_map, lim_v]; omega)
          rw [set1] at me
          have v2 := view_cell (σ := σ ++ [.dic (kys (F ++ [t])) ((F ++ [t]).map Th.d), .lst (W'.map Th.d)]) (n := σ.length + 1) at1
          rw [List.map_append (l₁ := W')]
          generalize (F ++ [t]).map Th.d = V at *
          simp only [List.map_cons, List.map_nil] at p1 v1 ⊢
          simp [w_body, v1, p1, tx, cn, pd, rp, nl, v2, me]
        rw [whl_step hc hb]
        exact ih fuel (W' ++ parts t) (F ++ [t]) _ _ (by omega) (by rw [List.length_append, List.length_singleton]; omega) (by omega) (s2 hm)
end Iv

set_option Elab.async false
set_option linter.all false
set_option maxHeartbeats 4000000
set_option maxRecDepth 20000

namespace Iv
open PySem L2
variable {pr : List Fd} [Things pr]
mutual
theorem sim_under {b : Bool} {n : Nat} : ∀ d : D, D.sim b d = true → d.under n = true
  | .non, _ => by unfold D.under; rfl
  | .bl _, _ => by unfold D.under; rfl
  | .int _, _ => by unfold D.under; rfl
  | .str _, _ => by unfold D.under; rfl
  | .tup xs, h => by unfold D.sim at h; unfold D.under; exact sims_under xs h
  | .lst xs, h => by unfold D.sim at h; unfold D.under; exact sims_under xs h
  | .dic _ _, h => by simp [D.sim] at h
  | .set _, h => by simp [D.sim] at h
  | .ro _, h => by simp [D.sim] at h
  | .ref _, h => by simp [D.sim] at h
theorem sims_under {b : Bool} {n : Nat} : ∀ ds : List D, D.sims b ds = true → D.unders n ds = true
  | [], _ => by unfold D.unders; rfl
  | d :: ds, h => by
    unfold D.sims at h
    rw [Bool.and_eq_true] at h
    unfold D.unders
    rw [sim_under d h.1, sims_under ds h.2]; rfl
end
theorem leave_own {b : Bool} {σ ext : Store} {d : D} (h : D.sim b d = true) : leave σ d (σ ++ ext) = .ok d σ :=
  leave_app rfl (sim_under d h) fun _ _ e => .inl e
theorem whole (fuel : 1000 < whFuel) : True := trivial
theorem fuel_ok : 1000 < whFuel := by unfold whFuel; decide
theorem r_pieces_in {root : Th} (ho : root.ok = true) (hsz : root.sz ≤ 1000) (hd : root.dp ≤ 60) (k : Nat) (hk : root.dp + 3 ≤ k) (σ : Store) : callK pr k 5 [.lst [root.d]] σ = .ok (.tup ((pcs root.units).map Th.d)) σ := by
  obtain ⟨k, rfl⟩ : ∃ j, k = j + 1 := ⟨k - 1, by omega⟩
  have hok := units_ok root ho
  have hlen := units_len root
  rw [callK_run (fd := b_pieces_in) Things.pieces_in rfl]
  obtain ⟨F, a, b, hw, hI⟩ := r_loop (pr := pr) ho hsz hd (k := k) (by omega) (σ := σ) (d0 := .lst [root.d]) 1000 whFuel [root] [] none none (by rw [Th.szs, Th.szs]; omega) (by rw [Th.szs, Th.szs]; simp; omega) fuel_ok
    ⟨fun t ht => by rw [List.mem_singleton] at ht; rw [ht]; exact units_self root, fun t ht => (by cases ht), List.nodup_nil, fun t ht => (by cases ht), .inr (by simp)⟩
  have hfull := hI.full
  have hFl : F.length ≤ 1000 := by
    have h1 : (dd root.units).length ≤ root.units.length := dd_len
    have h2 := keys_same (fun u hu => (hok u hu).1) hfull hI.nd
    have h3 := congrArg List.length h2
    rw [sortS_length, sortS_length, List.length_map, List.length_map] at h3
    omega
  have e1 : ∀ σ : Store, newD true ((mergeD [] []).map (·.1)) ((mergeD [] []).map (·.2)) σ = .ok (.ref σ.length) (σ ++ [.dic [] []]) := fun σ => rfl
  have e2 : newL true [root.d] (σ ++ [.dic [] []]) = .ok (.ref (σ.length + 1)) (σ ++ [.dic [] [], .lst [root.d]]) := by
    rw [newL_t (by simp [lim_v])]
    simp
  have hb := by_keys (i := 4) (j := 1) (Φ := callK pr k) (ρ := [some (.lst [root.d]), some (.dic (kys F) (F.map Th.d)), some (.ref (σ.length + 1)), a, none]) (σ := σ ++ [.dead, .lst []]) (U := root.units) (fun u hu => (hok u hu).1) hfull hI.nd (by decide) rfl (by simp) (by rw [lim_v]; omega)
  have hso := bi_sortedd (mu := false) (xs := F.map Th.d) (σ := σ ++ [.dead, .lst []]) (kys_strs F)
  rw [newL_f (by rw [List.length_map, sortS_length, List.length_map, lim_v]; omega)] at hso
  have hpl := pcs_len (U := root.units)
  have hn4 := newL_f (σ := σ ++ [.dead, .lst []]) (show ((pcs root.units).map Th.d).length ≤ lim by rw [List.length_map, lim_v]; omega)
  have hn5 := newT_ok (σ := σ ++ [.dead, .lst []]) (show ((pcs root.units).map Th.d).length ≤ lim by rw [List.length_map, lim_v]; omega)
  have hsim : D.sim true (.tup ((pcs root.units).map Th.d)) = true := by
    unfold D.sim
    exact sims_map fun t ht => (sim_th t (hok t ((mem_pcs fun u hu => (hok u hu).1).mp ht)).1).1
  have hlv := leave_own (σ := σ) (ext := [.dead, .lst []]) hsim
  have hset := set0 (σ := σ) (A := .dic (kys F) (F.map Th.d)) (B := .lst []) (C := .dead)
  have hat := at0 (σ := σ) (A := .dic (kys F) (F.map Th.d)) (B := .lst [])
  have hw' : whlN (ev (callK pr k) (.cmp .ne (.loc 2) (.lst false []))) (exs (callK pr k) w_body) whFuel [some (.lst [root.d]), some (.ref σ.length), some (.ref (σ.length + 1)), none, none] (σ ++ [.dic [] [], .lst [root.d]]) = .nx [some (.lst [root.d]), some (.ref σ.length), some (.ref (σ.length + 1)), a, b] (σ ++ [.dic (kys F) (F.map Th.d), .lst []]) := hw
  have hbody : b_pieces_in.body = [.asg (.nm 1) (.dic true []), .asg (.nm 2) (.lst true [.star (.loc 0)]), .whl (.cmp .ne (.loc 2) (.lst false [])) w_body, .frz 1, .ret (.bi .tuple false (.comp false [4] (.nm 4) .on [.bi .sorted false (.loc 1)] (.bl true) (.idx (.loc 1) (.loc 4))))] := rfl
  have hns : b_pieces_in.ns = 5 := rfl
  rw [hbody, hns]
  simp [pairUp, e1, e2, hw', hat, hset, hso, hb, hn4, hn5, hlv, -List.map_map, -ev_cmp]
theorem r_pieces_of {root : Th} (ho : root.ok = true) (hsz : root.sz ≤ 1000) (hd : root.dp ≤ 60) (k : Nat) (hk : root.dp + 4 ≤ k) (σ : Store) : callK pr k 6 [root.d] σ = .ok (.tup ((pcs root.units).map Th.d)) σ := by
  obtain ⟨k, rfl⟩ : ∃ j, k = j + 1 := ⟨k - 1, by omega⟩
  have h := r_pieces_in (pr := pr) ho hsz hd k (by omega) σ
  have hn := newL_f (σ := σ) (show [root.d].length ≤ lim by simp [lim_v])
  rw [callK_run (fd := b_pieces_of) Things.pieces_of rfl]
  simp [b_pieces_of, h, hn, leave_same, -List.map_map]
theorem r_names {root : Th} (ho : root.ok = true) (hsz : root.sz ≤ 1000) (hd : root.dp ≤ 60) (k : Nat) (hk : root.dp + 5 ≤ k) (σ : Store) : callK pr k 8 [root.d] σ = .ok (.tup (((pcs root.units).filter isN).map Th.d)) σ := by
  obtain ⟨k, rfl⟩ : ∃ j, k = j + 3 := ⟨k - 3, by omega⟩
  have hok := units_ok root ho
  have h := r_pieces_of (pr := pr) ho hsz hd (k+2) (by omega) σ
  have hpl := pcs_len (U := root.units)
  have hlen := units_len root
  rw [callK_run (fd := b_names_in) Things.names_in rfl]
  have hc := compL_fT (t := .nm 1) (ρ := [some root.d, none]) (σ := σ) (c := ev (callK pr (k+2)) (.call 2 [.loc 1] [] [] [0])) (elt := ev (callK pr (k+2)) (.loc 1)) Th.d isN Th.d (xs := pcs root.units) (acc := []) (fun t ht => by
    have hi := r_is_name (pr := pr) t (hok t ((mem_pcs fun u hu => (hok u hu).1).mp ht)).1 k σ
    exact ⟨_, rfl, by simp [hi], fun _ => by simp⟩) (by rw [lim_v, List.length_nil]; omega)
  have hfl := List.length_filter_le isN (pcs root.units)
  rw [List.nil_append] at hc
  have hn4 := newL_f (σ := σ) (show (((pcs root.units).filter isN).map Th.d).length ≤ lim by rw [List.length_map, lim_v]; omega)
  have hn5 := newT_ok (σ := σ) (show (((pcs root.units).filter isN).map Th.d).length ≤ lim by rw [List.length_map, lim_v]; omega)
  simp [b_names_in, h, hc, hn4, hn5, leave_same, -List.map_map]
theorem r_words {root : Th} (ho : root.ok = true) (hsz : root.sz ≤ 1000) (hd : root.dp ≤ 60) (k : Nat) (hk : root.dp + 5 ≤ k) (σ : Store) : callK pr k 9 [root.d] σ = .ok (.tup (((pcs root.units).filter isW).map Th.d)) σ := by
  obtain ⟨k, rfl⟩ : ∃ j, k = j + 3 := ⟨k - 3, by omega⟩
  have hok := units_ok root ho
  have h := r_pieces_of (pr := pr) ho hsz hd (k+2) (by omega) σ
  have hpl := pcs_len (U := root.units)
  have hlen := units_len root
  rw [callK_run (fd := b_words_in) Things.words_in rfl]
  have hc := compL_fT (t := .nm 1) (ρ := [some root.d, none]) (σ := σ) (c := ev (callK pr (k+2)) (.call 1 [.loc 1] [] [] [0])) (elt := ev (callK pr (k+2)) (.loc 1)) Th.d isW Th.d (xs := pcs root.units) (acc := []) (fun t ht => by
    have hi := r_is_word (pr := pr) t (hok t ((mem_pcs fun u hu => (hok u hu).1).mp ht)).1 k σ
    exact ⟨_, rfl, by simp [hi], fun _ => by simp⟩) (by rw [lim_v, List.length_nil]; omega)
  have hfl := List.length_filter_le isW (pcs root.units)
  rw [List.nil_append] at hc
  have hn4 := newL_f (σ := σ) (show (((pcs root.units).filter isW).map Th.d).length ≤ lim by rw [List.length_map, lim_v]; omega)
  have hn5 := newT_ok (σ := σ) (show (((pcs root.units).filter isW).map Th.d).length ≤ lim by rw [List.length_map, lim_v]; omega)
  simp [b_words_in, h, hc, hn4, hn5, leave_same, -List.map_map]
end Iv

set_option Elab.async false
set_option linter.all false
set_option maxHeartbeats 4000000
set_option maxRecDepth 20000

namespace Iv
open PySem L2
variable {pr : List Fd} [Things pr]
def isL : Th → Bool
  | .leaf _ => true
  | .node _ _ => false
theorem nodup_ed (xs : List Str) : xs.eraseDups.Nodup := by
  have go : ∀ (n : Nat) (xs : List Str), xs.length ≤ n → xs.eraseDups.Nodup := by
    intro n
    induction n with
    | zero =>
      intro xs h
      have : xs = [] := List.eq_nil_of_length_eq_zero (by omega)
      rw [this]
      exact List.nodup_nil
    | succ n ih =>
      intro xs h
      cases xs with
      | nil => exact List.nodup_nil
      | cons x r =>
        rw [List.eraseDups_cons, List.nodup_cons]
        rw [List.length_cons] at h
        refine ⟨fun hm => ?_, ih _ (Nat.le_trans (List.length_filter_le _ _) (by omega))⟩
        rw [List.mem_eraseDups, List.mem_filter] at hm
        simp at hm
  exact go xs.length xs (Nat.le_refl _)
theorem names_eq {U : List Th} (hU : ∀ u ∈ U, u.ok = true) (p : Th → Bool) (hp : ∀ t, p t = true → isL t = true) :
    (sortS (((U.filter isL).filter p).map Th.text).eraseDups).map D.str = ((pcs U).filter p).map Th.d := by
  obtain ⟨a, b, _⟩ := dd_all hU
  have e1 : ((pcs U).filter p).map Th.d = ((sortS ((dd U).map Th.text)).filter fun k => p (th U k)).map D.str := by
    unfold pcs
    rw [List.filter_map, List.map_map]
    refine List.map_congr_left fun k hk => ?_
    obtain ⟨h1, h2⟩ := List.mem_filter.mp hk
    obtain ⟨u, hu, rfl⟩ := List.mem_map.mp ((sortS_perm _).mem_iff.mp h1)
    have hu := (a u).mp hu
    dsimp only [Function.comp] at h2 ⊢
    rw [th_of hU hu] at h2 ⊢
    have := hp u h2
    cases u with
    | leaf x => rw [d_leaf]; unfold Th.text; rfl
    | node w ps => cases this
  rw [e1]
  congr 1
  have pw : ∀ xs, (sortS xs).Pairwise fun a b => sLe a b = true := fun xs => List.pairwise_mergeSort sLe_trans sLe_total xs
  refine List.Perm.eq_of_pairwise (le := fun a b => sLe a b = true) (fun _ _ _ _ => sLe_anti) (pw _) ((pw _).filter _) ?_
  have nd : (sortS ((dd U).map Th.text)).Nodup := (sortS_perm _).nodup_iff.mpr b
  refine (sortS_perm _).trans ((List.perm_ext_iff_of_nodup (nodup_ed _) (nd.filter _)).mpr fun k => ?_)
  rw [List.mem_eraseDups, List.mem_filter, (sortS_perm _).mem_iff, List.mem_map, List.mem_map]
  constructor
  · rintro ⟨u, hu, rfl⟩
    obtain ⟨h1, h2⟩ := List.mem_filter.mp hu
    have h3 := (List.mem_filter.mp h1).1
    exact ⟨⟨u, (a u).mpr h3, rfl⟩, by rw [th_of hU h3]; exact h2⟩
  · rintro ⟨⟨u, hu, rfl⟩, h⟩
    have hu := (a u).mp hu
    rw [th_of hU hu] at h
    exact ⟨u, List.mem_filter.mpr ⟨List.mem_filter.mpr ⟨hu, hp u h⟩, h⟩, rfl⟩
theorem n_leaf : ∀ t, isN t = true → isL t = true := by
  intro t h
  cases t with
  | leaf x => rfl
  | node w ps => cases h
theorem w_leaf : ∀ t, isW t = true → isL t = true := by
  intro t h
  cases t with
  | leaf x => rfl
  | node w ps => cases h
/-! putting a thing for a name -/
theorem th_put_all {n : Str} {o : Th} (ho : o.ok = true) (t : Th) : t.ok = true → (put n o t).ok = true ∧ (put n o t).sz ≤ t.sz * o.sz ∧ (put n o t).dp ≤ t.dp + o.dp := by
  refine Th.ind (M := fun t => t.ok = true → (put n o t).ok = true ∧ (put n o t).sz ≤ t.sz * o.sz ∧ (put n o t).dp ≤ t.dp + o.dp) (fun x h => ?_) (fun w ps ih h => ?_) t
  · rw [put_leaf]
    have := sz_pos o
    split
    · exact ⟨ho, by rw [Th.sz]; omega, by omega⟩
    · exact ⟨h, by rw [Th.sz]; omega, by rw [Th.dp]; omega⟩
  · obtain ⟨hg, hp, hn⟩ := ok_parts h
    have hs : ∀ ps : List Th, (∀ t ∈ ps, t.ok = true → (put n o t).ok = true ∧ (put n o t).sz ≤ t.sz * o.sz ∧ (put n o t).dp ≤ t.dp + o.dp) → Th.oks ps = true → Th.oks (ps.map (put n o)) = true ∧ Th.szs (ps.map (put n o)) ≤ Th.szs ps * o.sz ∧ Th.dps (ps.map (put n o)) ≤ Th.dps ps + o.dp := by
      intro ps
      induction ps with
      | nil => intro _ _; exact ⟨by rw [List.map_nil, Th.oks], by rw [List.map_nil, Th.szs]; omega, by rw [List.map_nil, Th.dps]; omega⟩
      | cons t r ih =>
        intro h1 h2
        rw [Th.oks, Bool.and_eq_true] at h2
        obtain ⟨a1, a2, a3⟩ := h1 t List.mem_cons_self h2.1
        obtain ⟨b1, b2, b3⟩ := ih (fun u hu => h1 u (List.mem_cons_of_mem _ hu)) h2.2
        rw [List.map_cons, Th.oks, Th.szs, Th.szs, Th.dps, Th.dps, a1, b1, Nat.add_mul]
        exact ⟨rfl, by omega, by omega⟩
    obtain ⟨a1, a2, a3⟩ := hs ps ih hp
    rw [put_node, sz_node, sz_node, dp_node, dp_node, Th.ok, hg, a1, Nat.add_mul]
    have := sz_pos o
    refine ⟨?_, by omega, by omega⟩
    cases ps with
    | nil => exact absurd rfl hn
    | cons t r => rfl
theorem int_len : ∀ n : Nat, n < 101 → ((toString (n : Int) : String) : Str).length ≤ 10 := by decide +kernel
end Iv

set_option Elab.async false
set_option linter.all false
set_option maxHeartbeats 4000000
set_option maxRecDepth 20000

namespace Iv
open PySem L2
variable {pr : List Fd} [Things pr]
section
variable {σ : Store} {A C : Cell}
theorem atA : (σ ++ [A])[σ.length]? = some A := by simp
theorem setA : (σ ++ [A]).set σ.length C = σ ++ [C] := by rw [List.set_append_right _ _ (Nat.le_refl _)]; simp
end
theorem b_mull {xs : List D} {σ : Store} : binD .mul (.lst xs) (.int 2) σ = newL false (xs ++ xs) σ := by
  unfold binD
  simp [List.replicate]
def due (t : Th) : D := .lst [.str t.text, .tup ((pcs t.units).map Th.d), .int t.sz, .tup (((pcs t.units).filter isN).map Th.d), .tup (((pcs t.units).filter isW).map Th.d)]
theorem due_ok {t : Th} (ho : t.ok = true) (hsz : t.sz ≤ 100) (hd : t.dp ≤ 20) : D.sim true (due t) = true ∧ (due t).wt ≤ 5000000 ∧ (due t).dp ≤ 50 := by
  have hok := units_ok t ho
  have hm : ∀ {u : Th}, u ∈ pcs t.units ↔ u ∈ t.units := mem_pcs (U := t.units) (fun u hu => (hok u hu).1)
  have hl := pcs_len (U := t.units)
  rw [units_len] at hl
  have hT := text_len t ho
  have hI := int_len t.sz (by omega)
  have go : ∀ p : Th → Bool, D.sim true (.tup (((pcs t.units).filter p).map Th.d)) = true ∧ D.wt (.tup (((pcs t.units).filter p).map Th.d)) ≤ 1000003 ∧ D.dp (.tup (((pcs t.units).filter p).map Th.d)) ≤ 21 := by
    intro p
    have hu : ∀ u ∈ (pcs t.units).filter p, u.ok = true ∧ u.sz ≤ t.sz ∧ u.dp ≤ t.dp := fun u h => hok u (hm.mp (List.mem_filter.mp h).1)
    have hfl := List.length_filter_le p (pcs t.units)
    unfold D.sim D.wt D.dp
    refine ⟨sims_map fun u h => (sim_th u (hu u h).1).1, ?_, ?_⟩
    · have h1 := wts_map (n := 10000) (f := Th.d) (xs := (pcs t.units).filter p) fun u h => by
        have := (sim_th u (hu u h).1).2.2
        have := (hu u h).2.1
        omega
      have : ((pcs t.units).filter p).length * 10000 ≤ 100 * 10000 := Nat.mul_le_mul_right _ (by omega)
      omega
    · have h1 := dps_map (n := 20) (f := Th.d) (xs := (pcs t.units).filter p) fun u h => by
        have := (sim_th u (hu u h).1).2.1
        have := (hu u h).2.2
        omega
      omega
  have g0 := go (fun _ => true)
  rw [List.filter_eq_self.mpr fun _ _ => rfl] at g0
  have g1 := go isN
  have g2 := go isW
  have htx : D.sim true (.str t.text) = true := by
    unfold D.sim PyData.strOk
    rw [← Array.all_toList, List.all_eq_true, text_l]
    have hlc : ∀ u : Th, u.ok = true → ∀ c ∈ u.l, c < 123 := by
      intro u
      refine Th.ind (M := fun u => u.ok = true → ∀ c ∈ u.l, c < 123) (fun x h c hc => ?_) (fun w ps ih h c hc => ?_) u
      · unfold Th.ok at h
        unfold Th.l at hc
        exact gd_ch h c hc
      · obtain ⟨hg, hp, _⟩ := ok_parts h
        rw [Th.l, List.mem_append, List.mem_cons, List.mem_append, List.mem_singleton] at hc
        have hlr : ∀ ps : List Th, (∀ t ∈ ps, t.ok = true → ∀ c ∈ t.l, c < 123) → Th.oks ps = true → ∀ c ∈ Th.lr ps, c < 123 := by
          intro ps
          induction ps with
          | nil => intro _ _ c hc; rw [Th.lr] at hc; cases hc
          | cons t r ihr =>
            intro h1 h2 c hc
            rw [Th.oks, Bool.and_eq_true] at h2
            rw [lr_cons, List.mem_cons, List.mem_append] at hc
            rcases hc with e | e | e
            · omega
            · exact h1 t List.mem_cons_self h2.1 c e
            · exact ihr (fun u hu => h1 u (List.mem_cons_of_mem _ hu)) h2.2 c e
        rcases hc with e | e | e | e
        · exact gd_ch hg c e
        · omega
        · cases ps with
          | nil => rw [Th.ls] at e; cases e
          | cons t r => rw [ls_cons] at e; exact hlr (t :: r) ih hp c (by rw [lr_cons]; exact List.mem_cons_of_mem _ e)
        · omega
    intro c hc
    have := hlc t ho c hc
    rw [decide_eq_true_eq]
    omega
  have hin : D.sim true (.int (t.sz : Int)) = true := by
    unfold D.sim
    have h2 : t.sz.log2 < 1920 := by
      rcases Nat.eq_zero_or_pos t.sz with e | e
      · rw [e]; decide
      · exact Nat.lt_of_lt_of_le ((Nat.log2_lt (by omega)).mpr (show t.sz < 2 ^ 7 by omega)) (by decide)
    simp [h2]
  refine ⟨?_, ?_, ?_⟩
  · unfold due D.sim
    rw [D.sims, D.sims, D.sims, D.sims, D.sims, D.sims, htx, hin, g0.1, g1.1, g2.1]
    rfl
  · unfold due D.wt
    rw [D.wts, D.wts, D.wts, D.wts, D.wts, D.wts]
    have e1 : (D.str t.text).wt = 10 * t.text.length + 2 := by unfold D.wt; rfl
    have e2 : (D.int (t.sz : Int)).wt = ((toString (t.sz : Int) : String) : Str).length := by unfold D.wt; rfl
    rw [e1, e2]
    omega
  · unfold due D.dp
    rw [D.dps, D.dps, D.dps, D.dps, D.dps, D.dps]
    have e1 : (D.str t.text).dp = 0 := by unfold D.dp; rfl
    have e2 : (D.int (t.sz : Int)).dp = 0 := by unfold D.dp; rfl
    rw [e1, e2]
    omega
theorem pair_repr {a b : D} (ha : D.sim true a = true) (hb : D.sim true b = true) (hw : a.wt + b.wt ≤ 16000000) (h1 : a.dp ≤ 60) (h2 : b.dp ≤ 60) {mu : Bool} {σ : Store} : biD .repr mu (.lst [a, b]) σ = .ok (.str (D.py (.lst [a, b])).shown) σ := by
  refine bi_repr rfl (reprOk_of ?_ ?_ ?_)
  · unfold D.sim; rw [D.sims, D.sims, D.sims, ha, hb]; rfl
  · unfold D.wt; rw [D.wts, D.wts, D.wts, lim_v]; omega
  · unfold D.dp; rw [D.dps, D.dps, D.dps]; omega
end Iv

set_option Elab.async false
set_option linter.all false
set_option maxHeartbeats 4000000
set_option maxRecDepth 20000
/-! books and things as data -/
namespace Iv
open PySem L2
/-! books, as drawn -/
inductive Nd where
  | part (j : Nat) | around (c : Str) (j : Nat) | inside (j : Nat) (c : Str)
structure Op where
  w : Str
  kd : Str
  gv : Nat
  ns : List Nd
def Nd.d : Nd → D
  | .part j => .tup [.str "part", .int j]
  | .around c j => .tup [.str "around", .str c, .int j]
  | .inside j c => .tup [.str "inside", .int j, .str c]
def Op.d (o : Op) : D := .tup [.str o.w, .str o.kd, .int o.gv, .tup (o.ns.map Nd.d)]
def mkd (p : Str × Nat) : D := .tup [.str p.1, .int p.2]
theorem mkd_sim {p : Str × Nat} (h : gd p.1 = true) : D.sim false (mkd p) = true ∧ (mkd p).dp ≤ 1 := by
  unfold mkd D.sim D.dp
  have x1 : D.sim false (.str p.1) = true := by unfold D.sim; exact strok h
  have x2 : D.sim false (.int p.2) = true := by unfold D.sim; rfl
  have x3 : (D.str p.1).dp = 0 := by unfold D.dp; rfl
  have x4 : (D.int p.2).dp = 0 := by unfold D.dp; rfl
  rw [D.sims, D.sims, D.sims, D.dps, D.dps, D.dps, x1, x2, x3, x4]
  exact ⟨rfl, by decide⟩
theorem mkd_1 {p : Str × Nat} {τ : Store} : idxD (mkd p) (.int 1) τ = .ok (.int p.2) τ := rfl
def Nd.okIn (MK : List (Str × Nat)) (m : Nat) : Nd → Prop
  | .part j => j < m
  | .around c j => (c, 1) ∈ MK ∧ j < m
  | .inside j c => j < m ∧ (c, 1) ∈ MK
def Op.okIn (MK : List (Str × Nat)) (o : Op) : Prop := ∃ m, (o.kd, m) ∈ MK ∧ o.gv < m ∧ o.ns.length ≤ 2 ∧ ∀ n ∈ o.ns, n.okIn MK m
theorem unders_map {α : Type} {N : Nat} {f : α → D} : ∀ {xs : List α}, (∀ x ∈ xs, D.under N (f x) = true) → D.unders N (xs.map f) = true
  | [], _ => by rw [List.map_nil, D.unders]
  | x :: r, h => by rw [List.map_cons, D.unders, h x List.mem_cons_self, unders_map fun y hy => h y (List.mem_cons_of_mem _ hy)]; rfl
theorem mkd_under {N : Nat} {p : Str × Nat} : D.under N (mkd p) = true := by unfold mkd; simp [D.under, D.unders]
theorem nd_under {N : Nat} {n : Nd} : D.under N n.d = true := by cases n <;> simp [Nd.d, D.under, D.unders]
theorem op_under {N : Nat} {o : Op} : D.under N o.d = true := by
  unfold Op.d
  simp only [D.under, D.unders, Bool.true_and, Bool.and_true]
  exact unders_map fun n _ => nd_under
/-- a comprehension that takes all -/
theorem comp_m {α : Type} {t : Tg} {Φ : CallSem} {elt : Ex} {ρ : Iv.Env} {σ : Store} (g f : α → D) {xs : List α} (h : ∀ x ∈ xs, ∃ ρ', tgD t (g x) ρ = some ρ' ∧ ev Φ elt ρ' σ = .ok (f x) σ) (hl : xs.length ≤ lim) :
    compL t (ev Φ (.bl true)) (ev Φ elt) ρ (xs.map g) [] σ = .ok (xs.map f) σ := by
  rw [compL_fT g (fun _ => true) f (fun x hx => ?_) (by rw [List.length_nil]; omega)]
  · have : xs.filter (fun _ => true) = xs := List.filter_eq_self.mpr fun _ _ => rfl
    rw [this]; rfl
  · obtain ⟨ρ', e1, e2⟩ := h x hx
    exact ⟨ρ', e1, by rw [ev_bl], fun _ => e2⟩
/-- all of them -/
theorem all_m {α : Type} {mu : Bool} {f : α → Bool} {xs : List α} {σ : Store} : biD .all mu (.lst (xs.map fun x => D.bl (f x))) σ = .ok (.bl (xs.all f)) σ := by
  rw [bi_all (bls_of_map f _)]
  congr 2
  simp
theorem all_t {α : Type} {mu : Bool} {xs : List α} {σ : Store} : biD .all mu (.lst (xs.map fun _ => D.bl true)) σ = .ok (.bl true) σ := by
  rw [all_m (f := fun _ => true)]
  congr 2
  simp
/-! values that are shown, compared: depth, width -/
def Fine (n w : Nat) (d : D) : Prop := D.sim true d = true ∧ d.dp ≤ n ∧ d.wt ≤ w
theorem Fine.le {n m w v : Nat} {d : D} (h : Fine n w d) (l : n ≤ m) (l2 : w ≤ v) : Fine m v d := ⟨h.1, Nat.le_trans h.2.1 l, Nat.le_trans h.2.2 l2⟩
theorem fine_str {n : Nat} {x : Str} (h : gd x = true) : Fine n 100 (.str x) := ⟨by unfold D.sim; exact strok h, by unfold D.dp; exact Nat.zero_le _, by unfold D.wt; have := gd_len h; omega⟩
theorem fine_non {n : Nat} : Fine n 5 .non := ⟨by unfold D.sim; rfl, by unfold D.dp; exact Nat.zero_le _, by unfold D.wt; exact Nat.le_refl _⟩
theorem fine_bl {n : Nat} {b : Bool} : Fine n 5 (.bl b) := ⟨by unfold D.sim; rfl, by unfold D.dp; exact Nat.zero_le _, by unfold D.wt; exact Nat.le_refl _⟩
theorem log_small {j : Nat} (h : j < 1000000000) : j.log2 < 1920 := by
  by_cases e : j = 0
  · subst e; decide
  · have := (Nat.log2_lt e (k := 30)).mpr (by omega)
    omega
theorem int_len3 : ∀ n : Nat, n < 1001 → ((toString (n : Int) : String) : Str).length ≤ 10 := by decide +kernel
theorem nat_wt {j : Nat} (h : j ≤ 1000) : (D.int (j : Int)).wt ≤ 100 := by
  unfold D.wt
  exact Nat.le_trans (int_len3 j (by omega)) (by decide)
theorem fine_nat {n j : Nat} (h : j ≤ 1000) : Fine n 100 (.int (j : Int)) := ⟨by
  unfold D.sim
  have := log_small (j := j) (by omega)
  simpa using this, by unfold D.dp; exact Nat.zero_le _, nat_wt h⟩
theorem fines {n w : Nat} : ∀ {xs : List D}, (∀ x ∈ xs, Fine n w x) → D.sims true xs = true ∧ D.dps xs ≤ n ∧ D.wts xs ≤ xs.length * (w + 2)
  | [], _ => by unfold D.sims D.dps D.wts; exact ⟨rfl, Nat.zero_le _, Nat.zero_le _⟩
  | x :: r, h => by
    obtain ⟨h1, h2, h3⟩ := h x List.mem_cons_self
    obtain ⟨g1, g2, g3⟩ := fines (xs := r) fun y hy => h y (List.mem_cons_of_mem _ hy)
    rw [D.sims, D.dps, D.wts, h1, g1, List.length_cons, Nat.add_mul, Nat.one_mul]
    exact ⟨rfl, by omega, by omega⟩
theorem fine_tup {n w : Nat} {xs : List D} (h : ∀ x ∈ xs, Fine n w x) : Fine (n + 1) (xs.length * (w + 2) + 3) (.tup xs) := by
  obtain ⟨g1, g2, g3⟩ := fines h
  unfold Fine D.sim D.dp D.wt
  exact ⟨g1, by omega, by omega⟩
theorem fine_lst {n w : Nat} {xs : List D} (h : ∀ x ∈ xs, Fine n w x) : Fine (n + 1) (xs.length * (w + 2) + 3) (.lst xs) := by
  obtain ⟨g1, g2, g3⟩ := fines h
  unfold Fine D.sim D.dp D.wt
  exact ⟨g1, by omega, by omega⟩
theorem all1 {P : D → Prop} {a : D} (h : P a) : ∀ x ∈ [a], P x := fun x hx => by rw [List.mem_singleton] at hx; subst hx; exact h
theorem all2 {P : D → Prop} {a b : D} (h : P a) (h2 : P b) : ∀ x ∈ [a, b], P x := fun x hx => by
  simp only [List.mem_cons, List.not_mem_nil, or_false] at hx; rcases hx with rfl | rfl <;> assumption
theorem all3 {P : D → Prop} {a b c : D} (h : P a) (h2 : P b) (h3 : P c) : ∀ x ∈ [a, b, c], P x := fun x hx => by
  simp only [List.mem_cons, List.not_mem_nil, or_false] at hx; rcases hx with rfl | rfl | rfl <;> assumption
theorem all4 {P : D → Prop} {a b c d : D} (h : P a) (h2 : P b) (h3 : P c) (h4 : P d) : ∀ x ∈ [a, b, c, d], P x := fun x hx => by
  simp only [List.mem_cons, List.not_mem_nil, or_false] at hx; rcases hx with rfl | rfl | rfl | rfl <;> assumption
theorem allm {α : Type} {P : D → Prop} {f : α → D} {L : List α} (h : ∀ x ∈ L, P (f x)) : ∀ x ∈ L.map f, P x := fun x hx => by
  obtain ⟨a, ha, rfl⟩ := List.mem_map.mp hx
  exact h a ha
theorem Fine.cm {n w : Nat} {d : D} (h : Fine n w d) (hn : n ≤ 60) : cmpable d = true := cmpable_of h.1 (by have := h.2.1; omega)
theorem Fine.rp {n w : Nat} {d : D} (h : Fine n w d) (hn : n ≤ 100) (hw : w ≤ 16000000) : reprOk d = true := reprOk_of h.1 (by have := h.2.2; rw [lim_v]; omega) (by have := h.2.1; omega)
theorem Fine.u {n w N : Nat} {d : D} (h : Fine n w d) : d.under N = true := sim_under d h.1
theorem eq_t0 {n w : Nat} {xs : List D} (h : Fine n w (.tup xs)) (hn : n ≤ 60) (τ : Store) : cmpD .eq (.tup xs) (.tup []) τ = .ok (.bl xs.isEmpty) τ := by
  have c2 : cmpable (.tup []) = true := by decide +kernel
  show (if cmpable (.tup xs) && cmpable (.tup []) then Res.ok (D.bl (PyData.eqv (D.py (.tup xs)) (D.py (.tup [])))) τ else .bad) = _
  rw [h.cm hn, c2]
  cases xs with
  | nil => rfl
  | cons a r => rfl
theorem ne_t0 {n w : Nat} {xs : List D} (h : Fine n w (.tup xs)) (hn : n ≤ 60) (τ : Store) : cmpD .ne (.tup xs) (.tup []) τ = .ok (.bl (!xs.isEmpty)) τ := by
  have c2 : cmpable (.tup []) = true := by decide +kernel
  show (if cmpable (.tup xs) && cmpable (.tup []) then Res.ok (D.bl (!PyData.eqv (D.py (.tup xs)) (D.py (.tup [])))) τ else .bad) = _
  rw [h.cm hn, c2]
  cases xs with
  | nil => rfl
  | cons a r => rfl
theorem eq_l0 {n w : Nat} {xs : List D} (h : Fine n w (.lst xs)) (hn : n ≤ 60) (τ : Store) : cmpD .eq (.lst xs) (.lst []) τ = .ok (.bl xs.isEmpty) τ := by
  have c2 : cmpable (.lst []) = true := by decide +kernel
  show (if cmpable (.lst xs) && cmpable (.lst []) then Res.ok (D.bl (PyData.eqv (D.py (.lst xs)) (D.py (.lst [])))) τ else .bad) = _
  rw [h.cm hn, c2]
  cases xs with
  | nil => rfl
  | cons a r => rfl
theorem ne_l0 {n w : Nat} {xs : List D} (h : Fine n w (.lst xs)) (hn : n ≤ 60) (τ : Store) : cmpD .ne (.lst xs) (.lst []) τ = .ok (.bl (!xs.isEmpty)) τ := by
  have c2 : cmpable (.lst []) = true := by decide +kernel
  show (if cmpable (.lst xs) && cmpable (.lst []) then Res.ok (D.bl (!PyData.eqv (D.py (.lst xs)) (D.py (.lst [])))) τ else .bad) = _
  rw [h.cm hn, c2]
  cases xs with
  | nil => rfl
  | cons a r => rfl
theorem repr_l {n w : Nat} {mu : Bool} {xs : List D} {σ : Store} (h : Fine n w (.lst xs)) (hn : n ≤ 100) (hw : w ≤ 16000000) : biD .repr mu (.lst xs) σ = .ok (.str (D.lst xs).py.shown) σ := bi_repr rfl (h.rp hn hw)
theorem repr_t {n w : Nat} {mu : Bool} {xs : List D} {σ : Store} (h : Fine n w (.tup xs)) (hn : n ≤ 100) (hw : w ≤ 16000000) : biD .repr mu (.tup xs) σ = .ok (.str (D.tup xs).py.shown) σ := bi_repr rfl (h.rp hn hw)
theorem fine_th {t : Th} (h : t.ok = true) {n w : Nat} (hn : t.dp ≤ n) (hw : 100 * t.sz ≤ w) : Fine n w t.d := by
  obtain ⟨h1, h2, h3⟩ := sim_th t h
  exact ⟨h1, by omega, by omega⟩
theorem fine_mkd {p : Str × Nat} (h : gd p.1 = true) (hp : p.2 ≤ 1000) : Fine 1 300 (mkd p) := (fine_tup (n := 0) (all2 (fine_str h) (fine_nat (by omega)))).le (by omega) (by simp)
theorem gd_part : gd "part" = true := by decide +kernel
theorem gd_around : gd "around" = true := by decide +kernel
theorem gd_inside : gd "inside" = true := by decide +kernel
theorem fine_nd {K : List (Str × Nat)} {m : Nat} {n : Nd} (hw : ∀ p ∈ K, gd p.1 = true) (hm : m ≤ 1000) (h : n.okIn K m) : Fine 1 400 n.d := by
  cases n with
  | part j => exact (fine_tup (n := 0) (all2 (fine_str gd_part) (fine_nat (by have : j < m := h; omega)))).le (by omega) (by simp)
  | around c j => exact (fine_tup (n := 0) (all3 (fine_str gd_around) (fine_str (hw _ h.1)) (fine_nat (by have : j < m := h.2; omega)))).le (by omega) (by simp)
  | inside j c => exact (fine_tup (n := 0) (all3 (fine_str gd_inside) (fine_nat (by have : j < m := h.1; omega)) (fine_str (hw _ h.2)))).le (by omega) (by simp)
theorem fine_op {K : List (Str × Nat)} {o : Op} (hw : ∀ p ∈ K, gd p.1 = true ∧ p.2 ≤ 1000) (hg : gd o.w = true) (h : o.okIn K) : Fine 3 5000 o.d := by
  obtain ⟨m, h1, h2, h3, h4⟩ := h
  have hm : m ≤ 1000 := (hw _ h1).2
  have hl : (o.ns.map Nd.d).length * (400 + 2) + 3 ≤ 1000 := by rw [List.length_map]; omega
  have f4 := (fine_tup (allm fun n hn => fine_nd (fun p hp => (hw p hp).1) hm (h4 n hn))).le (Nat.le_refl 2) hl
  exact (fine_tup (n := 2) (w := 1000) (all4 ((fine_str hg).le (by omega) (by omega)) ((fine_str (hw _ h1).1).le (by omega) (by omega)) ((fine_nat (by omega)).le (by omega) (by omega)) f4)).le (by omega) (by simp)
/-! sorting by first texts -/
section
variable {α : Type} {kf : α → Str} {g : α → D}
def srt (kf : α → Str) (L : List α) : List α := L.mergeSort fun a b => !strLt (kf b) (kf a)
theorem srt_perm (L : List α) : (srt kf L).Perm L := List.mergeSort_perm L _
theorem srt_pw (L : List α) : ((srt kf L).map kf).Pairwise fun a b => sLe a b = true := by
  have e : (srt kf L).map kf = (L.map kf).mergeSort fun a b => !strLt b a := by
    unfold srt
    exact List.map_mergeSort (r := fun a b => !strLt (kf b) (kf a)) (s := fun a b : Str => !strLt b a) (f := kf) fun a _ b _ => rfl
  rw [e]
  exact List.pairwise_mergeSort sLe_trans sLe_total _
theorem fsts_L (hg : ∀ a, ∃ r, g a = .tup (.str (kf a) :: r)) : ∀ L : List α, fstsOf (L.map g) = some (L.map kf)
  | [] => rfl
  | a :: r => by
    obtain ⟨t, e⟩ := hg a
    rw [List.map_cons, e, fstsOf, fsts_L hg r]; rfl
theorem sorted_L (hg : ∀ a, ∃ r, g a = .tup (.str (kf a) :: r)) {L : List α} (h : (L.map kf).Nodup) {mu : Bool} (σ : Store) : biD .sorted mu (.lst (L.map g)) σ = newL mu ((srt kf L).map g) σ := by
  cases L with
  | nil => unfold srt; rw [List.map_nil, List.mergeSort_nil, List.map_nil]; unfold biD; rw [view_lst]; show newL mu ((sortS []).map D.str) σ = _; unfold sortS; rw [List.mergeSort_nil]; rfl
  | cons a r =>
    unfold biD
    rw [view_lst]
    dsimp only
    have h0 : strsOf ((a :: r).map g) = none := by
      obtain ⟨t, e⟩ := hg a
      rw [List.map_cons, e]; rfl
    rw [h0]
    dsimp only
    rw [fsts_L hg]
    dsimp only
    rw [if_pos h]
    congr 1
    unfold sortT
    rw [List.zip_map']
    have e : ((a :: r).map fun x => (kf x, g x)).mergeSort (fun a b => !strLt b.1 a.1) = (srt kf (a :: r)).map fun x => (kf x, g x) := by
      unfold srt
      exact (List.map_mergeSort (r := fun a b => !strLt (kf b) (kf a)) (s := fun a b : Str × D => !strLt b.1 a.1) (f := fun x => (kf x, g x)) fun a _ b _ => rfl).symm
    rw [e, List.map_map]; rfl
end
/-! things of a book -/
def MkOk (MK : List (Str × Nat)) : Prop := MK.length ≤ 20 ∧ ∀ p ∈ MK, gd p.1 = true ∧ 1 ≤ p.2 ∧ p.2 ≤ 3
def LsOk (LS : List Str) : Prop := LS.length ≤ 20 ∧ LS ≠ [] ∧ ∀ x ∈ LS, gd x = true
mutual
/-- a thing made of these kinds and leaves -/
def Th.of (MK : List (Str × Nat)) (LS : List Str) : Th → Prop
  | .leaf x => x ∈ LS
  | .node w ps => (w, ps.length) ∈ MK ∧ Th.ofs MK LS ps
def Th.ofs (MK : List (Str × Nat)) (LS : List Str) : List Th → Prop
  | [] => True
  | t :: r => t.of MK LS ∧ Th.ofs MK LS r
end
theorem ofs_app {MK : List (Str × Nat)} {LS : List Str} : ∀ {xs ys : List Th}, Th.ofs MK LS xs → Th.ofs MK LS ys → Th.ofs MK LS (xs ++ ys)
  | [], ys, _, h => h
  | x :: r, ys, h, h' => by rw [Th.ofs] at h; rw [List.cons_append, Th.ofs]; exact ⟨h.1, ofs_app h.2 h'⟩
theorem ofs_mem {MK : List (Str × Nat)} {LS : List Str} : ∀ {xs : List Th}, Th.ofs MK LS xs ↔ ∀ t ∈ xs, t.of MK LS
  | [] => by simp [Th.ofs]
  | x :: r => by rw [Th.ofs, ofs_mem]; simp
theorem dps_app : ∀ xs ys : List Th, Th.dps (xs ++ ys) = max (Th.dps xs) (Th.dps ys)
  | [], ys => by simp [Th.dps]
  | x :: r, ys => by rw [List.cons_append, Th.dps, Th.dps, dps_app]; omega
theorem of_ok {MK : List (Str × Nat)} {LS : List Str} (hM : MkOk MK) (hL : LsOk LS) (t : Th) : t.of MK LS → t.ok = true := by
  refine Th.ind (M := fun t => t.of MK LS → t.ok = true) (fun x h => ?_) (fun w ps ih h => ?_) t
  · rw [Th.of] at h; rw [Th.ok]; exact hL.2.2 x h
  · rw [Th.of] at h
    obtain ⟨h1, h2⟩ := h
    obtain ⟨g1, g2, g3⟩ := hM.2 _ h1
    have h3 := ofs_mem.mp h2
    rw [Th.ok, g1]
    have key : ∀ ps : List Th, (∀ t ∈ ps, t.of MK LS → t.ok = true) → (∀ t ∈ ps, t.of MK LS) → Th.oks ps = true := by
      intro ps ih h3
      induction ps with
      | nil => rw [Th.oks]
      | cons p r ihr =>
        rw [Th.oks, ih p List.mem_cons_self (h3 p List.mem_cons_self), ihr (fun t ht => ih t (List.mem_cons_of_mem _ ht)) (fun t ht => h3 t (List.mem_cons_of_mem _ ht))]
        rfl
    rw [key ps ih h3]
    cases ps with
    | nil => simp at g2
    | cons p r => rfl
end Iv

set_option Elab.async false
set_option linter.all false
set_option maxHeartbeats 4000000
set_option maxRecDepth 20000
set_option autoImplicit false
/-! books: the package's functions -/
namespace Iv
open PySem L2
def c_is_integer : Fd := ⟨1, 1, [.ret (.and (.isi (.loc 0) [.int]) (.not (.isi (.loc 0) [.bool])))]⟩
def c_are_ascending : Fd := ⟨1, 3, [.ret (.bi .all false (.comp false [1, 2] (.tup [1, 2]) .zip [.loc 0, .slice false (.loc 0) (.int 1) .nop] (.bl true) (.cmp .lt (.loc 1) (.loc 2))))]⟩
def c_is_kind : Fd := ⟨1, 1, [.ite (.or (.not (.isi (.loc 0) [.tup])) (.or (.cmp .ne (.bi .len false (.loc 0)) (.glo "" (.int 2))) (.not (.call 1 [.idx (.loc 0) (.int 0)] [] [] [0])))) [.ret (.bl false)] [], .ret (.and (.call 46 [.idx (.loc 0) (.int 1)] [] [] [0]) (.chain .le .le (.int 1) (.idx (.loc 0) (.int 1)) (.glo "" (.int 3))))]⟩
def c_are_kinds : Fd := ⟨1, 4, [.ite (.or (.not (.isi (.loc 0) [.tup])) (.or (.cmp .eq (.loc 0) (.tup [])) (.not (.bi .all false (.comp false [3] (.nm 3) .on [.loc 0] (.bl true) (.call 48 [.loc 3] [] [] [0])))))) [.ret (.bl false)] [], .ret (.call 47 [.comp false [1, 2] (.tup [1, 2]) .on [.loc 0] (.bl true) (.loc 1)] [] [] [0])]⟩
def c_is_place : Fd := ⟨2, 2, [.ret (.and (.call 46 [.loc 1] [] [] [0]) (.chain .le .lt (.int 0) (.loc 1) (.loc 0)))]⟩
def c_is_single : Fd := ⟨2, 2, [.ret (.and (.call 1 [.loc 1] [] [] [0]) (.cmp .eq (.me .get (.loc 0) [.loc 1]) (.int 1)))]⟩
def c_is_need : Fd := ⟨3, 3, [.ite (.or (.not (.isi (.loc 2) [.tup])) (.or (.cmp .eq (.loc 2) (.tup [])) (.not (.isi (.idx (.loc 2) (.int 0)) [.str])))) [.ret (.bl false)] [], .ite (.cmp .ne (.me .get (.glo "" (.rod ["part", "around", "inside"] [.int 2, .int 3, .int 3])) [.idx (.loc 2) (.int 0)]) (.bi .len false (.loc 2))) [.ret (.bl false)] [], .ite (.cmp .eq (.idx (.loc 2) (.int 0)) (.glo "" (.str "part"))) [.ret (.call 50 [.loc 1, .idx (.loc 2) (.int 1)] [] [] [0, 1])] [], .ite (.cmp .eq (.idx (.loc 2) (.int 0)) (.glo "" (.str "around"))) [.ret (.and (.call 51 [.loc 0, .idx (.loc 2) (.int 1)] [] [] [0, 1]) (.call 50 [.loc 1, .idx (.loc 2) (.int 2)] [] [] [0, 1]))] [], .ret (.and (.call 50 [.loc 1, .idx (.loc 2) (.int 1)] [] [] [0, 1]) (.call 51 [.loc 0, .idx (.loc 2) (.int 2)] [] [] [0, 1]))]⟩
def c_is_opening : Fd := ⟨2, 8, [.ite (.or (.not (.isi (.loc 1) [.tup])) (.cmp .ne (.bi .len false (.loc 1)) (.glo "" (.int 4)))) [.ret (.bl false)] [], .asg (.tup [3, 4, 5, 6]) (.loc 1), .ite (.or (.not (.call 1 [.loc 3] [] [] [0])) (.or (.cmp .isin (.loc 3) (.loc 0)) (.or (.not (.call 1 [.loc 4] [] [] [0])) (.cmp .notin (.loc 4) (.loc 0))))) [.ret (.bl false)] [], .asg (.nm 2) (.idx (.loc 0) (.loc 4)), .ite (.or (.not (.call 50 [.loc 2, .loc 5] [] [] [0, 1])) (.or (.not (.isi (.loc 6) [.tup])) (.cmp .gt (.bi .len false (.loc 6)) (.glo "" (.int 2))))) [.ret (.bl false)] [], .ret (.bi .all false (.comp false [7] (.nm 7) .on [.loc 6] (.bl true) (.call 52 [.loc 0, .loc 2, .loc 7] [] [] [0, 1, 2])))]⟩
def c_are_openings : Fd := ⟨2, 3, [.ite (.or (.not (.isi (.loc 1) [.tup])) (.not (.bi .all false (.comp false [2] (.nm 2) .on [.loc 1] (.bl true) (.call 53 [.loc 0, .loc 2] [] [] [0, 1]))))) [.ret (.bl false)] [], .ret (.call 47 [.comp false [2] (.nm 2) .on [.loc 1] (.bl true) (.idx (.loc 2) (.int 0))] [] [] [0])]⟩
def c_needed_by : Fd := ⟨2, 3, [.ite (.cmp .eq (.idx (.loc 0) (.int 0)) (.glo "" (.str "part"))) [.ret (.idx (.loc 1) (.bin .add (.int 1) (.idx (.loc 0) (.int 1))))] [], .ite (.cmp .eq (.idx (.loc 0) (.int 0)) (.glo "" (.str "around"))) [.ret (.tup [.idx (.loc 0) (.int 1), .idx (.loc 1) (.bin .add (.int 1) (.idx (.loc 0) (.int 2)))])] [], .asg (.nm 2) (.idx (.loc 1) (.bin .add (.int 1) (.idx (.loc 0) (.int 1)))), .ret (.ite (.and (.isi (.loc 2) [.tup]) (.cmp .eq (.idx (.loc 2) (.int 0)) (.idx (.loc 0) (.int 2)))) (.idx (.loc 2) (.int 1)) (.non))]⟩
def c_Book_init : Fd := ⟨3, 4, [.ite (.not (.call 49 [.loc 1] [] [] [0])) [.never] [], .sfld "Book" (.loc 0) "counts" (.bi .dict false (.loc 1)), .ite (.not (.call 54 [.fld (.loc 0) "counts", .loc 2] [] [] [0, 1])) [.never] [], .sfld "Book" (.loc 0) "kinds" (.loc 1), .sfld "Book" (.loc 0) "openings" (.loc 2), .sfld "Book" (.loc 0) "needs_by_opening" (.dcomp false [3] (.nm 3) .on [.loc 2] (.bl true) (.idx (.loc 3) (.int 0)) (.idx (.loc 3) (.int 3)))]⟩
def c_Book_needed : Fd := ⟨3, 5, [.asg (.nm 3) (.comp false [4] (.nm 4) .on [.idx (.fld (.loc 0) "needs_by_opening") (.loc 1)] (.bl true) (.call 55 [.loc 4, .loc 2] [] [] [0, 1])), .ret (.ite (.cmp .isin (.non) (.loc 3)) (.non) (.bi .tuple false (.loc 3)))]⟩
def c_standard_book : Fd := ⟨0, 7, [.asg (.nm 0) (.tup [.tup [.str "half", .int 1], .tup [.str "lock", .int 2], .tup [.str "mark", .int 1], .tup [.str "pair", .int 2], .tup [.str "seal", .int 2], .tup [.str "sign", .int 2]]), .asg (.tup [5, 6]) (.tup [.tup [.str "first", .str "pair", .int 0, .tup []], .tup [.str "second", .str "pair", .int 1, .tup []]]), .asg (.nm 1) (.tup [.str "open", .str "lock", .int 0, .tup [.tup [.glo "" (.str "part"), .int 1]]]), .asg (.nm 2) (.tup [.str "shown", .str "sign", .int 0, .tup []]), .asg (.nm 3) (.tup [.str "signed", .str "sign", .int 0, .tup [.tup [.glo "" (.str "around"), .str "half", .int 1]]]), .asg (.nm 4) (.tup [.str "unseal", .str "seal", .int 0, .tup [.tup [.glo "" (.str "inside"), .int 1, .str "half"]]]), .ret (.mk "Book" 56 [.loc 0, .tup [.loc 5, .loc 1, .loc 6, .loc 2, .loc 3, .loc 4]] [] [] [0, 1, 2])]⟩
class BookP (pr : List Fd) : Prop where
  is_integer : pr[46]? = some c_is_integer
  are_ascending : pr[47]? = some c_are_ascending
  is_kind : pr[48]? = some c_is_kind
  are_kinds : pr[49]? = some c_are_kinds
  is_place : pr[50]? = some c_is_place
  is_single : pr[51]? = some c_is_single
  is_need : pr[52]? = some c_is_need
  is_opening : pr[53]? = some c_is_opening
  are_openings : pr[54]? = some c_are_openings
  needed_by : pr[55]? = some c_needed_by
  Book_init : pr[56]? = some c_Book_init
  Book_needed : pr[62]? = some c_Book_needed
  standard_book : pr[63]? = some c_standard_book
/-- a word -/
def wd (x : Str) : Bool := gd x && x.cps.toList.all low
theorem wd_gd {x : Str} (h : wd x = true) : gd x = true := by unfold wd at h; exact (Bool.and_eq_true_iff.mp h).1
theorem leave_new {σ σ1 : Store} {n : Nat} (h : σ.length ≤ n) : leave σ (.ref n) σ1 = .ok (.ref n) σ1 := by
  unfold leave
  rw [if_neg]
  unfold dropOk
  have : D.under σ.length (.ref n) = false := by unfold D.under; exact decide_eq_false (by omega)
  rw [this]
  simp
/-! dicts of distinct texts -/
section
variable {α : Type} {kf : α → Str} {vf : α → D}
theorem look_L (x : Str) : ∀ L : List α, look (L.map fun a => .inr (kf a)) (L.map vf) (.inr x) = (L.find? fun a => decide (kf a = x)).map vf
  | [] => rfl
  | a :: r => by
    rw [List.map_cons, List.map_cons, look_cons, List.find?_cons]
    by_cases h : kf a = x
    · rw [if_pos (by rw [h]), decide_eq_true h]; rfl
    · rw [if_neg (by rw [inrI]; exact h), decide_eq_false h]; exact look_L x r
theorem find_mem {L : List α} (hn : (L.map kf).Nodup) {a : α} (h : a ∈ L) : L.find? (fun b => decide (kf b = kf a)) = some a := by
  induction L with
  | nil => cases h
  | cons b r ih =>
    rw [List.map_cons, List.nodup_cons] at hn
    rw [List.find?_cons]
    rcases List.mem_cons.mp h with rfl | h
    · simp
    · have : kf b ≠ kf a := fun e => hn.1 (by rw [e]; exact List.mem_map_of_mem h)
      rw [decide_eq_false this]
      exact ih hn.2 h
theorem look_mem {L : List α} (hn : (L.map kf).Nodup) {a : α} (h : a ∈ L) : look (L.map fun a => .inr (kf a)) (L.map vf) (.inr (kf a)) = some (vf a) := by
  rw [look_L, find_mem hn h]; rfl
theorem look_not {L : List α} {x : Str} (h : x ∉ L.map kf) : look (L.map fun a => .inr (kf a)) (L.map vf) (.inr x) = none := by
  rw [look_L]
  have : L.find? (fun a => decide (kf a = x)) = none := by
    rw [List.find?_eq_none]
    intro a ha e
    exact h (by rw [← of_decide_eq_true e]; exact List.mem_map_of_mem ha)
  rw [this]; rfl
theorem putD_new {kvs : List (Key × D)} {k : Key} {v : D} (h : k ∉ kvs.map (·.1)) : putD kvs k v = kvs ++ [(k, v)] := by
  unfold putD
  rw [if_neg]
  rw [List.any_eq_true]
  rintro ⟨kv, h1, h2⟩
  exact h (by rw [← of_decide_eq_true h2]; exact List.mem_map_of_mem h1)
theorem merge_new (L : List α) : ∀ acc : List (Key × D), (acc.map (·.1) ++ L.map fun a => (.inr (kf a) : Key)).Nodup → mergeD acc (L.map fun a => (.inr (kf a), vf a)) = acc ++ L.map fun a => (.inr (kf a), vf a) := by
  induction L with
  | nil => intro acc _; simp [mergeD]
  | cons a r ih =>
    intro acc h
    rw [List.map_cons, mergeD_cons, putD_new, ih]
    · simp
    · simpa using h
    · rw [List.map_cons] at h
      have := (List.nodup_append.mp h).2.2
      intro hm
      exact this _ hm _ List.mem_cons_self rfl
theorem inr_nodup {L : List α} (h : (L.map kf).Nodup) : (L.map fun a => (.inr (kf a) : Key)).Nodup := by
  have e : (L.map fun a => (.inr (kf a) : Key)) = (L.map kf).map .inr := by rw [List.map_map]; rfl
  rw [e]
  exact List.Pairwise.map _ (fun a b hab e => hab (by injection e)) h
theorem merge_nil {L : List α} (h : (L.map kf).Nodup) : mergeD [] (L.map fun a => (.inr (kf a), vf a)) = L.map fun a => (.inr (kf a), vf a) := by
  rw [merge_new]
  · rfl
  · exact inr_nodup h
theorem pairs_L {g : α → D} (h : ∀ a, g a = .tup [.str (kf a), vf a]) : ∀ L : List α, pairsOf (L.map g) = some (L.map fun a => (.inr (kf a), vf a))
  | [] => rfl
  | a :: r => by
    rw [List.map_cons, h, pairsOf, dk_s]
    dsimp only
    rw [pairs_L h r]; rfl
/-- dict(t) of distinct texts -/
theorem dict_L {mu : Bool} {g : α → D} (hg : ∀ a, g a = .tup [.str (kf a), vf a]) {L : List α} (h : (L.map kf).Nodup) (σ : Store) : biD .dict mu (.tup (L.map g)) σ = newD mu (L.map fun a => .inr (kf a)) (L.map vf) σ := by
  unfold biD
  rw [view_tup']
  dsimp only
  rw [pairs_L hg]
  dsimp only
  rw [merge_nil h, List.map_map, List.map_map]; rfl
theorem dict_Ll {mu : Bool} {g : α → D} (hg : ∀ a, g a = .tup [.str (kf a), vf a]) {L : List α} (h : (L.map kf).Nodup) (σ : Store) : biD .dict mu (.lst (L.map g)) σ = newD mu (L.map fun a => .inr (kf a)) (L.map vf) σ := by
  unfold biD
  rw [view_lst]
  dsimp only
  rw [pairs_L hg]
  dsimp only
  rw [merge_nil h, List.map_map, List.map_map]; rfl
/-- a dict comprehension of distinct texts -/
theorem dcomp_L {Φ : CallSem} {t : Tg} {kx vx : Ex} {ρ : Iv.Env} {σ : Store} {g : α → D} : ∀ (L : List α) (acc : List (Key × D)), (∀ a ∈ L, ∃ ρ', tgD t (g a) ρ = some ρ' ∧ ev Φ kx ρ' σ = .ok (.str (kf a)) σ ∧ ev Φ vx ρ' σ = .ok (vf a) σ) → acc.length + L.length ≤ 1000 → (acc.map (·.1) ++ L.map fun a => (.inr (kf a) : Key)).Nodup →
    dcompL t (ev Φ (.bl true)) (ev Φ kx) (ev Φ vx) ρ (L.map g) acc σ = .ok (acc ++ L.map fun a => (.inr (kf a), vf a)) σ := by
  intro L
  induction L with
  | nil => intro acc _ _ _; simp [dcompL]
  | cons a r ih =>
    intro acc h hl hn
    obtain ⟨ρ', e1, e2, e3⟩ := h a List.mem_cons_self
    rw [List.length_cons] at hl
    have hnew : (.inr (kf a) : Key) ∉ acc.map (·.1) := by
      rw [List.map_cons] at hn
      have := (List.nodup_append.mp hn).2.2
      intro hm
      exact this _ hm _ List.mem_cons_self rfl
    rw [List.map_cons, dcompL, e1]
    dsimp only
    rw [ev_bl]
    dsimp only
    rw [view_bl]
    dsimp only [truthD]
    rw [e2]
    dsimp only
    rw [e3]
    dsimp only
    rw [dk_s]
    dsimp only
    rw [if_pos (by rw [lim_v]; omega), putD_new hnew, ih _ (fun a ha => h a (List.mem_cons_of_mem _ ha)) (by rw [List.length_append, List.length_singleton]; omega) (by simpa using hn)]
    simp
end
/-! rows of words -/
theorem lt_irr (x : Str) : strLt x x = false := by show decide (x.cps.toList < x.cps.toList) = false; exact decide_eq_false (List.lt_irrefl _)
def Asc (xs : List Str) : Prop := xs.Pairwise fun a b => strLt a b = true
theorem Asc.nd {xs : List Str} (h : Asc xs) : xs.Nodup := List.Pairwise.imp (fun {a b} h e => by rw [e, lt_irr] at h; cases h) h
theorem srt_asc {α : Type} {kf : α → Str} {L : List α} (h : (L.map kf).Nodup) : Asc ((srt kf L).map kf) := by
  have p := srt_pw (kf := kf) L
  have n : ((srt kf L).map kf).Nodup := ((srt_perm L).map kf).nodup_iff.mpr h
  refine List.Pairwise.imp₂ (fun a b h1 h2 => ?_) p n
  unfold sLe at h1
  cases h3 : strLt a b with
  | true => rfl
  | false => exact absurd (sLe_anti (by unfold sLe; rw [h1]) (by unfold sLe; rw [h3]; rfl)) h2
theorem Asc.zip {xs : List Str} (h : Asc xs) : ∀ p ∈ xs.zip (xs.drop 1), strLt p.1 p.2 = true := by
  induction xs with
  | nil => intro p hp; cases hp
  | cons a r ih =>
    cases r with
    | nil => intro p hp; cases hp
    | cons b r =>
      intro p hp
      rw [List.drop_succ_cons, List.drop_zero, List.zip_cons_cons] at hp
      rcases List.mem_cons.mp hp with rfl | hp
      · exact (List.pairwise_cons.mp h).1 _ List.mem_cons_self
      · exact ih (List.pairwise_cons.mp h).2 p (by rwa [List.drop_succ_cons, List.drop_zero])
theorem zipD_map {α β : Type} {f : α → D} {g : β → D} (xs : List α) (ys : List β) : zipD (xs.map f, ys.map g) = (xs.zip ys).map fun p => .it [f p.1, g p.2] := by
  unfold zipD
  dsimp only
  rw [List.zip_map, List.map_map]; rfl
/-- the parts of a book -/
structure BookOk (K : List (Str × Nat)) (O : List Op) : Prop where
  ne : K ≠ []
  kl : K.length ≤ 20
  kw : ∀ p ∈ K, wd p.1 = true ∧ 1 ≤ p.2 ∧ p.2 ≤ 3
  ks : Asc (K.map (·.1))
  ol : O.length ≤ 50
  ow : ∀ o ∈ O, wd o.w = true ∧ o.w ∉ K.map (·.1) ∧ o.okIn K
  os : Asc (O.map (·.w))
theorem BookOk.mkOk {K : List (Str × Nat)} {O : List Op} (h : BookOk K O) : MkOk K := ⟨h.kl, fun p hp => ⟨wd_gd (h.kw p hp).1, (h.kw p hp).2⟩⟩
def cnt (K : List (Str × Nat)) : D := .dic (K.map fun p => .inr p.1) (K.map fun p => .int p.2)
def nbo (O : List Op) : D := .dic (O.map fun o => .inr o.w) (O.map fun o => .tup (o.ns.map Nd.d))
/-- a book's attributes -/
def bookC (K : List (Str × Nat)) (O : List Op) : Cell := .obj "Book" [("counts", cnt K), ("kinds", .tup (K.map mkd)), ("openings", .tup (O.map Op.d)), ("needs_by_opening", nbo O)]
section
variable {pr : List Fd} [WordP pr] [BookP pr] {k : Nat} {σ : Store}
theorem r_word {x : Str} (h : wd x = true) (hk : 2 ≤ k) : callK pr k 1 [.str x] σ = .ok (.bl true) σ := by
  obtain ⟨k, rfl⟩ : ∃ j, k = j + 2 := ⟨k - 2, by omega⟩
  unfold wd at h
  rw [Bool.and_eq_true] at h
  have := r_is_word (pr := pr) (.leaf x) (by unfold Th.ok; exact h.1) k σ
  rw [d_leaf] at this
  rw [this]
  show Res.ok (D.bl (x.cps.toList.all low)) σ = _
  rw [h.2]
theorem r_isint {i : Int} (hk : 1 ≤ k) : callK pr k 46 [.int i] σ = .ok (.bl true) σ := by
  obtain ⟨k, rfl⟩ : ∃ j, k = j + 1 := ⟨k - 1, by omega⟩
  rw [callK_run BookP.is_integer rfl]
  unfold c_is_integer
  exists leave_same
theorem r_asc {xs : List Str} (h : Asc xs) (hl : xs.length ≤ 1000) (hk : 1 ≤ k) : callK pr k 47 [.lst (xs.map D.str)] σ = .ok (.bl true) σ := by
  obtain ⟨k, rfl⟩ : ∃ j, k = j + 1 := ⟨k - 1, by omega⟩
  rw [callK_run BookP.are_ascending rfl]
  unfold c_are_ascending
  have n1 : ∀ τ : Store, newL false ((xs.map D.str).drop 1) τ = .ok (.lst ((xs.drop 1).map D.str)) τ := fun τ => by rw [newL_f (by rw [List.length_drop, List.length_map, lim_v]; omega), List.map_drop]
  have hz := List.length_zip (l₁ := xs) (l₂ := xs.drop 1)
  exists cu1, n1, zipD_map
  rw [comp_m (fun p : Str × Str => D.it [.str p.1, .str p.2]) (fun p => .bl true) (fun p hp => ⟨_, rfl, ?_⟩) (by rw [lim_v, hz]; omega)]
  · have n2 : ∀ τ : Store, newL false ((xs.zip (xs.drop 1)).map fun p => D.bl true) τ = .ok (.lst ((xs.zip (xs.drop 1)).map fun p => D.bl true)) τ := fun τ => newL_f (by rw [List.length_map, lim_v, hz]; omega)
    exists n2, all_t, leave_same
  · have := h.zip p hp
    exists this
theorem r_kind {p : Str × Nat} (h : wd p.1 = true ∧ 1 ≤ p.2 ∧ p.2 ≤ 3) (hk : 3 ≤ k) : callK pr k 48 [mkd p] σ = .ok (.bl true) σ := by
  obtain ⟨k, rfl⟩ : ∃ j, k = j + 1 := ⟨k - 1, by omega⟩
  rw [callK_run BookP.is_kind rfl]
  unfold c_is_kind mkd
  have e1 : (1 : Int) ≤ (p.2 : Int) := by omega
  have e2 : (p.2 : Int) ≤ 3 := by omega
  have w := fun τ => r_word (pr := pr) (k := k) (σ := τ) h.1 (by omega)
  have i := fun τ => r_isint (pr := pr) (k := k) (σ := τ) (i := p.2) (by omega)
  exists w, i, decide_eq_true e1, decide_eq_true e2, leave_same
theorem r_kinds {K : List (Str × Nat)} {O : List Op} (h : BookOk K O) (hk : 4 ≤ k) : callK pr k 49 [.tup (K.map mkd)] σ = .ok (.bl true) σ := by
  obtain ⟨k, rfl⟩ : ∃ j, k = j + 1 := ⟨k - 1, by omega⟩
  have hl := h.kl
  rw [callK_run BookP.are_kinds rfl]
  unfold c_are_kinds
  have hn : ∀ τ, cmpD .eq (.tup (K.map mkd)) (.tup []) τ = .ok (.bl false) τ := fun τ => by
    rw [eq_t0 (fine_tup <| allm fun x hx => fine_mkd (wd_gd (h.kw x hx).1) (by have := h.kw x hx; omega)) (by decide), List.isEmpty_eq_false_iff.mpr (by simpa using h.ne)]
  exists hn
  rw [comp_m mkd (fun p => .bl true) (fun p hp => ⟨_, rfl, ?_⟩) (by rw [lim_v]; omega)]
  rotate_left
  · exists r_kind (pr := pr) (k := k) (h.kw p hp) (by omega)
  have n1 : ∀ τ : Store, newL false (K.map fun p => D.bl true) τ = .ok (.lst (K.map fun p => D.bl true)) τ := fun τ => newL_f (by rw [List.length_map, lim_v]; omega)
  exists n1, all_t
  rw [comp_m mkd (fun p => .str p.1) (fun p hp => ⟨_, rfl, ?_⟩) (by rw [lim_v]; omega)]
  rotate_left
  · exists Iv.sat_ok
  have n2 : ∀ τ : Store, newL false (K.map fun p => D.str p.1) τ = .ok (.lst ((K.map (·.1)).map D.str)) τ := fun τ => by rw [newL_f (by rw [List.length_map, lim_v]; omega), List.map_map]; rfl
  exists n2, r_asc (pr := pr) (k := k) h.ks (by rw [List.length_map]; omega) (by omega), leave_same
theorem r_place {m j : Nat} (h : j < m) (hk : 2 ≤ k) : callK pr k 50 [.int m, .int j] σ = .ok (.bl true) σ := by
  obtain ⟨k, rfl⟩ : ∃ j, k = j + 1 := ⟨k - 1, by omega⟩
  rw [callK_run BookP.is_place rfl]
  unfold c_is_place
  have e1 : (0 : Int) ≤ (j : Int) := by omega
  have e2 : (j : Int) < (m : Int) := by omega
  exists r_isint (pr := pr) (k := k) (i := j) (by omega), decide_eq_true e1, decide_eq_true e2, leave_same
theorem cnt_at {K : List (Str × Nat)} (h : (K.map (·.1)).Nodup) {c : Str} {m : Nat} (hc : (c, m) ∈ K) : look (K.map fun p => (.inr p.1 : Key)) (K.map fun p => D.int p.2) (.inr c) = some (.int m) := look_mem (kf := fun p : Str × Nat => p.1) (vf := fun p => D.int p.2) h hc
theorem r_single {K : List (Str × Nat)} (hn : (K.map (·.1)).Nodup) {c : Str} (hw : wd c = true) (hc : (c, 1) ∈ K) (hk : 3 ≤ k) : callK pr k 51 [cnt K, .str c] σ = .ok (.bl true) σ := by
  obtain ⟨k, rfl⟩ : ∃ j, k = j + 1 := ⟨k - 1, by omega⟩
  rw [callK_run BookP.is_single rfl]
  unfold c_is_single cnt
  exists r_word (pr := pr) (k := k) hw (by omega), cnt_at hn hc, leave_same
theorem r_need {K : List (Str × Nat)} {m : Nat} {n : Nd} (hn : (K.map (·.1)).Nodup) (hw : ∀ p ∈ K, wd p.1 = true) (hm : m ≤ 1000) (h : n.okIn K m) (hk : 4 ≤ k) : callK pr k 52 [cnt K, .int m, n.d] σ = .ok (.bl true) σ := by
  obtain ⟨k, rfl⟩ : ∃ j, k = j + 1 := ⟨k - 1, by omega⟩
  rw [callK_run BookP.is_need rfl]
  unfold c_is_need
  have hf := fine_nd (fun p hp => wd_gd (hw p hp)) hm h
  cases n with
  | part j =>
    unfold Nd.d at hf ⊢
    have e0 := eq_t0 hf (by decide)
    exists e0, r_place (pr := pr) (k := k) (show j < m from h) (by omega), leave_same
  | around c j =>
    unfold Nd.d at hf ⊢
    have e0 := eq_t0 hf (by decide)
    exists e0, r_place (pr := pr) (k := k) h.2 (by omega), r_single (pr := pr) (k := k) hn (hw _ h.1) h.1 (by omega), leave_same
  | inside j c =>
    unfold Nd.d at hf ⊢
    have e0 := eq_t0 hf (by decide)
    exists e0, r_place (pr := pr) (k := k) h.1 (by omega), r_single (pr := pr) (k := k) hn (hw _ h.2) h.2 (by omega), leave_same
theorem r_opening {K : List (Str × Nat)} {o : Op} (hn : (K.map (·.1)).Nodup) (hw : ∀ p ∈ K, wd p.1 = true ∧ 1 ≤ p.2 ∧ p.2 ≤ 3) (h : wd o.w = true ∧ o.w ∉ K.map (·.1) ∧ o.okIn K) (hk : 5 ≤ k) : callK pr k 53 [cnt K, o.d] σ = .ok (.bl true) σ := by
  obtain ⟨k, rfl⟩ : ∃ j, k = j + 1 := ⟨k - 1, by omega⟩
  obtain ⟨h1, h2, m, h3, h4, h5, h6⟩ := h
  have hm := (hw _ h3).2
  rw [callK_run BookP.is_opening rfl]
  unfold c_is_opening Op.d
  have l1 := look_not (vf := fun p : Str × Nat => D.int p.2) h2
  have l2 := cnt_at hn h3
  have i1 : ∀ τ, cmpD .isin (.str o.w) (cnt K) τ = .ok (.bl false) τ := fun τ => by unfold cnt; rw [in_dic, l1]; rfl
  have i2 : ∀ τ, cmpD .notin (.str o.kd) (cnt K) τ = .ok (.bl false) τ := fun τ => by unfold cnt; rw [nin_dic, l2]; rfl
  have i3 : ∀ τ, idxD (cnt K) (.str o.kd) τ = .ok (.int m) τ := fun τ => by unfold cnt; rw [i_dics, l2]; rfl
  have e1 : ¬ (2 : Int) < ((o.ns.map Nd.d).length : Int) := by rw [List.length_map]; omega
  exists r_word (pr := pr) (k := k) h1 (by omega), r_word (pr := pr) (k := k) (hw _ h3).1 (by omega), i1, i2, i3, r_place (pr := pr) (k := k) h4 (by omega), decide_eq_false e1
  rw [comp_m Nd.d (fun p => .bl true) (fun n hn' => ⟨_, rfl, ?_⟩) (by rw [lim_v]; omega)]
  rotate_left
  · exists r_need (pr := pr) (k := k) (n := n) hn (fun p hp => (hw p hp).1) (by omega) (h6 n hn') (by omega)
  have n1 : ∀ τ : Store, newL false (o.ns.map fun p => D.bl true) τ = .ok (.lst (o.ns.map fun p => D.bl true)) τ := fun τ => newL_f (by rw [List.length_map, lim_v]; omega)
  exists n1, all_t, leave_same
theorem r_openings {K : List (Str × Nat)} {O : List Op} (h : BookOk K O) (hk : 6 ≤ k) : callK pr k 54 [cnt K, .tup (O.map Op.d)] σ = .ok (.bl true) σ := by
  obtain ⟨k, rfl⟩ : ∃ j, k = j + 1 := ⟨k - 1, by omega⟩
  have hl := h.ol
  rw [callK_run BookP.are_openings rfl]
  unfold c_are_openings
  exists Iv.sat_ok
  rw [comp_m Op.d (fun p => .bl true) (fun n hn' => ⟨_, rfl, ?_⟩) (by rw [lim_v]; omega)]
  rotate_left
  · exists r_opening (pr := pr) (k := k) (o := n) h.ks.nd h.kw (h.ow n hn') (by omega)
  have n1 : ∀ τ : Store, newL false (O.map fun p => D.bl true) τ = .ok (.lst (O.map fun p => D.bl true)) τ := fun τ => newL_f (by rw [List.length_map, lim_v]; omega)
  exists n1, all_t
  rw [comp_m Op.d (fun o => .str o.w) (fun n hn' => ⟨_, rfl, ?_⟩) (by rw [lim_v]; omega)]
  rotate_left
  · unfold Op.d
    exists Iv.sat_ok
  have n2 : ∀ τ : Store, newL false (O.map fun o => D.str o.w) τ = .ok (.lst ((O.map (·.w)).map D.str)) τ := fun τ => by rw [newL_f (by rw [List.length_map, lim_v]; omega), List.map_map]; rfl
  exists n2, r_asc (pr := pr) (k := k) h.os (by rw [List.length_map]; omega) (by omega), leave_same
/-- Book(kinds, openings) -/
theorem r_book {K : List (Str × Nat)} {O : List Op} (h : BookOk K O) (hk : 7 ≤ k) : callK pr k 56 [.ref σ.length, .tup (K.map mkd), .tup (O.map Op.d)] (σ ++ [.obj "Book" []]) = .ok .non (σ ++ [bookC K O]) := by
  obtain ⟨k, rfl⟩ : ∃ j, k = j + 1 := ⟨k - 1, by omega⟩
  rw [callK_run BookP.Book_init rfl]
  unfold c_Book_init
  have d1 : ∀ τ, biD .dict false (.tup (K.map mkd)) τ = .ok (cnt K) τ := fun τ => by
    rw [dict_L (kf := fun p : Str × Nat => p.1) (vf := fun p => D.int p.2) (g := mkd) (fun _ => rfl) h.ks.nd]; rfl
  have o1 : ∀ τ, callK pr k 54 [cnt K, .tup (O.map Op.d)] τ = .ok (.bl true) τ := fun τ => r_openings h (by omega)
  have k1 : ∀ τ, callK pr k 49 [.tup (K.map mkd)] τ = .ok (.bl true) τ := fun τ => r_kinds h (by omega)
  exists k1, o1, d1
  have hl := h.ol
  rw [dcomp_L (kf := fun o : Op => o.w) (vf := fun o : Op => D.tup (o.ns.map Nd.d)) (g := Op.d) O [] (fun o ho => ⟨_, rfl, ?_, ?_⟩) (by rw [List.length_nil]; omega) (by simpa using inr_nodup (kf := fun o : Op => o.w) h.os.nd)]
  · exists List.map_map
    rw [leave_len (by simp)]
    rfl
  · unfold Op.d; exists Iv.sat_ok
  · unfold Op.d; exists Iv.sat_ok
end
theorem eqv_non : ∀ d : D, D.sim true d = true → PyData.eqv d.py .none = isNonD d
  | .non, _ => rfl
  | .bl _, _ => rfl
  | .int _, _ => rfl
  | .str _, _ => rfl
  | .tup _, _ => rfl
  | .lst _, _ => rfl
theorem in_non {n w : Nat} {xs : List D} (h : ∀ x ∈ xs, Fine n w x) (hn : n ≤ 50) (τ : Store) : cmpD .isin .non (.lst xs) τ = .ok (.bl (xs.any isNonD)) τ := by
  have c1 : cmpable .non = true := by decide +kernel
  have c2 := (fine_lst h).cm (by omega)
  show (if cmpable .non && cmpable (.lst xs) then Res.ok (D.bl (xs.any fun y => PyData.eqv y.py (D.non).py)) τ else .bad) = _
  rw [c1, c2]
  have key : ∀ xs : List D, (∀ x ∈ xs, Fine n w x) → xs.any (fun y => PyData.eqv y.py .none) = xs.any isNonD := by
    intro xs
    induction xs with
    | nil => intro _; rfl
    | cons x r ih => intro h; rw [List.any_cons, List.any_cons, ih fun y hy => h y (List.mem_cons_of_mem _ hy), eqv_non x (h x List.mem_cons_self).1]
  show Res.ok (D.bl (xs.any fun y => PyData.eqv y.py .none)) τ = _
  rw [key xs h]
def optD : Option Th → D
  | none => .non
  | some t => t.d
/-- what a need asks for -/
def insB (c : Str) (o : Option Th) : Option Th := match o with
  | some (.node c' (p :: _)) => if c' = c then some p else none
  | _ => none
def want (n : Nd) (ps : List Th) : Option Th := match n with
  | .part j => ps[j]?
  | .around c j => ps[j]?.map fun t => .node c [t]
  | .inside j c => insB c ps[j]?
section
variable {c c' x : Str} {j : Nat} {ps r : List Th} {p t : Th}
theorem want_p : want (.part j) ps = ps[j]? := (rfl)
theorem want_a : want (.around c j) ps = ps[j]?.map fun t => .node c [t] := (rfl)
theorem want_i : want (.inside j c) ps = insB c ps[j]? := (rfl)
theorem insB_n : insB c none = none := (rfl)
theorem insB_l : insB c (some (.leaf x)) = none := (rfl)
theorem insB_c : insB c (some (.node c' (p :: r))) = if c' = c then some p else none := (rfl)
theorem insB_0 : insB c (some (.node c' [])) = none := (rfl)
theorem optD_n : optD none = .non := (rfl)
theorem optD_s : optD (some t) = t.d := (rfl)
end
theorem atS {α : Type} {x : α} {xs : List α} {j : Nat} (h : j < xs.length) : atI (x :: xs) (1 + (j : Int)) = some xs[j] := by
  have e : (1 : Int) + (j : Int) = ((j + 1 : Nat) : Int) := by omega
  rw [e, atI_natG (n := j + 1) (by rw [List.length_cons]; omega)]; rfl
theorem isn_th {t : Th} : isNonD t.d = false := by cases t <;> rfl
def Nd.at (n : Nd) : Nat := match n with
  | .part j => j
  | .around _ j => j
  | .inside j _ => j
theorem Nd.okIn.at_lt {n : Nd} {K : List (Str × Nat)} {m : Nat} (h : n.okIn K m) : n.at < m := by
  cases n with
  | part j => exact h
  | around c j => exact h.2
  | inside j c => exact h.1
theorem want_fine {n : Nd} {ps : List Th} {K : List (Str × Nat)} (hK : ∀ p ∈ K, gd p.1 = true) {m : Nat} (hn : n.okIn K m) (hp : ∀ t ∈ ps, t.ok = true ∧ t.dp ≤ 20 ∧ t.sz ≤ 100) : Fine 22 30000 (optD (want n ps)) := by
  have fn : Fine 22 30000 .non := (fine_non (n := 22)).le (by omega) (by omega)
  have hg : ∀ (j : Nat) (t : Th), ps[j]? = some t → t.ok = true ∧ t.dp ≤ 20 ∧ t.sz ≤ 100 := fun j t h => hp t (List.mem_of_getElem? h)
  cases n with
  | part j =>
    have := hg j
    rw [want_p]
    generalize ps[j]? = o at this
    cases o with
    | none => exact fn
    | some t =>
      have := this t rfl
      exact fine_th (n := 22) (w := 30000) this.1 (by omega) (by omega)
  | around c j =>
    have := hg j
    rw [want_a]
    generalize ps[j]? = o at this
    cases o with
    | none => exact fn
    | some t =>
      have := this t rfl
      show Fine 22 30000 (Th.node c [t]).d
      rw [d_node]
      exact (fine_tup (n := 20) (w := 10000) (all2 ((fine_str (n := 20) (hK _ hn.1)).le (by omega) (by omega)) (fine_th this.1 (by omega) (by omega)))).le (by omega) (by simp)
  | inside j c =>
    have := hg j
    rw [want_i]
    generalize ps[j]? = o at this
    cases o with
    | none => exact fn
    | some t =>
      have := this t rfl
      cases t with
      | leaf x => exact fn
      | node c' qs =>
        cases qs with
        | nil => exact fn
        | cons p r =>
          rw [insB_c]
          obtain ⟨h0, h2, h3⟩ := this
          have h1 : p.ok = true := by
            unfold Th.ok at h0
            exact oks_mem (Bool.and_eq_true_iff.mp h0).2 List.mem_cons_self
          rw [Th.dp, Th.dps] at h2
          rw [Th.sz, Th.szs] at h3
          split
          · exact fine_th (n := 22) (w := 30000) h1 (by omega) (by omega)
          · exact fn
section
variable {pr : List Fd} [BookP pr] {k : Nat} {σ : Store}
theorem r_needed_by {n : Nd} {w : Str} {ps : List Th} (h : n.at < ps.length) (ho : ∀ t ∈ ps, t.ok = true) (hk : 1 ≤ k) : callK pr k 55 [n.d, (Th.node w ps).d] σ = .ok (optD (want n ps)) σ := by
  obtain ⟨k, rfl⟩ : ∃ j, k = j + 1 := ⟨k - 1, by omega⟩
  rw [callK_run BookP.needed_by rfl]
  unfold c_needed_by
  rw [d_node]
  cases n with
  | part j =>
    have h : j < ps.length := h
    rw [Nd.d]
    exists atS (x := D.str w) (xs := ps.map Th.d) (j := j) (by rw [List.length_map]; exact h), leave_same
    rw [want_p, List.getElem?_eq_getElem h, List.getElem_map]
    rfl
  | around c j =>
    have h : j < ps.length := h
    rw [Nd.d]
    exists atS (x := D.str w) (xs := ps.map Th.d) (j := j) (by rw [List.length_map]; exact h), leave_same
    rw [want_a, List.getElem?_eq_getElem h, List.getElem_map]
    show _ = Res.ok (Th.node c [ps[j]]).d σ
    rw [d_node]; rfl
  | inside j c =>
    have h : j < ps.length := h
    rw [Nd.d]
    exists atS (x := D.str w) (xs := ps.map Th.d) (j := j) (by rw [List.length_map]; exact h), leave_same
    rw [want_i, List.getElem?_eq_getElem h, List.getElem_map]
    have ht := ho _ (List.getElem_mem h)
    generalize ps[j] = t at ht
    cases t with
    | leaf x =>
      rw [d_leaf]
      exists leave_same
      rfl
    | node c' qs =>
      unfold Th.ok at ht
      cases qs with
      | nil => simp at ht
      | cons q r =>
        rw [d_node]
        by_cases e : c' = c
        · exists decide_eq_true e, leave_same
          rw [insB_c, if_pos e]; rfl
        · exists decide_eq_false e, leave_same
          rw [insB_c, if_neg e]; rfl
/-- what an opening needs -/
def dueD (ns : List Nd) (ps : List Th) : D := if ns.any (fun n => isNonD (optD (want n ps))) then .non else .tup (ns.map fun n => optD (want n ps))
theorem nbo_at {O : List Op} (h : (O.map (·.w)).Nodup) {o : Op} (ho : o ∈ O) {τ : Store} : idxD (nbo O) (.str o.w) τ = .ok (.tup (o.ns.map Nd.d)) τ := by
  unfold nbo
  rw [i_dics, look_mem (kf := fun o : Op => o.w) (vf := fun o : Op => D.tup (o.ns.map Nd.d)) h ho]; rfl
theorem r_needed {K : List (Str × Nat)} {O : List Op} (hb : BookOk K O) {i : Nat} (hi : σ[i]? = some (bookC K O)) {o : Op} (ho : o ∈ O) {ps : List Th} (hp : (o.kd, ps.length) ∈ K) (hps : ∀ t ∈ ps, t.ok = true ∧ t.dp ≤ 20 ∧ t.sz ≤ 100) (hk : 2 ≤ k) :
    callK pr k 62 [.ref i, .str o.w, (Th.node o.kd ps).d] σ = .ok (dueD o.ns ps) σ := by
  obtain ⟨k, rfl⟩ : ∃ j, k = j + 1 := ⟨k - 1, by omega⟩
  rw [callK_run BookP.Book_needed rfl]
  unfold c_Book_needed
  unfold bookC at hi
  obtain ⟨_, _, m, h3, h4, h5, h6⟩ := hb.ow o ho
  have hm : m = ps.length := by
    have := cnt_at hb.ks.nd h3
    rw [cnt_at hb.ks.nd hp] at this
    injection this with this
    injection this with this
    omega
  subst hm
  have hf : ∀ n ∈ o.ns, Fine 22 30000 (optD (want n ps)) := fun n hn => want_fine (fun p hp => wd_gd (hb.kw p hp).1) (h6 n hn) hps
  exists hi, nbo_at hb.os.nd ho
  rw [comp_m Nd.d (fun n => optD (want n ps)) (fun n hn' => ⟨_, rfl, ?_⟩) (by rw [lim_v]; omega)]
  rotate_left
  · exists r_needed_by (pr := pr) (k := k) (n := n) (w := o.kd) (ps := ps) (h6 n hn').at_lt (fun t ht => (hps t ht).1) (by omega)
  have n1 : ∀ τ : Store, newL false (o.ns.map fun n => optD (want n ps)) τ = .ok (.lst (o.ns.map fun n => optD (want n ps))) τ := fun τ => newL_f (by rw [List.length_map, lim_v]; omega)
  have n2 : ∀ τ : Store, newT (o.ns.map fun n => optD (want n ps)) τ = .ok (.tup (o.ns.map fun n => optD (want n ps))) τ := fun τ => newT_ok (by rw [List.length_map, lim_v]; omega)
  have c1 := in_non (xs := o.ns.map fun n => optD (want n ps)) (allm hf) (by decide)
  rw [List.any_map] at c1
  unfold dueD
  cases hE : o.ns.any ((fun d => isNonD d) ∘ fun n => optD (want n ps)) with
  | true =>
    have c1 : ∀ τ, cmpD .isin .non (.lst (o.ns.map fun n => optD (want n ps))) τ = .ok (.bl true) τ := fun τ => by rw [← hE]; exact c1 τ
    exists n1, c1, leave_same
    rw [if_pos (show (o.ns.any fun n => isNonD (optD (want n ps))) = true from hE)]
  | false =>
    have c1 : ∀ τ, cmpD .isin .non (.lst (o.ns.map fun n => optD (want n ps))) τ = .ok (.bl false) τ := fun τ => by rw [← hE]; exact c1 τ
    exists n1, c1, n2, leave_same
    rw [if_neg (show ¬ (o.ns.any fun n => isNonD (optD (want n ps))) = true from by rw [Bool.not_eq_true]; exact hE)]
end
/-- the book of the document -/
def stK : List (Str × Nat) := [("half", 1), ("lock", 2), ("mark", 1), ("pair", 2), ("seal", 2), ("sign", 2)]
def stO : List Op := [⟨"first", "pair", 0, []⟩, ⟨"open", "lock", 0, [.part 1]⟩, ⟨"second", "pair", 1, []⟩, ⟨"shown", "sign", 0, []⟩, ⟨"signed", "sign", 0, [.around "half" 1]⟩, ⟨"unseal", "seal", 0, [.inside 1 "half"]⟩]
theorem stOk : BookOk stK stO := by
  have hw : ∀ p ∈ stK, wd p.1 = true ∧ 1 ≤ p.2 ∧ p.2 ≤ 3 := by decide +kernel
  have hks : Asc (stK.map (·.1)) := by unfold Asc; decide +kernel
  have how : ∀ o ∈ stO, wd o.w = true ∧ o.w ∉ stK.map (·.1) := by decide +kernel
  have hos : Asc (stO.map (·.w)) := by unfold Asc; decide +kernel
  refine ⟨by decide, by decide, hw, hks, by decide, fun o ho => ⟨(how o ho).1, (how o ho).2, ?_⟩, hos⟩
  have m : ∀ i, i < 6 → ∀ p, stK[i]? = some p → p ∈ stK := fun i _ p h => List.mem_of_getElem? h
  unfold stO at ho
  simp only [List.mem_cons, List.not_mem_nil, or_false] at ho
  rcases ho with rfl | rfl | rfl | rfl | rfl | rfl
  · exact ⟨2, m 3 (by decide) _ rfl, by decide, by decide, fun n hn => by cases hn⟩
  · exact ⟨2, m 1 (by decide) _ rfl, by decide, by decide, fun n hn => by rw [List.mem_singleton] at hn; subst hn; exact (by decide : 1 < 2)⟩
  · exact ⟨2, m 3 (by decide) _ rfl, by decide, by decide, fun n hn => by cases hn⟩
  · exact ⟨2, m 5 (by decide) _ rfl, by decide, by decide, fun n hn => by cases hn⟩
  · exact ⟨2, m 5 (by decide) _ rfl, by decide, by decide, fun n hn => by rw [List.mem_singleton] at hn; subst hn; exact ⟨m 0 (by decide) _ rfl, by decide⟩⟩
  · exact ⟨2, m 4 (by decide) _ rfl, by decide, by decide, fun n hn => by rw [List.mem_singleton] at hn; subst hn; exact ⟨by decide, m 0 (by decide) _ rfl⟩⟩
section
variable {pr : List Fd} [WordP pr] [BookP pr] {k : Nat} {σ : Store}
theorem r_std (hk : 8 ≤ k) : callK pr k 63 [] σ = .ok (.ref σ.length) (σ ++ [bookC stK stO]) := by
  obtain ⟨k, rfl⟩ : ∃ j, k = j + 1 := ⟨k - 1, by omega⟩
  rw [callK_run BookP.standard_book rfl]
  unfold c_standard_book
  have nt6 : ∀ (a b c d e f : D) (τ : Store), newT [a, b, c, d, e, f] τ = .ok (.tup [a, b, c, d, e, f]) τ := fun a b c d e f τ => newT_ok (by simp [lim_v])
  have hb := r_book (pr := pr) (k := k) (σ := σ) stOk (by omega)
  have hb' := hb
  simp only [stK, stO, x_map1, x_map0, mkd, Op.d, Nd.d, Int.cast_ofNat_Int] at hb'
  exists nt6, hb'
  exact leave_new (Nat.le_refl _)
end
end Iv

set_option Elab.async false
set_option linter.all false
set_option maxHeartbeats 4000000
set_option maxRecDepth 20000
/-! drawn parts of books and drawn things (laws k02 to k12, k58 to k61) -/
namespace Iv
open PySem L2
def b_pickA : Fd := ⟨2, 2, [.ret (.idx (.loc 1) (.call 13 [.loc 0, .bi .len false (.loc 1)] [] [] [0, 1]))]⟩
def b_needA : Fd := ⟨3, 6, [.par 4 5 (.call 13 [.loc 0, .int 3] [] [] [0, 1]) (.call 13 [.loc 0, .loc 2] [] [] [0, 1]), .ite (.or (.cmp .eq (.loc 4) (.int 0)) (.cmp .eq (.loc 1) (.lst false []))) [.ret (.tup [.str "part", .loc 5])] [], .asg (.nm 3) (.call 14 [.loc 0, .loc 1] [] [] [0, 1]), .ret (.ite (.cmp .eq (.loc 4) (.int 1)) (.tup [.str "around", .loc 3, .loc 5]) (.tup [.str "inside", .loc 5, .loc 3]))]⟩
def b_kitA : Fd := ⟨1, 9, [.par 2 4 (.lst true []) (.lst true []), .for (.nm 1) .on [.lst false [.str "box", .str "half", .str "lock", .str "mark", .str "pair", .str "q", .str "seal", .str "zzzzzzzz"]] [.ite (.cmp .eq (.call 13 [.loc 0, .int 2] [] [] [0, 1]) (.int 0)) [.exp (.me .append (.loc 2) [.tup [.loc 1, .bin .add (.int 1) (.call 13 [.loc 0, .int 3] [] [] [0, 1])]])] []], .frz 2, .asg (.nm 2) (.ite (.cmp .ne (.loc 2) (.lst false [])) (.loc 2) (.lst false [.tup [.str "half", .int 1]])), .asg (.nm 3) (.comp false [1, 6] (.tup [1, 6]) .on [.loc 2] (.cmp .eq (.loc 6) (.int 1)) (.loc 1)), .for (.nm 1) .on [.lst false [.str "ahead", .str "first", .str "look", .str "open", .str "second", .str "undo"]] [.ite (.cmp .eq (.call 13 [.loc 0, .int 2] [] [] [0, 1]) (.int 0)) [.asg (.tup [7, 6]) (.call 14 [.loc 0, .loc 2] [] [] [0, 1]), .asg (.nm 5) (.bi .tuple false (.comp false [8] (.nm 8) .rng [.call 13 [.loc 0, .int 3] [] [] [0, 1]] (.bl true) (.call 15 [.loc 0, .loc 3, .loc 6] [] [] [0, 1, 2]))), .exp (.me .append (.loc 4) [.tup [.loc 1, .loc 7, .call 13 [.loc 0, .loc 6] [] [] [0, 1], .loc 5]])] []], .frz 4, .ret (.tup [.bi .tuple false (.loc 2), .bi .tuple false (.loc 4)])]⟩
def b_thingA : Fd := ⟨5, 13, [.asg (.nm 5) (.comp false [12] (.nm 12) .on [.loc 1] (.and (.cmp .lt (.idx (.loc 12) (.int 1)) (.loc 3)) (.cmp .gt (.loc 4) (.int 0))) (.loc 12)), .ite (.or (.cmp .eq (.loc 5) (.lst false [])) (.cmp .eq (.call 13 [.loc 0, .int 4] [] [] [0, 1]) (.int 0))) [.ret (.call 14 [.loc 0, .loc 2] [] [] [0, 1])] [], .asg (.tup [7, 8]) (.call 14 [.loc 0, .loc 5] [] [] [0, 1]), .par 9 10 (.tup [.loc 7]) (.bin .sub (.loc 3) (.int 1)), .for (.nm 6) .rng [.loc 8] [.asg (.nm 11) (.bin .add (.int 1) (.call 13 [.loc 0, .bin .sub (.loc 10) (.bin .sub (.bin .sub (.loc 8) (.loc 6)) (.int 1))] [] [] [0, 1])), .par 9 10 (.bin .add (.loc 9) (.tup [.call 17 [.loc 0, .loc 1, .loc 2, .loc 11, .bin .sub (.loc 4) (.int 1)] [] [] [0, 1, 2, 3, 4]])) (.bin .sub (.loc 10) (.loc 11))], .ret (.loc 9)]⟩
/-- the drawing functions, at their numbers -/
class DrawA (pr : List Fd) : Prop where
  draw : ∃ a b c, pr[13]? = some (mkDrawA a b c)
  pick : pr[14]? = some b_pickA
class KitA (pr : List Fd) : Prop extends DrawA pr where
  need : pr[15]? = some b_needA
  kit : pr[16]? = some b_kitA
  thing : pr[17]? = some b_thingA
theorem Drawn.elim {δ : Dk} {X : Store} {m : Nat} {P : D → Prop} {r : Res D} (h : Drawn δ X m P r) : ∃ d δ', r = .ok d (S δ' ++ X) ∧ P d ∧ δ'.ok m := by
  obtain ⟨d, σ, e, hp, δ', hδ, rfl⟩ := Res.sat.ex h
  exact ⟨d, δ', e, hp, hδ⟩
theorem Drawn.of {δ δ' : Dk} {X : Store} {m : Nat} {P : D → Prop} {r : Res D} {d : D} (e : r = .ok d (S δ' ++ X)) (hp : P d) (hδ : δ'.ok m) : Drawn δ X m P r := by
  unfold Drawn; rw [e, sat_ok]; exact ⟨hp, δ', hδ, rfl⟩
section
variable {pr : List Fd} [DrawA pr]
theorem g_draw {k m n : Nat} (hk : 1 ≤ k) (hb : 0 < m) (hb2 : m < 1073741824) {δ : Dk} (hδ : δ.ok n) (hn : n < 1000000000) (X : Store) :
    ∃ (r : Nat) (δ' : Dk), r < m ∧ δ'.ok (n + 1) ∧ callK pr k 13 [.ref 1, .int m] (S δ ++ X) = .ok (.int r) (S δ' ++ X) := by
  obtain ⟨a, b, c, hi⟩ := DrawA.draw (pr := pr)
  obtain ⟨d, δ', e, ⟨r, hr, rfl⟩, hδ'⟩ := (w_draw hi hk hb hb2 hδ hn (X := X)).elim
  exact ⟨r, δ', hr, hδ', e⟩
theorem g_pick {k n : Nat} {xs : List D} (hk : 2 ≤ k) (hx : xs ≠ []) (hl : xs.length ≤ 1000) {δ : Dk} (hδ : δ.ok n) (hn : n < 1000000000) (X : Store) :
    ∃ (d : D) (δ' : Dk), d ∈ xs ∧ δ'.ok (n + 1) ∧ callK pr k 14 [.ref 1, .lst xs] (S δ ++ X) = .ok d (S δ' ++ X) := by
  obtain ⟨k, rfl⟩ : ∃ j, k = j + 1 := ⟨k - 1, by omega⟩
  have hp : 0 < xs.length := List.length_pos_iff.mpr hx
  obtain ⟨r, δ', h1, h2, h3⟩ := g_draw (pr := pr) (k := k) (by omega) hp (by omega) hδ hn X
  refine ⟨xs[r], δ', List.getElem_mem h1, h2, ?_⟩
  rw [callK_run DrawA.pick rfl]
  unfold b_pickA
  exists h3, atI_nat h1, leave_S0
end

def wordsK : List Str := ["box", "half", "lock", "mark", "pair", "q", "seal", "zzzzzzzz"]
def wordsO : List Str := ["ahead", "first", "look", "open", "second", "undo"]
theorem mkd_nil {MK : List (Str × Nat)} (h : ∀ p ∈ MK, gd p.1 = true) {τ : Store} : cmpD .eq (.lst (MK.map mkd)) (.lst []) τ = .ok (.bl MK.isEmpty) τ := by
  have := c_eqnil (b := false) (x := .lst (MK.map mkd)) (σ := τ) rfl (sims_map fun p hp => (mkd_sim (h p hp)).1) (Nat.le_trans (dps_map (n := 1) fun p hp => (mkd_sim (h p hp)).2) (by decide))
  rwa [map_isEmpty] at this
section
variable {pr : List Fd} [KitA pr]
def OneOf (MK : List (Str × Nat)) (LS : List Str) (top deep : Nat) (d : D) : Prop := ∃ t : Th, d = t.d ∧ t.of MK LS ∧ t.sz ≤ top ∧ t.dp ≤ deep
theorem w_thing {MK : List (Str × Nat)} {LS : List Str} (hM : MkOk MK) (hL : LsOk LS) : ∀ (deep k top n : Nat) (δ : Dk) (X : Store), deep + 3 ≤ k → deep ≤ 20 → 1 ≤ top → top ≤ 100 → δ.ok n → n + 5 * top < 1000000000 →
    Drawn δ X (n + 5 * top) (OneOf MK LS top deep) (callK pr k 17 [.ref 1, .tup (MK.map mkd), .lst (LS.map D.str), .int top, .int deep] (S δ ++ X)) := by
  intro deep
  induction deep using Nat.strongRecOn with
  | ind deep ih =>
    intro k top n δ X hk hd ht1 ht2 hδ hn
    obtain ⟨k, rfl⟩ : ∃ j, k = j + 1 := ⟨k - 1, by omega⟩
    have hM1 := hM.1
    have hL1 := hL.1
    -- a leaf
    have leaf : ∀ (δ1 : Dk) (m : Nat), δ1.ok m → m ≤ n + 1 → ∃ (x : Str) (δ' : Dk), x ∈ LS ∧ δ'.ok (n + 5 * top) ∧ callK pr k 14 [.ref 1, .lst (LS.map D.str)] (S δ1 ++ X) = .ok (.str x) (S δ' ++ X) := by
      intro δ1 m h1 h2
      obtain ⟨d, δ', g1, g2, g3⟩ := g_pick (pr := pr) (k := k) (xs := LS.map D.str) (by omega) (by simpa using hL.2.1) (by rw [List.length_map]; omega) h1 (by omega) X
      obtain ⟨x, hx, rfl⟩ := List.mem_map.mp g1
      exact ⟨x, δ', hx, g2.le (by omega), g3⟩
    have isleaf : ∀ x ∈ LS, OneOf MK LS top deep (.str x) := fun x hx => ⟨.leaf x, by rw [Th.d], by rw [Th.of]; exact hx, by rw [Th.sz]; exact ht1, by rw [Th.dp]; exact Nat.zero_le _⟩
    unfold Drawn
    rw [callK_run KitA.thing rfl]
    unfold b_thingA
    exists Iv.sat_ok
    rw [compL_fT mkd (fun p => decide ((p.2 : Int) < top) && decide ((0 : Int) < deep)) mkd (fun p hp => ?_) (by rw [lim_v, List.length_nil]; omega)]
    rotate_left
    · refine ⟨_, rfl, ?_, ?_⟩
      · by_cases e : (p.2 : Int) < top
        · exists mkd_1, decide_eq_true e, Bool.true_and
        · exists mkd_1, decide_eq_false e, Bool.false_and
      · intro _
        exists Iv.sat_ok
    have hfl := List.length_filter_le (fun p : Str × Nat => decide ((p.2 : Int) < top) && decide ((0 : Int) < deep)) MK
    generalize hF : MK.filter (fun p => decide ((p.2 : Int) < top) && decide ((0 : Int) < deep)) = F
    rw [hF] at hfl
    have hFm : ∀ p ∈ F, p ∈ MK ∧ p.2 < top ∧ 0 < deep := fun p hp => by
      rw [← hF] at hp
      obtain ⟨a, b⟩ := List.mem_filter.mp hp
      rw [Bool.and_eq_true, decide_eq_true_eq, decide_eq_true_eq] at b
      exact ⟨a, by omega, by omega⟩
    have hnF : ∀ τ : Store, newL false (F.map mkd) τ = .ok (.lst (F.map mkd)) τ := fun τ => newL_f (by rw [List.length_map, lim_v]; omega)
    have hnil : ∀ τ : Store, cmpD .eq (.lst (F.map mkd)) (.lst []) τ = .ok (.bl F.isEmpty) τ := fun τ => mkd_nil fun p hp => (hM.2 p (hFm p hp).1).1
    cases hE : F.isEmpty with
    | true =>
      obtain ⟨x, δ', h1, h2, h3⟩ := leaf δ n hδ (by omega)
      exists hnF, hnil, hE, h3, leave_S0
      exact ⟨isleaf x h1, δ', h2, rfl⟩
    | false =>
      obtain ⟨r, δ1, g1, g2, g3⟩ := g_draw (pr := pr) (k := k) (m := 4) (by omega) (by omega) (by omega) hδ (by omega) X
      have g3 : callK pr k 13 [.ref 1, .int 4] (S δ ++ X) = .ok (.int r) (S δ1 ++ X) := g3
      by_cases hr : (r : Int) = 0
      · obtain ⟨x, δ', h1, h2, h3⟩ := leaf δ1 (n + 1) g2 (by omega)
        exists hnF, hnil, hE, g3, decide_eq_true hr, h3, leave_S0
        exact ⟨isleaf x h1, δ', h2, rfl⟩
      · have hFn : F ≠ [] := fun e => by rw [e] at hE; cases hE
        obtain ⟨d, δ2, q1, q2, q3⟩ := g_pick (pr := pr) (k := k) (xs := F.map mkd) (by omega) (by simpa using hFn) (by rw [List.length_map]; omega) g2 (by omega) X
        obtain ⟨⟨w, m⟩, hp, rfl⟩ := List.mem_map.mp q1
        obtain ⟨hp1, hp2, hp3⟩ := hFm _ hp
        obtain ⟨hg, hm1, hm2⟩ := hM.2 _ hp1
        dsimp only at hp2 hm1 hm2 hg
        have tg : ∀ ρ : Iv.Env, tgD (.tup [7, 8]) (mkd (w, m)) ρ = some ((ρ.set 7 (some (.str w))).set 8 (some (.int m))) := fun ρ => rfl
        have e5 : (top : Int) - 1 = ((top - 1 : Nat) : Int) := by omega
        have e6 : (deep : Int) - 1 = ((deep - 1 : Nat) : Int) := by omega
        exists hnF, hnil, hE, g3, decide_eq_false hr, q3, tg, e5
        rw [it_rngN (by omega)]
        exists Iv.sat_ok
        refine fsat (osat_range (fun i ρ σ => ∃ (ps : List Th) (L : Nat) (δ' : Dk) (y z : Option D), ρ = [some (.ref 1), some (.tup (MK.map mkd)), some (.lst (LS.map D.str)), some (.int top), some (.int deep), some (.lst (F.map mkd)), z, some (.str w), some (.int m), some (.tup (.str w :: ps.map Th.d)), some (.int L), y, none] ∧ σ = S δ' ++ X ∧
          ps.length = i ∧ Th.ofs MK LS ps ∧ Th.dps ps ≤ deep - 1 ∧ Th.szs ps + L ≤ top - 1 ∧ m - i ≤ L ∧ δ'.ok (n + 2 + i + 5 * (top - 1 - L)) ∧ L ≤ top - 1) ?_ ?_ ?_)
        · refine ⟨[], top - 1, δ2, none, none, rfl, rfl, rfl, by rw [Th.ofs]; trivial, by rw [Th.dps]; omega, by rw [Th.szs]; omega, by omega, q2.le (by omega), by omega⟩
        · rintro i hi ρ σ ⟨ps, L, δ', y, z, rfl, rfl, hl, h1, h2, h3, h4, h5, h6⟩
          refine ⟨_, rfl, ?_⟩
          have e7 : ((L : Nat) : Int) - (((m : Nat) : Int) - (i : Int) - 1) = ((L - (m - i - 1) : Nat) : Int) := by omega
          obtain ⟨r1, δ3, a1, a2, a3⟩ := g_draw (pr := pr) (k := k) (m := L - (m - i - 1)) (by omega) (by omega) (by omega) h5 (by omega) X
          have e8 : (1 : Int) + (r1 : Int) = ((r1 + 1 : Nat) : Int) := by omega
          have e9 : (L : Int) - ((r1 + 1 : Nat) : Int) = ((L - (r1 + 1) : Nat) : Int) := by omega
          obtain ⟨d, δ4, b1, ⟨t, rfl, t1, t2, t3⟩, b3⟩ := (ih (deep - 1) (by omega) k (r1 + 1) (n + 2 + i + 5 * (top - 1 - L) + 1) δ3 X (by omega) (by omega) (by omega) (by omega) a2 (by omega)).elim
          have n1 : ∀ τ : Store, newT (.str w :: (ps.map Th.d ++ [t.d])) τ = .ok (.tup (.str w :: (ps.map Th.d ++ [t.d]))) τ := fun τ => newT_ok (by simp [lim_v]; omega)
          exists e7, a3, e8, e6, b1, e9, n1
          exact ⟨ps ++ [t], L - (r1 + 1), δ4, _, _, by rw [List.map_append]; rfl, rfl, by simp [hl], ofs_app h1 (by rw [Th.ofs, Th.ofs]; exact ⟨t1, trivial⟩), by rw [dps_app, Th.dps, Th.dps]; omega, by rw [szs_app, Th.szs, Th.szs]; omega, by omega, b3.le (by omega), by omega⟩
        · rintro ρ σ ⟨ps, L, δ', y, z, rfl, rfl, hl, h1, h2, h3, h4, h5, h6⟩
          exists leave_S0
          refine ⟨⟨.node w ps, by rw [d_node], by rw [Th.of, hl]; exact ⟨hp1, h1⟩, by rw [Th.sz]; omega, by rw [Th.dp]; omega⟩, δ', h5.le (by omega), rfl⟩
end

/-- the parts of a drawn book -/
structure KitOk (MK : List (Str × Nat)) (OS : List Op) : Prop where
  ne : MK ≠ []
  mw : (MK.map (·.1)).Sublist wordsK
  mn : ∀ p ∈ MK, 1 ≤ p.2 ∧ p.2 ≤ 3
  ow : (OS.map (·.w)).Sublist wordsO
  oo : ∀ o ∈ OS, o.okIn MK
theorem wordsK_gd : ∀ x ∈ wordsK, gd x = true := by decide +kernel
theorem KitOk.mkOk {MK : List (Str × Nat)} {OS : List Op} (h : KitOk MK OS) : MkOk MK := by
  refine ⟨?_, fun p hp => ⟨wordsK_gd _ (h.mw.subset (List.mem_map_of_mem hp)), h.mn p hp⟩⟩
  have := h.mw.length_le
  rw [List.length_map] at this
  have e : wordsK.length = 8 := rfl
  omega
theorem strs_nil {xs : List Str} (h : ∀ x ∈ xs, gd x = true) {τ : Store} : cmpD .eq (.lst (xs.map D.str)) (.lst []) τ = .ok (.bl xs.isEmpty) τ := by
  have := c_eqnil (b := false) (x := .lst (xs.map D.str)) (σ := τ) rfl (sims_map fun p hp => by unfold D.sim; exact strok (h p hp)) (Nat.le_trans (dps_map (n := 0) fun p hp => by unfold D.dp; exact Nat.le_refl _) (by decide))
  rwa [map_isEmpty] at this
section
variable {pr : List Fd} [KitA pr]
theorem g_need {k n m : Nat} (hk : 3 ≤ k) {MK : List (Str × Nat)} {SG : List Str} (hS : SG.length ≤ 20) (hg : ∀ c ∈ SG, gd c = true ∧ (c, 1) ∈ MK) (hm : 1 ≤ m) (hm2 : m ≤ 3) {δ : Dk} (hδ : δ.ok n) (hn : n + 3 < 1000000000) (X : Store) :
    ∃ (nd : Nd) (δ' : Dk), nd.okIn MK m ∧ δ'.ok (n + 3) ∧ callK pr k 15 [.ref 1, .lst (SG.map D.str), .int m] (S δ ++ X) = .ok nd.d (S δ' ++ X) := by
  obtain ⟨k, rfl⟩ : ∃ j, k = j + 1 := ⟨k - 1, by omega⟩
  rw [callK_run KitA.need rfl]
  unfold b_needA
  obtain ⟨r, δ1, g1, g2, g3⟩ := g_draw (pr := pr) (k := k) (m := 3) (by omega) (by omega) (by omega) hδ (by omega) X
  have g3 : callK pr k 13 [.ref 1, .int 3] (S δ ++ X) = .ok (.int r) (S δ1 ++ X) := g3
  obtain ⟨j, δ2, j1, j2, j3⟩ := g_draw (pr := pr) (k := k) (m := m) (by omega) (by omega) (by omega) g2 (by omega) X
  have hnil : ∀ τ : Store, cmpD .eq (.lst (SG.map D.str)) (.lst []) τ = .ok (.bl SG.isEmpty) τ := fun τ => strs_nil fun c hc => (hg c hc).1
  by_cases hr : (r : Int) = 0
  · refine ⟨.part j, δ2, j1, j2.le (by omega), ?_⟩
    exists g3, j3, decide_eq_true hr, leave_S0
    rfl
  · cases hE : SG.isEmpty with
    | true =>
      refine ⟨.part j, δ2, j1, j2.le (by omega), ?_⟩
      exists g3, j3, decide_eq_false hr, hnil, hE, leave_S0
      rfl
    | false =>
      have hne : SG ≠ [] := fun e => by rw [e] at hE; cases hE
      obtain ⟨d, δ3, q1, q2, q3⟩ := g_pick (pr := pr) (k := k) (xs := SG.map D.str) (by omega) (by simpa using hne) (by rw [List.length_map]; omega) j2 (by omega) X
      obtain ⟨c, hc, rfl⟩ := List.mem_map.mp q1
      by_cases h1 : (r : Int) = 1
      · refine ⟨.around c j, δ3, ⟨(hg c hc).2, j1⟩, q2.le (by omega), ?_⟩
        exists g3, j3, decide_eq_false hr, hnil, hE, q3, decide_eq_true h1, leave_S0
        rfl
      · refine ⟨.inside j c, δ3, ⟨j1, (hg c hc).2⟩, q2.le (by omega), ?_⟩
        exists g3, j3, decide_eq_false hr, hnil, hE, q3, decide_eq_false h1, leave_S0
        rfl
/-- a comprehension whose items are drawn -/
theorem comp_draw {Φ : CallSem} {γ ι : Type} (g : ι → D) (f : γ → D) (Pg : γ → Prop) (c : Nat) {i : Nat} {elt : Ex} {ρ : Iv.Env} {X : Store} {xs : List ι} {δ : Dk} {n B : Nat} (hn : n + c * xs.length ≤ B) (hl : xs.length ≤ 1000)
    (h : ∀ x ∈ xs, ∀ (δ : Dk) (m : Nat), δ.ok m → m + c ≤ B → ∃ (y : γ) (δ' : Dk), Pg y ∧ δ'.ok (m + c) ∧ ev Φ elt (ρ.set i (some (g x))) (S δ ++ X) = .ok (f y) (S δ' ++ X)) (hδ : δ.ok n) :
    (compL (.nm i) (ev Φ (.bl true)) (ev Φ elt) ρ (xs.map g) [] (S δ ++ X)).sat fun vs σ => ∃ (ys : List γ) (δ' : Dk), vs = ys.map f ∧ σ = S δ' ++ X ∧ ys.length = xs.length ∧ (∀ y ∈ ys, Pg y) ∧ δ'.ok (n + c * xs.length) := by
  refine sat_comp g (fun r acc σ => ∃ (pre : List ι) (ys : List γ) (δ' : Dk), xs = pre ++ r ∧ acc = ys.map f ∧ σ = S δ' ++ X ∧ ys.length = pre.length ∧ (∀ y ∈ ys, Pg y) ∧ δ'.ok (n + c * pre.length)) ?_ ?_ ?_
  · exact ⟨[], [], δ, rfl, rfl, rfl, rfl, (fun y hy => by cases hy), hδ⟩
  · rintro x r acc σ ⟨pre, ys, δ', rfl, rfl, rfl, h1, h2, h3⟩
    refine ⟨_, rfl, ?_⟩
    rw [List.length_append, List.length_cons] at hl hn
    have hc : c * (pre.length + (r.length + 1)) = c * pre.length + c + c * r.length := by rw [Nat.mul_add, Nat.mul_add, Nat.mul_one]; omega
    rw [ev_bl, sat_ok]
    refine ⟨true, rfl, ?_⟩
    rw [if_pos rfl]
    obtain ⟨y, δ2, k1, k2, k3⟩ := h x (List.mem_append.mpr (.inr List.mem_cons_self)) δ' _ h3 (by omega)
    refine ⟨by rw [List.length_map, lim_v]; omega, ?_⟩
    rw [k3, sat_ok]
    refine ⟨pre ++ [x], ys ++ [y], δ2, by simp, by simp, rfl, by simp [h1], fun z hz => ?_, k2.le (by rw [List.length_append, List.length_singleton, Nat.mul_add]; omega)⟩
    rcases List.mem_append.mp hz with hz | hz
    · exact h2 z hz
    · rw [List.mem_singleton] at hz; subst hz; exact k1
  · rintro acc σ ⟨pre, ys, δ', h0, rfl, rfl, h1, h2, h3⟩
    rw [List.append_nil] at h0
    subst h0
    exact ⟨ys, δ', rfl, rfl, h1, h2, h3⟩
theorem leave_S' {δ δ' : Dk} {X Y : Store} {d : D} (h : d.under (2 + X.length) = true) : leave (S δ ++ X) d (S δ' ++ (X ++ Y)) = .ok d (S δ' ++ X) := by
  rw [← List.append_assoc]; exact leave_S h
theorem g_kit {k n : Nat} (hk : 4 ≤ k) {δ : Dk} (hδ : δ.ok n) (hn : n + 100 < 1000000000) (X : Store) :
    ∃ (MK : List (Str × Nat)) (OS : List Op) (δ' : Dk), KitOk MK OS ∧ δ'.ok (n + 100) ∧ callK pr k 16 [.ref 1] (S δ ++ X) = .ok (.tup [.tup (MK.map mkd), .tup (OS.map Op.d)]) (S δ' ++ X) := by
  obtain ⟨k, rfl⟩ : ∃ j, k = j + 1 := ⟨k - 1, by omega⟩
  have h : Drawn δ X (n + 100) (fun d => ∃ (MK : List (Str × Nat)) (OS : List Op), KitOk MK OS ∧ d = .tup [.tup (MK.map mkd), .tup (OS.map Op.d)]) (callK pr (k + 1) 16 [.ref 1] (S δ ++ X)) := by
    unfold Drawn
    rw [callK_run KitA.kit rfl]
    unfold b_kitA
    exists nlm_nil, List.append_assoc, List.length_append, S_len
    rw [show [D.str "box", .str "half", .str "lock", .str "mark", .str "pair", .str "q", .str "seal", .str "zzzzzzzz"] = wordsK.map D.str from rfl]
    refine fsat (osat_for D.str (fun r ρ σ => ∃ (pre : List Str) (MK : List (Str × Nat)) (δ' : Dk) (z : Option D), ρ = [some (.ref 1), z, some (.ref (2 + X.length)), none, some (.ref (2 + (X.length + 1))), none, none, none, none] ∧ σ = S δ' ++ (X ++ [.lst (MK.map mkd), .lst []]) ∧
      wordsK = pre ++ r ∧ (MK.map (·.1)).Sublist pre ∧ (∀ p ∈ MK, 1 ≤ p.2 ∧ p.2 ≤ 3) ∧ δ'.ok (n + 2 * pre.length)) ?_ ?_ ?_)
    · exact ⟨[], [], δ, none, rfl, rfl, rfl, List.Sublist.refl _, (fun p hp => by cases hp), hδ⟩
    · rintro x r ρ σ ⟨pre, MK, δ', z, rfl, rfl, h1, h2, h3, h4⟩
      refine ⟨_, rfl, ?_⟩
      have hl := congrArg List.length h1
      rw [List.length_append, List.length_cons] at hl
      have hl8 : wordsK.length = 8 := rfl
      have hml := h2.length_le
      rw [List.length_map] at hml
      obtain ⟨a, δ1, g1, g2, g3⟩ := g_draw (pr := pr) (k := k) (m := 2) (by omega) (by omega) (by omega) h4 (by omega) (X ++ [.lst (MK.map mkd), .lst []])
      have g3 : callK pr k 13 [.ref 1, .int 2] _ = _ := g3
      have e1 : wordsK = (pre ++ [x]) ++ r := by rw [h1]; simp
      by_cases ha : (a : Int) = 0
      · obtain ⟨b, δ2, b1, b2, b3⟩ := g_draw (pr := pr) (k := k) (m := 3) (by omega) (by omega) (by omega) g2 (by omega) (X ++ [.lst (MK.map mkd), .lst []])
        have b3 : callK pr k 13 [.ref 1, .int 3] _ = _ := b3
        have hlt : (MK.map mkd).length < lim := by rw [List.length_map, lim_v]; omega
        exists g3, decide_eq_true ha, b3, sx_at0, sx_at, sx_set0, sx_set, hlt
        refine ⟨pre ++ [x], MK ++ [(x, b + 1)], δ2, _, rfl, ?_, e1, ?_, ?_, b2.le (by rw [List.length_append, List.length_singleton]; omega)⟩
        · rw [List.map_append]
          have e2 : (1 : Int) + (b : Int) = ((b + 1 : Nat) : Int) := by omega
          rw [e2]; rfl
        · rw [List.map_append]; exact h2.append (List.Sublist.refl _)
        · intro p hp
          rcases List.mem_append.mp hp with hp | hp
          · exact h3 p hp
          · rw [List.mem_singleton] at hp; subst hp; show 1 ≤ b + 1 ∧ b + 1 ≤ 3; omega
      · exists g3, decide_eq_false ha
        exact ⟨pre ++ [x], MK, δ1, _, rfl, rfl, e1, h2.trans (List.sublist_append_left _ _), h3, g2.le (by rw [List.length_append, List.length_singleton]; omega)⟩
    · rintro ρ σ ⟨pre, MK, δ', z, rfl, rfl, h1, h2, h3, h4⟩
      have hl := congrArg List.length h1
      rw [List.append_nil] at h1 hl
      have hl8 : wordsK.length = 8 := rfl
      have hml := h2.length_le
      rw [List.length_map] at hml
      have hne : ∀ τ : Store, cmpD .ne (.lst (MK.map mkd)) (.lst []) τ = .ok (.bl (!MK.isEmpty)) τ := fun τ => by
        have hg : ∀ p ∈ MK, gd p.1 = true := fun p hp => wordsK_gd _ (by rw [h1]; exact h2.subset (List.mem_map_of_mem hp))
        have := c_nenil (b := false) (x := .lst (MK.map mkd)) (σ := τ) rfl (sims_map fun p hp => (mkd_sim (hg p hp)).1) (Nat.le_trans (dps_map (n := 1) fun p hp => (mkd_sim (hg p hp)).2) (by decide))
        rwa [map_isEmpty] at this
      exists sx_at0, sx_set0, hne
      refine focus (C := fun r => (fin _ (thenS _ _ (asgK _ _ r))).sat _) (P := fun d τ => τ = S δ' ++ (X ++ [.dead, .lst []]) ∧ ∃ MK2 : List (Str × Nat), MK2 ≠ [] ∧ (MK2.map (·.1)).Sublist wordsK ∧ (∀ p ∈ MK2, 1 ≤ p.2 ∧ p.2 ≤ 3) ∧ d = .lst (MK2.map mkd)) ?_ ?_
      · cases hE : MK.isEmpty with
        | true =>
          exists Bool.not_true
          exact ⟨trivial, [("half", 1)], by simp, by decide +kernel, by simp, rfl⟩
        | false =>
          exists Bool.not_false
          exact ⟨trivial, MK, (by rintro rfl; cases hE), (by rw [h1]; exact h2), h3, rfl⟩
      · rintro _ _ ⟨rfl, MK, k1, k2, k3, rfl⟩
        have hml := k2.length_le
        rw [List.length_map] at hml
        have tgk : ∀ (p : Str × Nat) (ρ : Iv.Env), tgD (.tup [1, 6]) (mkd p) ρ = some ((ρ.set 1 (some (.str p.1))).set 6 (some (.int p.2))) := fun p ρ => rfl
        exists Iv.sat_ok
        rw [compL_fT mkd (fun p => decide (p.2 = 1)) (fun p => .str p.1) (fun p hp => ?_) (by rw [lim_v, List.length_nil]; omega)]
        rotate_left
        · refine ⟨_, tgk p _, ?_, fun _ => ?_⟩
          · exists Iv.sat_ok
            congr 2
            exact decide_eq_decide.mpr (by omega)
          · exists Iv.sat_ok
        have hsl := List.length_filter_le (fun p : Str × Nat => decide (p.2 = 1)) MK
        obtain ⟨SG, hSG⟩ : ∃ SG : List Str, SG = (MK.filter fun p => decide (p.2 = 1)).map (·.1) := ⟨_, rfl⟩
        have hSm : (MK.filter fun p => decide (p.2 = 1)).map (fun p => D.str p.1) = SG.map D.str := by rw [hSG, List.map_map]; rfl
        have hSl : SG.length ≤ 20 := by rw [hSG, List.length_map]; omega
        have hSg : ∀ c ∈ SG, gd c = true ∧ (c, 1) ∈ MK := by
          intro c hc
          rw [hSG] at hc
          obtain ⟨p, hp, rfl⟩ := List.mem_map.mp hc
          obtain ⟨hp1, hp2⟩ := List.mem_filter.mp hp
          have e : p.2 = 1 := by simpa using hp2
          exact ⟨wordsK_gd _ (k2.subset (List.mem_map_of_mem hp1)), by rw [← e]; exact hp1⟩
        have hnS : ∀ τ : Store, newL false (SG.map D.str) τ = .ok (.lst (SG.map D.str)) τ := fun τ => newL_f (by rw [List.length_map, lim_v]; omega)
        exists hSm, hnS
        rw [show [D.str "ahead", .str "first", .str "look", .str "open", .str "second", .str "undo"] = wordsO.map D.str from rfl]
        refine fsat (osat_for D.str (fun r ρ σ => ∃ (pre : List Str) (OS : List Op) (δ' : Dk) (z a b c e : Option D), ρ = [some (.ref 1), z, some (.lst (MK.map mkd)), some (.lst (SG.map D.str)), some (.ref (2 + (X.length + 1))), a, b, c, e] ∧ σ = S δ' ++ (X ++ [.dead, .lst (OS.map Op.d)]) ∧
          wordsO = pre ++ r ∧ (OS.map (·.w)).Sublist pre ∧ (∀ o ∈ OS, o.okIn MK) ∧ δ'.ok (n + 16 + 12 * pre.length)) ?_ ?_ ?_)
        · exact ⟨[], [], δ', _, _, _, _, _, rfl, rfl, rfl, List.Sublist.refl _, (fun p hp => by cases hp), h4.le (by omega)⟩
        · rintro x r ρ σ ⟨pre, OS, δ', z, a, b, c, e, rfl, rfl, o1, o2, o3, o4⟩
          refine ⟨_, rfl, ?_⟩
          have hl := congrArg List.length o1
          rw [List.length_append, List.length_cons] at hl
          have hlO : wordsO.length = 6 := rfl
          have hol := o2.length_le
          rw [List.length_map] at hol
          obtain ⟨q, δ1, g1, g2, g3⟩ := g_draw (pr := pr) (k := k) (m := 2) (by omega) (by omega) (by omega) o4 (by omega) (X ++ [.dead, .lst (OS.map Op.d)])
          have g3 : callK pr k 13 [.ref 1, .int 2] _ = _ := g3
          have e1 : wordsO = (pre ++ [x]) ++ r := by rw [o1]; simp
          by_cases hq : (q : Int) = 0
          · obtain ⟨d, δ2, p1, p2, p3⟩ := g_pick (pr := pr) (k := k) (xs := MK.map mkd) (by omega) (by simpa using k1) (by rw [List.length_map]; omega) g2 (by omega) (X ++ [.dead, .lst (OS.map Op.d)])
            obtain ⟨⟨w, m⟩, hp, rfl⟩ := List.mem_map.mp p1
            have hm := k3 _ hp
            dsimp only at hm
            have tg : ∀ ρ : Iv.Env, tgD (.tup [7, 6]) (mkd (w, m)) ρ = some ((ρ.set 7 (some (.str w))).set 6 (some (.int m))) := fun ρ => rfl
            obtain ⟨b, δ3, b1, b2, b3⟩ := g_draw (pr := pr) (k := k) (m := 3) (by omega) (by omega) (by omega) p2 (by omega) (X ++ [.dead, .lst (OS.map Op.d)])
            have b3 : callK pr k 13 [.ref 1, .int 3] _ = _ := b3
            exists g3, decide_eq_true hq, p3, tg, b3
            rw [it_rngN (by omega)]
            exists Iv.sat_ok
            refine focus (C := fun r => (thenS _ _ (asgK _ _ (biK _ _ (cmC _ r)))).sat _ _) (comp_draw (fun (i : Nat) => D.int (i : Int)) Nd.d (fun nd => nd.okIn MK m) 3 (B := n + 16 + 12 * pre.length + 9) (by rw [List.length_range]; omega) (by rw [List.length_range]; omega) (fun x _ δ3 m3 h3 h4 => ?_) b2) ?_
            · obtain ⟨nd, δ4, c1, c2, c3⟩ := g_need (pr := pr) (k := k) (MK := MK) (SG := SG) (m := m) (by omega) hSl hSg hm.1 hm.2 h3 (by omega) (X ++ [.dead, .lst (OS.map Op.d)])
              exact ⟨nd, δ4, c1, c2, by exists c3⟩
            · rintro _ _ ⟨NS, δ4, rfl, rfl, c1, c2, c3⟩
              rw [List.length_range] at c1 c3
              have n1 : ∀ τ : Store, newL false (NS.map Nd.d) τ = .ok (.lst (NS.map Nd.d)) τ := fun τ => newL_f (by rw [List.length_map, lim_v]; omega)
              have n2 : ∀ τ : Store, newT (NS.map Nd.d) τ = .ok (.tup (NS.map Nd.d)) τ := fun τ => newT_ok (by rw [List.length_map, lim_v]; omega)
              obtain ⟨v, δ5, d1, d2, d3⟩ := g_draw (pr := pr) (k := k) (m := m) (by omega) (by omega) (by omega) c3 (by omega) (X ++ [.dead, .lst (OS.map Op.d)])
              have hlt : (OS.map Op.d).length < lim := by rw [List.length_map, lim_v]; omega
              exists n1, n2, d3, sx_at, sx_set, hlt
              refine ⟨pre ++ [x], OS ++ [⟨x, w, v, NS⟩], δ5, _, _, _, _, _, rfl, by rw [List.map_append]; rfl, e1, ?_, ?_, d2.le (by rw [List.length_append, List.length_singleton]; omega)⟩
              · rw [List.map_append]; exact o2.append (List.Sublist.refl _)
              · intro o ho
                rcases List.mem_append.mp ho with ho | ho
                · exact o3 o ho
                · rw [List.mem_singleton] at ho; subst ho; exact ⟨m, hp, d1, by show NS.length ≤ 2; omega, c2⟩
          · exists g3, decide_eq_false hq
            exact ⟨pre ++ [x], OS, δ1, _, _, _, _, _, rfl, rfl, e1, o2.trans (List.sublist_append_left _ _), o3, g2.le (by rw [List.length_append, List.length_singleton]; omega)⟩
        · rintro ρ σ ⟨pre, OS, δ', z, a, b, c, e, rfl, rfl, o1, o2, o3, o4⟩
          have hol := o2.length_le
          have e1 := congrArg List.length o1
          have hlO : wordsO.length = 6 := rfl
          rw [List.length_map] at hol
          rw [List.append_nil] at o1 e1
          have n1 : ∀ τ : Store, newT (MK.map mkd) τ = .ok (.tup (MK.map mkd)) τ := fun τ => newT_ok (by rw [List.length_map, lim_v]; omega)
          have n2 : ∀ τ : Store, newT (OS.map Op.d) τ = .ok (.tup (OS.map Op.d)) τ := fun τ => newT_ok (by rw [List.length_map, lim_v]; omega)
          have u1 : ∀ N, D.under N (.tup [.tup (MK.map mkd), .tup (OS.map Op.d)]) = true := by
            intro N
            rw [D.under, D.unders, D.unders, D.unders, D.under, D.under, unders_map (fun p _ => mkd_under), unders_map (fun o _ => op_under)]
            rfl
          exists sx_at, sx_set, n1, n2
          rw [leave_S' (u1 _), sat_ok]
          exact ⟨⟨MK, OS, ⟨k1, k2, k3, by rw [o1]; exact o2, o3⟩, rfl⟩, δ', o4.le (by omega), rfl⟩
  obtain ⟨d, δ', e, ⟨MK, OS, h1, rfl⟩, h2⟩ := h.elim
  exact ⟨MK, OS, δ', h1, h2, e⟩
end
end Iv

set_option Elab.async false
set_option linter.all false
set_option maxHeartbeats 4000000
set_option maxRecDepth 20000
set_option autoImplicit false
namespace K05
open Iv PySem L2
instance : WordP pr := ⟨rfl, rfl⟩
instance : BookP pr := ⟨rfl, rfl, rfl, rfl, rfl, rfl, rfl, rfl, rfl, rfl, rfl, rfl, rfl⟩
instance : KitA pr := { draw := ⟨60710, 58, 66, rfl⟩, pick := rfl, need := rfl, kit := rfl, thing := rfl }
/-- drawn parts are parts of a book -/
theorem asc_sub {xs ys : List Str} (h : xs.Sublist ys) (ha : Asc ys) : Asc xs := List.Pairwise.sublist h ha
theorem ascK : Asc wordsK := by unfold Asc; decide +kernel
theorem ascO : Asc wordsO := by unfold Asc; decide +kernel
theorem wdK : ∀ x ∈ wordsK, wd x = true := by decide +kernel
theorem wdO : ∀ x ∈ wordsO, wd x = true ∧ x ∉ wordsK := by decide +kernel
theorem kit_book {K : List (Str × Nat)} {O : List Op} (h : KitOk K O) : BookOk K O := by
  have h1 := h.mkOk.1
  have h2 := h.ow.length_le
  rw [List.length_map] at h2
  have e : wordsO.length = 6 := rfl
  refine ⟨h.ne, by omega, fun p hp => ⟨wdK _ (h.mw.subset (List.mem_map_of_mem hp)), h.mn p hp⟩, asc_sub h.mw ascK, by omega, fun o ho => ?_, asc_sub h.ow ascO⟩
  have := wdO _ (h.ow.subset (List.mem_map_of_mem ho))
  exact ⟨this.1, fun hm => this.2 (h.mw.subset hm), h.oo o ho⟩
section
variable {k : Nat} {σ : Store}
theorem r_wanted {n : Nd} {w : Str} {ps : List Th} (h : n.at < ps.length) (ho : ∀ t ∈ ps, t.ok = true) (hk : 1 ≤ k) : callK pr k 340 [n.d, (Th.node w ps).d] σ = .ok (.lst ((want n ps).toList.map Th.d)) σ := by
  obtain ⟨k, rfl⟩ : ∃ j, k = j + 1 := ⟨k - 1, by omega⟩
  rw [callK_run (fd := b_law_wanted) rfl rfl]
  unfold b_law_wanted
  rw [d_node]
  have ea : ∀ j : Nat, (j : Int) + 1 = 1 + (j : Int) := fun j => by omega
  cases n with
  | part j =>
    have h : j < ps.length := h
    rw [Nd.d]
    exists ea, atS (x := D.str w) (xs := ps.map Th.d) (j := j) (by rw [List.length_map]; exact h), leave_same
    rw [want_p, List.getElem?_eq_getElem h, List.getElem_map]
    rfl
  | around c j =>
    have h : j < ps.length := h
    rw [Nd.d]
    exists ea, atS (x := D.str w) (xs := ps.map Th.d) (j := j) (by rw [List.length_map]; exact h), leave_same
    rw [want_a, List.getElem?_eq_getElem h, List.getElem_map]
    show _ = Res.ok (D.lst [(Th.node c [ps[j]]).d]) σ
    rw [d_node]; rfl
  | inside j c =>
    have h : j < ps.length := h
    rw [Nd.d]
    exists ea, atS (x := D.str w) (xs := ps.map Th.d) (j := j) (by rw [List.length_map]; exact h), leave_same
    rw [want_i, List.getElem?_eq_getElem h, List.getElem_map]
    have ht := ho _ (List.getElem_mem h)
    generalize ps[j] = t at ht
    cases t with
    | leaf x =>
      rw [d_leaf]
      exists leave_same
      rfl
    | node c' qs =>
      unfold Th.ok at ht
      cases qs with
      | nil => simp at ht
      | cons q r =>
        rw [d_node]
        by_cases e : c' = c
        · exists decide_eq_true e, leave_same
          rw [insB_c, if_pos e]; rfl
        · exists decide_eq_false e, leave_same
          rw [insB_c, if_neg e]; rfl
theorem r_due {ns : List Nd} {w : Str} {ps : List Th} (h : ∀ n ∈ ns, n.at < ps.length ∧ Fine 22 30000 (optD (want n ps))) (hl : ns.length ≤ 100) (ho : ∀ t ∈ ps, t.ok = true) (hk : 2 ≤ k) : callK pr k 341 [.tup (ns.map Nd.d), (Th.node w ps).d] σ = .ok (dueD ns ps) σ := by
  obtain ⟨k, rfl⟩ : ∃ j, k = j + 1 := ⟨k - 1, by omega⟩
  suffices g : (callK pr (k + 1) 341 [.tup (ns.map Nd.d), (Th.node w ps).d] σ).sat (fun d τ => d = dueD ns ps ∧ τ = σ) by
    obtain ⟨d, σ, e, rfl, rfl⟩ := g.ex
    exact e
  rw [callK_run (fd := b_law_due) rfl rfl]
  unfold b_law_due
  exists Iv.sat_ok
  refine fsat (osat_for Nd.d (fun r ρ τ => ∃ (pre : List Nd) (z1 z2 : Option D), ns = pre ++ r ∧ (∀ n ∈ pre, (want n ps).isSome = true) ∧ ρ = [some (.tup (ns.map Nd.d)), some (Th.node w ps).d, some (.lst (pre.map fun n => optD (want n ps))), z1, z2] ∧ τ = σ) ?_ ?_ ?_)
  · exact ⟨[], none, none, rfl, (fun n hn => by cases hn), rfl, rfl⟩
  · rintro n r ρ τ ⟨pre, z1, z2, e, hs, rfl, rfl⟩
    refine ⟨_, rfl, ?_⟩
    have hm : n ∈ ns := by rw [e]; exact List.mem_append.mpr (.inr List.mem_cons_self)
    have hw := fun τ => r_wanted (k := k) (σ := τ) (n := n) (w := w) (ps := ps) (h n hm).1 ho (by omega)
    have hf := (h n hm).2
    have hll := congrArg List.length e
    rw [List.length_append, List.length_cons] at hll
    cases hx : want n ps with
    | none =>
      rw [hx] at hw
      have hw : ∀ τ, callK pr k 340 [n.d, (Th.node w ps).d] τ = .ok (.lst []) τ := hw
      have e0 : ∀ τ, cmpD .eq (.lst []) (.lst []) τ = .ok (.bl true) τ := fun τ => eq_l0 (xs := []) (n := 1) (w := 100) ⟨by decide +kernel, by decide +kernel, by decide +kernel⟩ (by decide) τ
      exists hw, e0, leave_same
      refine ⟨?_, trivial⟩
      unfold dueD
      rw [if_pos]
      rw [List.any_eq_true]
      exact ⟨n, hm, by rw [hx]; rfl⟩
    | some t =>
      rw [hx] at hw hf
      have hw : ∀ τ, callK pr k 340 [n.d, (Th.node w ps).d] τ = .ok (.lst [t.d]) τ := hw
      have e0 := eq_l0 (fine_lst (all1 hf)) (by decide)
      rw [optD_s] at e0
      have n1 : ∀ τ : Store, newL false (pre.map (fun n => optD (want n ps)) ++ [t.d]) τ = .ok (.lst (pre.map (fun n => optD (want n ps)) ++ [t.d])) τ := fun τ => newL_f (by rw [List.length_append, List.length_map, lim_v, List.length_singleton]; omega)
      exists hw, e0, n1
      refine ⟨pre ++ [n], _, _, by rw [e]; simp, fun m hm => ?_, by rw [List.map_append, List.map_cons, List.map_nil, hx]; rfl, trivial⟩
      rcases List.mem_append.mp hm with hm | hm
      · exact hs m hm
      · rw [List.mem_singleton] at hm; subst hm; rw [hx]; rfl
  · rintro ρ τ ⟨pre, z1, z2, e, hs, rfl, rfl⟩
    rw [List.append_nil] at e
    subst e
    have n2 : ∀ τ : Store, newT (ns.map fun n => optD (want n ps)) τ = .ok (.tup (ns.map fun n => optD (want n ps))) τ := fun τ => newT_ok (by rw [List.length_map, lim_v]; omega)
    exists n2, leave_same
    refine ⟨?_, trivial⟩
    unfold dueD
    rw [if_neg]
    rw [List.any_eq_true]
    rintro ⟨n, hn, hx⟩
    have := hs n hn
    cases hy : want n ps with
    | none => rw [hy] at this; cases this
    | some t => rw [hy] at hx; rw [optD_s, isn_th] at hx; cases hx
end
theorem cutTo {α : Type} {xs : List α} (n : Nat) : cutL xs none (some (n : Int)) = xs.take n := by
  unfold cutL
  rw [HT.sIx_none, HT.sIx_nat, List.drop_zero, Nat.sub_zero]
  rcases Nat.le_total n xs.length with h | h
  · rw [Nat.min_eq_left h]
  · rw [Nat.min_eq_right h, List.take_length, List.take_of_length_le h]
theorem cutFrom {α : Type} {xs : List α} (n : Nat) : cutL xs (some (n : Int)) none = xs.drop n := by
  unfold cutL
  rw [HT.sIx_none, HT.sIx_nat]
  rcases Nat.le_total n xs.length with h | h
  · rw [Nat.min_eq_left h, List.take_of_length_le (by rw [List.length_drop]; omega)]
  · rw [Nat.min_eq_right h, List.drop_length, List.drop_eq_nil_of_le h]; simp
def LSf : List Str := ["a", "half", "K", "N"]
theorem lsf : LsOk LSf := ⟨by decide, by decide, by decide +kernel⟩
/-- parts as drawn -/
def PsOk (ps : List Th) : Prop := ∀ t ∈ ps, t.ok = true ∧ t.dp ≤ 20 ∧ t.sz ≤ 100
theorem g_fit {k n m : Nat} (hk : 9 ≤ k) {K : List (Str × Nat)} {o : Op} (hK : MkOk K) (hn' : (K.map (·.1)).Nodup) (hm : (o.kd, m) ∈ K) (hg : gd o.w = true) (hl : o.ns.length ≤ 2) (ho : ∀ n ∈ o.ns, n.okIn K m) {δ : Dk} (hδ : δ.ok n) (hn : n + 200 < 1000000000) (X : Store) :
    ∃ (ps : List Th) (δ' : Dk), ps.length = m ∧ PsOk ps ∧ δ'.ok (n + 200) ∧ callK pr k 342 [.ref 1, .tup (K.map mkd), o.d] (S δ ++ X) = .ok (Th.node o.kd ps).d (S δ' ++ X) := by
  obtain ⟨k, rfl⟩ : ∃ j, k = j + 1 := ⟨k - 1, by omega⟩
  have hm3 := (hK.2 _ hm).2
  dsimp only at hm3
  have hKl := hK.1
  suffices h : (callK pr (k + 1) 342 [.ref 1, .tup (K.map mkd), o.d] (S δ ++ X)).sat (fun d τ => ∃ (ps : List Th) (δ' : Dk), d = (Th.node o.kd ps).d ∧ τ = S δ' ++ X ∧ ps.length = m ∧ PsOk ps ∧ δ'.ok (n + 200)) by
    obtain ⟨d, τ, e, ps, δ', rfl, rfl, h1, h2, h3⟩ := h.ex
    exact ⟨ps, δ', h1, h2, h3, e⟩
  rw [callK_run (fd := b_law_fit) rfl rfl]
  unfold b_law_fit Op.d
  have n1 : ∀ τ : Store, newL false (K.map mkd) τ = .ok (.lst (K.map mkd)) τ := fun τ => newL_f (by rw [List.length_map, lim_v]; omega)
  have d1 : ∀ τ : Store, biD .dict false (.lst (K.map mkd)) τ = .ok (cnt K) τ := fun τ => by
    rw [dict_Ll (kf := fun p : Str × Nat => p.1) (vf := fun p => D.int p.2) (g := mkd) (fun _ => rfl) hn']; rfl
  have i1 : ∀ τ, idxD (cnt K) (.str o.kd) τ = .ok (.int m) τ := fun τ => by unfold cnt; rw [i_dics, cnt_at hn' hm]; rfl
  exists n1, d1, i1
  rw [it_rngN (by omega)]
  exists Iv.sat_ok
  refine fsat (osat_range (fun i ρ τ => ∃ (ps : List Th) (z : Option D) (δ' : Dk), ρ = [some (.ref 1), some (.tup (K.map mkd)), some (.tup [.str o.w, .str o.kd, .int o.gv, .tup (o.ns.map Nd.d)]), z, none, some (.lst (LSf.map D.str)), some (.tup (.str o.kd :: ps.map Th.d)), none, none] ∧ τ = S δ' ++ X ∧ ps.length = i ∧ PsOk ps ∧ δ'.ok (n + 30 * i)) ?_ ?_ ?_)
  · exact ⟨[], _, δ, rfl, rfl, rfl, (fun t ht => by cases ht), hδ⟩
  · rintro i hi ρ τ ⟨ps, z, δ', rfl, rfl, h1, h2, h3⟩
    refine ⟨_, rfl, ?_⟩
    obtain ⟨d, δ2, t1, ⟨t, rfl, t2, t3, t4⟩, t5⟩ := (w_thing (pr := pr) hK lsf 5 k 6 _ δ' X (by omega) (by decide) (by decide) (by decide) h3 (by omega)).elim
    have n2 : ∀ τ : Store, newT (.str o.kd :: (ps.map Th.d ++ [t.d])) τ = .ok (.tup (.str o.kd :: (ps.map Th.d ++ [t.d]))) τ := fun τ => newT_ok (by simp [lim_v]; omega)
    have t1 : callK pr k 17 [.ref 1, .tup (K.map mkd), .lst (LSf.map D.str), .int 6, .int 5] (S δ' ++ X) = _ := t1
    exists t1, n2
    refine ⟨ps ++ [t], _, δ2, by rw [List.map_append]; rfl, rfl, by simp [h1], fun u hu => ?_, t5.le (by omega)⟩
    rcases List.mem_append.mp hu with hu | hu
    · exact h2 u hu
    · rw [List.mem_singleton] at hu; subst hu; exact ⟨of_ok hK lsf _ t2, by omega, by omega⟩
  · rintro ρ τ ⟨ps, z, δ', rfl, rfl, h1, h2, h3⟩
    subst h1
    exists Iv.sat_ok
    refine fsat (osat_for Nd.d (fun r ρ τ => ∃ (pre : List Nd) (qs : List Th) (z1 z2 z3 : Option D) (δ' : Dk), o.ns = pre ++ r ∧ ρ = [some (.ref 1), some (.tup (K.map mkd)), some (.tup [.str o.w, .str o.kd, .int o.gv, .tup (o.ns.map Nd.d)]), z, z1, some (.lst (LSf.map D.str)), some (.tup (.str o.kd :: qs.map Th.d)), z2, z3] ∧ τ = S δ' ++ X ∧ qs.length = ps.length ∧ PsOk qs ∧ δ'.ok (n + 100 + 30 * pre.length)) ?_ ?_ ?_)
    · exact ⟨[], ps, _, _, _, δ', rfl, rfl, rfl, rfl, h2, h3.le (by omega)⟩
    · rintro nd r ρ τ ⟨pre, qs, z1, z2, z3, δ', e, rfl, rfl, h4, h5, h6⟩
      refine ⟨_, rfl, ?_⟩
      have hll := congrArg List.length e
      rw [List.length_append, List.length_cons] at hll
      have hnd := ho nd (by rw [e]; exact List.mem_append.mpr (.inr List.mem_cons_self))
      have e2 : o.ns = (pre ++ [nd]) ++ r := by rw [e]; simp
      have lp : (pre ++ [nd]).length = pre.length + 1 := by simp
      cases nd with
      | part j =>
        rw [Nd.d]
        exists Iv.sat_ok
        exact ⟨pre ++ [.part j], qs, _, _, _, δ', e2, rfl, rfl, h4, h5, h6.le (by omega)⟩
      | around c j =>
        rw [Nd.d]
        exists Iv.sat_ok
        exact ⟨pre ++ [.around c j], qs, _, _, _, δ', e2, rfl, rfl, h4, h5, h6.le (by omega)⟩
      | inside j c =>
        rw [Nd.d]
        have hnd : j < ps.length ∧ (c, 1) ∈ K := hnd
        obtain ⟨q, δ1, g1, g2, g3⟩ := g_draw (pr := pr) (k := k) (m := 3) (by omega) (by omega) (by omega) h6 (by omega) X
        have g3 : callK pr k 13 [.ref 1, .int 3] _ = _ := g3
        by_cases hq : (0 : Int) < (q : Int)
        · obtain ⟨d, δ2, t1, ⟨t, rfl, t2, t3, t4⟩, t5⟩ := (w_thing (pr := pr) hK lsf 3 k 4 _ δ1 X (by omega) (by decide) (by decide) (by decide) g2 (by omega)).elim
          have t1 : callK pr k 17 [.ref 1, .tup (K.map mkd), .lst (LSf.map D.str), .int 4, .int 3] (S δ1 ++ X) = _ := t1
          have e5 : (j : Int) + 1 = ((j + 1 : Nat) : Int) := by omega
          have e6 : ((j + 1 : Nat) : Int) + 1 = ((j + 2 : Nat) : Int) := by omega
          have hset : (.str o.kd :: qs.map Th.d).take (j + 1) ++ D.tup [.str c, t.d] :: (.str o.kd :: qs.map Th.d).drop (j + 2) = .str o.kd :: (qs.set j (.node c [t])).map Th.d := by
            have := List.set_eq_take_append_cons_drop (l := D.str o.kd :: qs.map Th.d) (i := j + 1) (a := D.tup [.str c, t.d])
            rw [if_pos (by rw [List.length_cons, List.length_map]; omega)] at this
            rw [← this, List.set_cons_succ, List.map_set, d_node]; rfl
          have n3 : ∀ τ : Store, newT ((.str o.kd :: qs.map Th.d).take (j + 1)) τ = .ok (.tup ((.str o.kd :: qs.map Th.d).take (j + 1))) τ := fun τ => newT_ok (by rw [List.length_take, List.length_cons, List.length_map, lim_v]; omega)
          have n4 : ∀ τ : Store, newT ((.str o.kd :: qs.map Th.d).drop (j + 2)) τ = .ok (.tup ((.str o.kd :: qs.map Th.d).drop (j + 2))) τ := fun τ => newT_ok (by rw [List.length_drop, List.length_cons, List.length_map, lim_v]; omega)
          have n5 : ∀ τ : Store, newT ((.str o.kd :: qs.map Th.d).take (j + 1) ++ [D.tup [.str c, t.d]]) τ = .ok (.tup ((.str o.kd :: qs.map Th.d).take (j + 1) ++ [D.tup [.str c, t.d]])) τ := fun τ => newT_ok (by rw [List.length_append, List.length_take, List.length_cons, List.length_map, lim_v, List.length_singleton]; omega)
          have n6 : ∀ τ : Store, newT ((.str o.kd :: qs.map Th.d).take (j + 1) ++ D.tup [.str c, t.d] :: (.str o.kd :: qs.map Th.d).drop (j + 2)) τ = .ok (.tup (.str o.kd :: (qs.set j (.node c [t])).map Th.d)) τ := fun τ => by
            rw [hset]; exact newT_ok (by rw [List.length_cons, List.length_map, List.length_set, lim_v]; omega)
          exists g3, decide_eq_true hq, t1, e5, e6, cutTo, cutFrom, n3, n4, n5, List.append_assoc, n6
          refine ⟨pre ++ [.inside j c], qs.set j (.node c [t]), _, _, _, δ2, e2, rfl, rfl, by rw [List.length_set]; exact h4, fun u hu => ?_, t5.le (by omega)⟩
          rcases List.mem_or_eq_of_mem_set hu with hu | rfl
          · exact h5 u hu
          · refine ⟨?_, ?_, ?_⟩
            · rw [Th.ok, Th.oks, Th.oks, of_ok hK lsf _ t2, (hK.2 _ hnd.2).1]; rfl
            · rw [Th.dp, Th.dps, Th.dps]; omega
            · rw [Th.sz, Th.szs, Th.szs]; omega
        · exists g3, decide_eq_false hq
          exact ⟨pre ++ [.inside j c], qs, _, _, _, δ1, e2, rfl, rfl, h4, h5, g2.le (by omega)⟩
    · rintro ρ τ ⟨pre, qs, z1, z2, z3, δ', e, rfl, rfl, h4, h5, h6⟩
      rw [List.append_nil] at e
      subst e
      exists leave_S0
      exact ⟨qs, δ', by rw [d_node], rfl, h4, h5, h6.le (by omega)⟩
theorem b_mul3 {d : D} (τ : Store) : binD .mul (.lst [d]) (.int 3) τ = .ok (.lst [d, d, d]) τ := by
  show (if -(2 ^ 63) ≤ (3 : Int) ∧ (3 : Int) < 2 ^ 63 then newL false (List.replicate (3 : Int).toNat [d]).flatten τ else .bad) = _
  rw [if_pos (by decide)]
  exact nl3
/-- the fields of a book -/
theorem g_right {k n i : Nat} (hk : 10 ≤ k) {K : List (Str × Nat)} {O : List Op} {o : Op} (hb : BookOk K O) (hK : MkOk K) (ho : o ∈ O) {δ : Dk} (hδ : δ.ok n) (hn : n + 200 < 1000000000) {X : Store} (hi : ∀ δ : Dk, (S δ ++ X)[i]? = some (bookC K O)) :
    ∃ δ' : Dk, δ'.ok (n + 200) ∧ callK pr k 343 [.ref 1, .ref i, .tup (K.map mkd), o.d] (S δ ++ X) = .ok (.bl true) (S δ' ++ X) := by
  obtain ⟨k, rfl⟩ : ∃ j, k = j + 1 := ⟨k - 1, by omega⟩
  obtain ⟨hw, _, m, h3, h4, h5, h6⟩ := hb.ow o ho
  obtain ⟨ps, δ', hm, hps, hδ', e⟩ := g_fit (k := k) (by omega) hK hb.ks.nd h3 (wd_gd hw) h5 h6 hδ hn X
  subst hm
  refine ⟨δ', hδ', ?_⟩
  rw [callK_run (fd := b_law_right) rfl rfl]
  unfold b_law_right
  have hi := hi δ'
  have hi' := hi
  unfold bookC at hi'
  have q1 := r_needed (pr := pr) (k := k) (σ := S δ' ++ X) hb hi ho h3 hps (by omega)
  have hf : ∀ n ∈ o.ns, Fine 22 30000 (optD (want n ps)) := fun n hn => want_fine (fun p hp => wd_gd (hb.kw p hp).1) (h6 n hn) hps
  have q2 := r_due (k := k) (σ := S δ' ++ X) (ns := o.ns) (w := o.kd) (ps := ps) (fun n hn => ⟨(h6 n hn).at_lt, hf n hn⟩) (by omega) (fun t ht => (hps t ht).1) (by omega)
  have fd : Fine 23 70000 (dueD o.ns ps) := by
    unfold dueD
    split
    · exact (fine_non (n := 23)).le (by omega) (by omega)
    · exact (fine_tup (allm hf)).le (by omega) (by rw [List.length_map]; omega)
  have hkd := (hb.kw _ h3)
  have ft : Fine 22 50000 (Th.node o.kd ps).d := by
    rw [d_node]
    exact (fine_tup (n := 21) (w := 10000) (xs := .str o.kd :: ps.map Th.d) (fun x hx => by
      rcases List.mem_cons.mp hx with rfl | hx
      · exact Fine.le (m := 21) (v := 10000) (fine_str (n := 21) (wd_gd hkd.1)) (by omega) (by omega)
      · obtain ⟨t, ht, rfl⟩ := List.mem_map.mp hx
        have := hps t ht
        exact fine_th (n := 21) (w := 10000) this.1 (by omega) (by omega))).le (by omega) (by
        have : ps.length ≤ 3 := hkd.2.2
        rw [List.length_cons, List.length_map]; omega)
  have fk : Fine 2 16000 (.tup (K.map mkd)) := (fine_tup (allm fun p hp => fine_mkd (wd_gd (hb.kw p hp).1) (by have := hb.kw p hp; omega))).le (by omega) (by have := hb.kl; rw [List.length_map]; omega)
  have fo : Fine 4 260000 (.tup (O.map Op.d)) := (fine_tup (allm fun p hp => fine_op (fun q hq => ⟨wd_gd (hb.kw q hq).1, by have := hb.kw q hq; omega⟩) (wd_gd (hb.ow p hp).1) (hb.ow p hp).2.2)).le (by omega) (by have := hb.ol; rw [List.length_map]; omega)
  have f3 : Fine 23 1000000 (.lst [(Th.node o.kd ps).d, .tup (K.map mkd), .tup (O.map Op.d)]) := (fine_lst (n := 22) (w := 260000) (all3 (ft.le (by omega) (by omega)) (fk.le (by omega) (by omega)) (fo.le (by omega) (by omega)))).le (by omega) (by simp)
  have f4 : Fine 24 1000000 (.lst [dueD o.ns ps, dueD o.ns ps, dueD o.ns ps]) := (fine_lst (all3 fd fd fd)).le (by omega) (by simp)
  have rp1 := fun τ => repr_l (mu := false) (σ := τ) f3 (by decide) (by decide)
  have rp2 := fun τ => repr_l (mu := false) (σ := τ) f4 (by decide) (by decide)
  have od0 : ∀ τ, idxD o.d (.int 0) τ = .ok (.str o.w) τ := fun τ => rfl
  have od3 : ∀ τ, idxD o.d (.int 3) τ = .ok (.tup (o.ns.map Nd.d)) τ := fun τ => rfl
  exists e, hi', od0, od3, q1, q2, b_mul3, rp1, rp2, leave_S0
  done
theorem st_need {i : Nat} {σ : Store} (hi : σ[i]? = some (bookC stK stO)) {j : Nat} (hj : j < 6) {ps : List Th} {v d : D} (hp : (stO[j].kd, ps.length) ∈ stK) (hps : PsOk ps) (e : dueD stO[j].ns ps = v) (e2 : (Th.node stO[j].kd ps).d = d) : callK pr 199 62 [.ref i, .str stO[j].w, d] σ = .ok v σ := by
  subst e; subst e2
  exact r_needed stOk hi (List.getElem_mem _) hp hps (by decide)
theorem leaf_ok {x : Str} (h : gd x = true) : (Th.leaf x).ok = true ∧ (Th.leaf x).dp ≤ 20 ∧ (Th.leaf x).sz ≤ 100 := ⟨by rw [Th.ok]; exact h, by rw [Th.dp]; omega, by rw [Th.sz]; omega⟩
theorem ps2 {t u : Th} (h : t.ok = true ∧ t.dp ≤ 20 ∧ t.sz ≤ 100) (h2 : u.ok = true ∧ u.dp ≤ 20 ∧ u.sz ≤ 100) : PsOk [t, u] := fun v hv => by
  simp only [List.mem_cons, List.not_mem_nil, or_false] at hv; rcases hv with rfl | rfl <;> assumption
def tellD : D := .lst [.tup [.str "S"], .non, .non, .tup [.tup [.str "half", .str "S"]], .tup [.tup [.str "pair", .str "b", .str "K"]], .tup []]
theorem tellF : Fine 10 5000 tellD := ⟨by decide +kernel, by decide +kernel, by decide +kernel⟩
theorem SX_at {δ δ' : Dk} {X : Store} {c : Cell} : (S δ ++ (X ++ [c]))[(S δ').length + X.length]? = some c := by
  rw [S_len, sx_at0]; rfl
theorem plain (ns : List Int) (h : ns.length ≤ 63) : ∃ σ, callK pr 200 299 [.ro (ns.map D.int)] [] = .ok (.bl true) σ := by
  suffices g : (callK pr (199 + 1) 299 [.ro (ns.map D.int)] []).sat (fun d _ => d = .bl true) by
    obtain ⟨d, σ, e, rfl⟩ := g.ex
    exact ⟨σ, e⟩
  obtain ⟨δ, hδ, e0⟩ := w_deck (pr := pr) (i := 12) (k := 199) (a := 1085705) (b := 40) rfl (by decide) h
  have r5 : ∀ τ : Store, itemsOf τ .rng [.int 5] = some ((List.range 5).map fun (i : Nat) => D.int (i : Int)) := fun τ => it_rngN (n := 5) (by decide)
  have r3 : ∀ τ : Store, itemsOf τ .rng [.int 3] = some ((List.range 3).map fun (i : Nat) => D.int (i : Int)) := fun τ => it_rngN (n := 3) (by decide)
  rw [callK_run (fd := b_law) rfl rfl]
  unfold b_law
  exists e0, r5
  refine fsat (osat_range (fun i ρ σ => ∃ (δ : Dk) (X : Store) (a b c d e f : Option D), ρ = [some (.ro (ns.map D.int)), some (.ref 1), a, none, none, b, c, d, e, f] ∧ σ = S δ ++ X ∧ δ.ok (i * 50000)) ?_ ?_ ?_)
  · exact ⟨δ, [], _, _, _, _, _, _, rfl, (List.append_nil _).symm, hδ⟩
  · rintro i hi ρ σ ⟨δ, X, a, b, c, d, e, f, rfl, rfl, hδ⟩
    refine ⟨_, rfl, ?_⟩
    obtain ⟨K, O, δ1, k1, k2, k3⟩ := g_kit (pr := pr) (k := 199) (by decide) hδ (by omega) X
    have hb := kit_book k1
    have hK := k1.mkOk
    have hO := hb.ol
    have hbk := r_book (pr := pr) (k := 199) (σ := S δ1 ++ X) hb (by decide)
    rw [List.append_assoc, List.append_assoc, st_len] at hbk
    exists k3, List.append_assoc, hbk
    have hX : ∀ δ : Dk, (S δ ++ (X ++ [bookC K O]))[((S δ1).length + X.length)]? = some (bookC K O) := fun δ => SX_at
    generalize ((S δ1).length + X.length) = iB at hX
    refine osat_for Op.d (fun r ρ σ => ∃ (pre : List Op) (δ : Dk) (c f : Option D), O = pre ++ r ∧ ρ = [some (.ro (ns.map D.int)), some (.ref 1), some (.int (i : Int)), none, none, some (.ref iB), c, some (.tup (K.map mkd)), some (.tup (O.map Op.d)), f] ∧ σ = S δ ++ (X ++ [bookC K O]) ∧ δ.ok (i * 50000 + 100 + 600 * pre.length)) ?_ ?_ ?_
    · exact ⟨[], δ1, _, _, rfl, rfl, rfl, k2.le (by omega)⟩
    · rintro o r ρ σ ⟨pre, δ, c, f, e, rfl, rfl, hδ⟩
      refine ⟨_, rfl, ?_⟩
      have hll := congrArg List.length e
      rw [List.length_append, List.length_cons] at hll
      have hoO : o ∈ O := by rw [e]; exact List.mem_append.mpr (.inr List.mem_cons_self)
      exists r3
      refine osat_range (fun j ρ σ => ∃ (δ : Dk) (f : Option D), ρ = [some (.ro (ns.map D.int)), some (.ref 1), some (.int (i : Int)), none, none, some (.ref iB), some o.d, some (.tup (K.map mkd)), some (.tup (O.map Op.d)), f] ∧ σ = S δ ++ (X ++ [bookC K O]) ∧ δ.ok (i * 50000 + 100 + 600 * pre.length + 200 * j)) ?_ ?_ ?_
      · exact ⟨δ, _, rfl, rfl, hδ.le (by omega)⟩
      · rintro j hj ρ σ ⟨δ, f, rfl, rfl, hδ⟩
        refine ⟨_, rfl, ?_⟩
        obtain ⟨δ', h1, h2⟩ := g_right (k := 199) (by decide) hb hK hoO hδ (by omega) hX
        exists h2
        exact ⟨δ', _, rfl, rfl, h1.le (by omega)⟩
      · rintro ρ σ ⟨δ, f, rfl, rfl, hδ⟩
        exact ⟨pre ++ [o], δ, _, _, by rw [e]; simp, rfl, rfl, hδ.le (by rw [List.length_append, List.length_singleton]; omega)⟩
    · rintro ρ σ ⟨pre, δ, c, f, e, rfl, rfl, hδ⟩
      have hll := congrArg List.length e
      rw [List.append_nil] at hll
      exact ⟨δ, _, _, _, _, _, _, _, rfl, rfl, hδ.le (by omega)⟩
  · intro ρ σ hI
    obtain ⟨δ, X, a, b, c, d, e, f, h1, h2, hδ⟩ := hI
    clear hδ
    subst h1
    subst h2
    have hs := r_std (pr := pr) (k := 199) (σ := S δ ++ X) (by decide)
    rw [List.append_assoc, st_len] at hs
    have hX : (S δ ++ (X ++ [bookC stK stO]))[(S δ).length + X.length]? = some (bookC stK stO) := SX_at
    generalize (S δ).length + X.length = iB at hs hX
    generalize S δ ++ (X ++ [bookC stK stO]) = σ at hs hX
    have hX' := hX
    unfold bookC at hX'
    have lK := leaf_ok (x := "K") (by decide +kernel)
    have lS := leaf_ok (x := "S") (by decide +kernel)
    have la := leaf_ok (x := "a") (by decide +kernel)
    have lb := leaf_ok (x := "b") (by decide +kernel)
    have n1 : callK pr 199 62 [.ref iB, .str "unseal", .tup [.str "seal", .str "K", .tup [.str "half", .str "S"]]] σ = .ok (.tup [.str "S"]) σ := st_need hX (j := 5) (by decide) (ps := [.leaf "K", .node "half" [.leaf "S"]]) (by decide +kernel) (ps2 lK ⟨by decide +kernel, by decide +kernel, by decide +kernel⟩) rfl rfl
    have n2 : callK pr 199 62 [.ref iB, .str "unseal", .tup [.str "seal", .str "K", .str "S"]] σ = .ok .non σ := st_need hX (j := 5) (by decide) (ps := [.leaf "K", .leaf "S"]) (by decide +kernel) (ps2 lK lS) rfl rfl
    have n3 : callK pr 199 62 [.ref iB, .str "unseal", .tup [.str "seal", .str "K", .tup [.str "mark", .str "S"]]] σ = .ok .non σ := st_need hX (j := 5) (by decide) (ps := [.leaf "K", .node "mark" [.leaf "S"]]) (by decide +kernel) (ps2 lK ⟨by decide +kernel, by decide +kernel, by decide +kernel⟩) rfl rfl
    have n4 : callK pr 199 62 [.ref iB, .str "signed", .tup [.str "sign", .str "a", .str "S"]] σ = .ok (.tup [.tup [.str "half", .str "S"]]) σ := st_need hX (j := 4) (by decide) (ps := [.leaf "a", .leaf "S"]) (by decide +kernel) (ps2 la lS) rfl rfl
    have n5 : callK pr 199 62 [.ref iB, .str "open", .tup [.str "lock", .str "a", .tup [.str "pair", .str "b", .str "K"]]] σ = .ok (.tup [.tup [.str "pair", .str "b", .str "K"]]) σ := st_need hX (j := 1) (by decide) (ps := [.leaf "a", .node "pair" [.leaf "b", .leaf "K"]]) (by decide +kernel) (ps2 la ⟨by decide +kernel, by decide +kernel, by decide +kernel⟩) rfl rfl
    have n6 : callK pr 199 62 [.ref iB, .str "first", .tup [.str "pair", .str "a", .str "b"]] σ = .ok (.tup []) σ := st_need hX (j := 0) (by decide) (ps := [.leaf "a", .leaf "b"]) (by decide +kernel) (ps2 la lb) rfl rfl
    have rp := fun τ => repr_l (mu := false) (σ := τ) tellF (by decide) (by decide)
    exists hs, hX', n1, n2, n3, n4, n5, n6, rp
    exact leave_sat' fun _ => rfl
end K05

set_option Elab.async false
set_option linter.all false
set_option maxRecDepth 100000
set_option maxHeartbeats 0
open PySem PySem.W PySem.Calls PyProof.Rows
theorem PySem.Challenge.cw_sealedalike_k05_needed_things_holds : PySem.Challenge.rw_sealedalike_k05_needed_things.Holds := by
  w_on; o_law
  refine HandSHeadRun.head_any (r := OpenLaw.row PySem.Challenge.rw_sealedalike_k05_needed_things) (q := view (OpenLaw.row PySem.Challenge.rw_sealedalike_k05_needed_things).prog [57]) (H := K05.hk) (ob := K05.ob) (M := 4000) (loose := K05.loose) (d := HandSHeadRun.topDef (OpenLaw.row PySem.Challenge.rw_sealedalike_k05_needed_things).prog 57) (kwd := []) K05.ob_eq
    (by kernel_rfl) (fun s => by kernel_rfl) K05.run (by kernel_rfl) (by kernel_rfl) (by kernel_rfl) (by rfl) (by first | assumption | decide +kernel) (by decide +kernel) ⟨rfl, rfl, rfl, rfl, rfl, by decide +kernel⟩ ?hw ?hc
  case hw => w_witness2
  case hc =>
    refine Iv.walk_ofG (l := PySem.Challenge.rw_sealedalike_k05_needed_things) (n := 63) (k := 200) (x := "_law_script") rfl (by decide) (by kernel_rfl) ⟨rfl, by decide, by decide⟩ ?F
    intro w mg fa h Y G hmg0
    obtain ⟨K, KX, c⟩ := Y
    have hmg : mg ("law" : PySem.Str) = some (.ref fa) := by
      have e : (HandSHeadRun.topDef (OpenLaw.row PySem.Challenge.rw_sealedalike_k05_needed_things).prog 57).name = ("law" : PySem.Str) := by kernel_rfl
      rw [← e]
      exact hmg0
    obtain ⟨fd, sp, hb, hsp, hF⟩ := Iv.law_facts (P := (PySem.Challenge.rw_sealedalike_k05_needed_things).prog) (w := w) (fuel := 100) (k := 199) (n := 63) (i := K05.i_law) (x := "_law_script") (y := "law") (g := K05.g) KX G c rfl rfl rfl rfl rfl rfl K05.pr_all K05.ok_all K05.sh_all (by simp [K05.cf, K05.infos]) rfl rfl rfl (by simp [K05.i_law]) hmg K05.plain
    exact ⟨K, fd, sp, KX, hb, hsp, hF⟩

