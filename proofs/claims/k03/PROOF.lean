import PyProof.Rows.All
import Wide.All
import OpenK.AllK
import Wide.FinOn
import HandS.ForMost
import HandS.ForExc
import PyProof.Rows.SortShellAny
import HandS.Set
import HandS.SetFor
import HandS.Strs
import HandS.TupAny
import HandS.Flow
import HandS.Deep
import HandS.Style
import HandS.SetKeys
import HandS.Conv
import HandS.WordsDict
import PyProof.ReprRoads
import HandS.More
import HandS.IsInst
import HandS.Star
import HandS.Iter
import HandS.Ends
import HandS.Head0
import HandS.Head1
import HandS.Head2
import HandS.HeadEnd
import HandS.HeadHook1
import HandS.HeadHook2
import PySem.Challenge.RW_sealedalike_k03_pieces_sizes_and_names
set_option Elab.async false
set_option linter.all false
/-! the evaluator: data, store, mini-AST, its meaning -/
namespace Iv
open PySem L2

/-- data. ref n: the mutable cell n of the store -/
inductive D where
  | non | bl (b : Bool) | int (i : Int) | str (x : Str)
  | tup (xs : List D) | lst (xs : List D) | dic (ks : List Key) (vs : List D) | set (xs : List Str)
  | ro (xs : List D)
  | ref (n : Nat)
  deriving Inhabited
inductive Cell where
  | lst (xs : List D) | dic (ks : List Key) (vs : List D) | dead
  deriving Inhabited
abbrev Store := List Cell
abbrev Env := List (Option D)
inductive Res (α : Type) where
  | ok (a : α) (σ : Store)
  | exc (c : Nat) (d : D) (σ : Store)
  | bad
def Res.bind {α β : Type} (r : Res α) (f : α → Store → Res β) : Res β := match r with
  | .ok a σ => f a σ
  | .exc c d σ => .exc c d σ
  | .bad => .bad

def keyD : Key → D
  | .inl i => .int i
  | .inr x => .str x
def keyP : Key → PyData
  | .inl i => .int i
  | .inr x => .str x
def dKey : D → Option Key
  | .int i => some (.inl i)
  | .str x => some (.inr x)
  | _ => none
mutual
def D.py : D → PyData
  | .non => .none
  | .bl b => .bool b
  | .int i => .int i
  | .str x => .str x
  | .tup xs => .tuple (D.pys xs)
  | .lst xs => .list (D.pys xs)
  | .dic ks vs => .dict ((ks.map keyP).zip (D.pys vs))
  | .set _ => .none
  | .ro xs => .list (D.pys xs)
  | .ref _ => .none
def D.pys : List D → List PyData
  | [] => []
  | d :: ds => D.py d :: D.pys ds
end
mutual
/-- PyData stands for it -/
def D.pure : D → Bool
  | .tup xs => D.pures xs
  | .lst xs => D.pures xs
  | .dic ks vs => decide (ks.length = vs.length) && D.pures vs
  | .set _ => false
  | .ro xs => D.pures xs
  | .ref _ => false
  | _ => true
def D.pures : List D → Bool
  | [] => true
  | d :: ds => D.pure d && D.pures ds
end
mutual
/-- cells below n alone -/
def D.under (n : Nat) : D → Bool
  | .tup xs => D.unders n xs
  | .lst xs => D.unders n xs
  | .dic _ vs => D.unders n vs
  | .ro xs => D.unders n xs
  | .ref m => decide (m < n)
  | _ => true
def D.unders (n : Nat) : List D → Bool
  | [] => true
  | d :: ds => D.under n d && D.unders n ds
end
def Cell.under (n : Nat) : Cell → Bool
  | .lst xs => D.unders n xs
  | .dic _ vs => D.unders n vs
  | .dead => true

/-! ### expressions -/
inductive BOp where
  | add | sub | mul | fdiv | mod | pow
inductive COp where
  | eq | ne | lt | le | gt | ge | isin | notin | is | isnot
inductive Ty where
  | str | tup | int | bool | list | dict
/-- built-in functions of one argument -/
inductive Bi where
  | len | list | tuple | int | str | repr | all | any | sum | sorted | set | dict
/-- built-in methods -/
inductive Me where
  | append | pop | extend | get | join
/-- what is walked: an expression; range(e); range(a, b) -/
inductive IK where
  | on | rng | rng2
inductive Tg where
  | nm (i : Nat) | tup (is : List Nat)
inductive Ex where
  | nop
  | loc (i : Nat)
  | non | bl (b : Bool) | int (i : Int) | str (x : Str)
  | glo (x : Str) (d : D)
  | bin (op : BOp) (a b : Ex)
  | neg (a : Ex)
  | cmp (op : COp) (a b : Ex)
  | chain (op op' : COp) (a b c : Ex)
  | and (a b : Ex) | or (a b : Ex) | not (a : Ex)
  | ite (c a b : Ex)
  | tup (es : List Ex)
  | lst (mu : Bool) (es : List Ex)
  | dic (mu : Bool) (kvs : List Ex)
  | star (a : Ex)
  | idx (a i : Ex) | slice (mu : Bool) (a lo hi : Ex) | rev (mu : Bool) (a : Ex)
  | call (f : Nat) (es ks : List Ex) (ds : List D) (pm : List Nat)
  | bi (b : Bi) (mu : Bool) (a : Ex)
  | isi (a : Ex) (ts : List Ty)
  | me (m : Me) (o : Ex) (es : List Ex)
  | comp (mu : Bool) (own : List Nat) (t : Tg) (k : IK) (its : List Ex) (c elt : Ex)
inductive Stt where
  | asg (t : Tg) (e : Ex)
  | par (i j : Nat) (a b : Ex)
  | put (o k e : Ex)
  | exp (e : Ex)
  | ret (e : Ex)
  | ite (c : Ex) (a b : List Stt)
  | whl (c : Ex) (b : List Stt)
  | for (t : Tg) (k : IK) (its : List Ex) (b : List Stt)
  | brk | cont | pass
  | frz (i : Nat)

/-! ### operations -/
def lim : Nat := 16777216
/-- a cell read as data -/
def view (σ : Store) : D → D
  | .ref n => match σ[n]? with
    | some (.lst xs) => .lst xs
    | some (.dic ks vs) => .dic ks vs
    | _ => .ref n
  | d => d
/-- a new list, dict: data, or a cell -/
def newL (mu : Bool) (xs : List D) (σ : Store) : Res D := if xs.length ≤ lim then (if mu then .ok (.ref σ.length) (σ ++ [.lst xs]) else .ok (.lst xs) σ) else .bad
def newD (mu : Bool) (ks : List Key) (vs : List D) (σ : Store) : Res D := if mu then .ok (.ref σ.length) (σ ++ [.dic ks vs]) else .ok (.dic ks vs) σ
def newT (xs : List D) (σ : Store) : Res D := if xs.length ≤ lim then .ok (.tup xs) σ else .bad
def truthD : D → Option Bool
  | .non => some false
  | .bl b => some b
  | .int i => some (i != 0)
  | .str x => if x.length ≤ lim then some (x.length != 0) else none
  | .tup xs => some (!xs.isEmpty)
  | .ro xs => some (!xs.isEmpty)
  | .lst xs => some (!xs.isEmpty)
  | .dic ks _ => some (!ks.isEmpty)
  | _ => none
def cmpable (d : D) : Bool := d.pure && d.py.canLay0 && decide (d.py.depth ≤ 64)
def mulOk (i j : Int) : Bool := decide ((-(2 ^ 64) < i ∧ i < 2 ^ 64) ∨ (-(2 ^ 64) < j ∧ j < 2 ^ 64))
def binD (op : BOp) (a b : D) (σ : Store) : Res D := match op, view σ a, view σ b with
  | .add, .int i, .int j => .ok (.int (i + j)) σ
  | .sub, .int i, .int j => .ok (.int (i - j)) σ
  | .mul, .int i, .int j => if mulOk i j then .ok (.int (i * j)) σ else .bad
  | .fdiv, .int i, .int j => if j ≠ 0 ∧ j.natAbs < 1073741824 then .ok (.int (i.fdiv j)) σ else .bad
  | .mod, .int i, .int j => if j ≠ 0 then .ok (.int (i.fmod j)) σ else .bad
  | .pow, .int i, .int j => if 0 ≤ j ∧ j ≤ 1000000 ∧ i.natAbs < 2 ^ 64 then .ok (.int (i ^ j.toNat)) σ else .bad
  | .add, .str x, .str y => if x.length + y.length ≤ lim then .ok (.str (x ++ y)) σ else .bad
  | .add, .lst xs, .lst ys => newL false (xs ++ ys) σ
  | .add, .tup xs, .tup ys => newT (xs ++ ys) σ
  | .mul, .lst xs, .int k => if -(2 ^ 63) ≤ k ∧ k < 2 ^ 63 then newL false (List.replicate k.toNat xs).flatten σ else .bad
  | _, _, _ => .bad
def strLt (x y : Str) : Bool := decide (x.cps.toList < y.cps.toList)
def look (ks : List Key) (vs : List D) (k : Key) : Option D := ((ks.zip vs).find? fun p => decide (p.1 = k)).map (·.2)
def isNonD : D → Bool
  | .non => true
  | _ => false
def cmpD (op : COp) (a b : D) (σ : Store) : Res D := match op, view σ a, view σ b with
  | .eq, .int i, .int j => .ok (.bl (decide (i = j))) σ
  | .eq, .str i, .str j => .ok (.bl (decide (i = j))) σ
  | .ne, .int i, .int j => .ok (.bl (!decide (i = j))) σ
  | .ne, .str i, .str j => .ok (.bl (!decide (i = j))) σ
  | .eq, x, y => if cmpable x && cmpable y then .ok (.bl (PyData.eqv x.py y.py)) σ else .bad
  | .ne, x, y => if cmpable x && cmpable y then .ok (.bl (!PyData.eqv x.py y.py)) σ else .bad
  | .lt, .int i, .int j => .ok (.bl (decide (i < j))) σ
  | .le, .int i, .int j => .ok (.bl (decide (i ≤ j))) σ
  | .gt, .int i, .int j => .ok (.bl (decide (j < i))) σ
  | .ge, .int i, .int j => .ok (.bl (decide (j ≤ i))) σ
  | .lt, .str i, .str j => .ok (.bl (strLt i j)) σ
  | .le, .str i, .str j => .ok (.bl (!strLt j i)) σ
  | .gt, .str i, .str j => .ok (.bl (strLt j i)) σ
  | .ge, .str i, .str j => .ok (.bl (!strLt i j)) σ
  | .isin, .str i, .str j => .ok (.bl (!(Builtin.Str.occurrences j i 0 j.length 1).isEmpty)) σ
  | .notin, .str i, .str j => .ok (.bl (!!(Builtin.Str.occurrences j i 0 j.length 1).isEmpty)) σ
  | .isin, x, .dic ks vs => match dKey x with
    | some k => .ok (.bl (look ks vs k).isSome) σ
    | none => .bad
  | .notin, x, .dic ks vs => match dKey x with
    | some k => .ok (.bl (!(look ks vs k).isSome)) σ
    | none => .bad
  | .isin, x, .lst ys => if cmpable x && cmpable (.lst ys) then .ok (.bl (ys.any fun y => PyData.eqv y.py x.py)) σ else .bad
  | .notin, x, .lst ys => if cmpable x && cmpable (.lst ys) then .ok (.bl (!ys.any fun y => PyData.eqv y.py x.py)) σ else .bad
  | .isin, x, .tup ys => if cmpable x && cmpable (.tup ys) then .ok (.bl (ys.any fun y => PyData.eqv y.py x.py)) σ else .bad
  | .notin, x, .tup ys => if cmpable x && cmpable (.tup ys) then .ok (.bl (!ys.any fun y => PyData.eqv y.py x.py)) σ else .bad
  | .is, x, .non => .ok (.bl (isNonD x)) σ
  | .isnot, x, .non => .ok (.bl (!isNonD x)) σ
  | _, _, _ => .bad
def idxD (a i : D) (σ : Store) : Res D := match view σ a, i with
  | .ro xs, .int i => match atI xs i with
    | some d => .ok d σ
    | none => .bad
  | .lst xs, .int i => match atI xs i with
    | some d => .ok d σ
    | none => .bad
  | .tup xs, .int i => match atI xs i with
    | some d => .ok d σ
    | none => .bad
  | .str x, .int i => if x.length ≤ lim then (match atI x.cps.toList i with
    | some c => .ok (.str ⟨#[c]⟩) σ
    | none => .bad) else .bad
  | .dic ks vs, k => match dKey k with
    | some k => (match look ks vs k with
      | some d => .ok d σ
      | none => .bad)
    | none => .bad
  | _, _ => .bad
def optI : D → Option (Option Int)
  | .non => some none
  | .int i => some (some i)
  | _ => none
def cutL {α : Type} (xs : List α) (lo hi : Option Int) : List α := (xs.drop (HT.sIx xs.length 0 lo)).take (HT.sIx xs.length xs.length hi - HT.sIx xs.length 0 lo)
def sliceD (mu : Bool) (a : D) (lo hi : D) (σ : Store) : Res D := match view σ a, optI lo, optI hi with
  | .lst xs, some l, some h => newL mu (cutL xs l h) σ
  | .ro xs, some l, some h => newL mu (cutL xs l h) σ
  | .tup xs, some l, some h => newT (cutL xs l h) σ
  | .str x, some l, some h => if x.length ≤ lim then .ok (.str ⟨(cutL x.cps.toList l h).toArray⟩) σ else .bad
  | _, _, _ => .bad
def revD (mu : Bool) (a : D) (σ : Store) : Res D := match view σ a with
  | .lst xs => newL mu xs.reverse σ
  | .ro xs => newL mu xs.reverse σ
  | _ => .bad
def strsOf : List D → Option (List Str)
  | [] => some []
  | .str x :: r => (strsOf r).map (x :: ·)
  | _ :: _ => none
def intsOf : List D → Option (List Int)
  | [] => some []
  | .int x :: r => (intsOf r).map (x :: ·)
  | _ :: _ => none
def blsOf : List D → Option (List Bool)
  | [] => some []
  | .bl x :: r => (blsOf r).map (x :: ·)
  | _ :: _ => none
/-- pairs for dict(..) -/
def pairsOf : List D → Option (List (Key × D))
  | [] => some []
  | .tup [k, v] :: r => match dKey k with
    | some k => (pairsOf r).map ((k, v) :: ·)
    | none => none
  | _ :: _ => none
def putD (kvs : List (Key × D)) (k : Key) (v : D) : List (Key × D) :=
  if (kvs.any fun kv => decide (kv.1 = k)) = true then kvs.map (fun kv => if kv.1 = k then (kv.1, v) else kv) else kvs ++ [(k, v)]
def mergeD (kvs more : List (Key × D)) : List (Key × D) := more.foldl (fun acc kv => putD acc kv.1 kv.2) kvs
def sortS (xs : List Str) : List Str := xs.mergeSort fun a b => !strLt b a
def reprOk (d : D) : Bool := d.pure && d.py.showable && decide (d.py.shown.length ≤ lim) && decide (d.py.depth ≤ 100)
def biD (b : Bi) (mu : Bool) (a : D) (σ : Store) : Res D := match b, view σ a with
  | .len, .lst xs => .ok (.int xs.length) σ
  | .len, .ro xs => .ok (.int xs.length) σ
  | .len, .tup xs => .ok (.int xs.length) σ
  | .len, .str x => if x.length ≤ lim then .ok (.int x.length) σ else .bad
  | .len, .dic ks _ => .ok (.int ks.length) σ
  | .list, .lst xs => newL mu xs σ
  | .list, .ro xs => newL mu xs σ
  | .list, .tup xs => newL mu xs σ
  | .list, .dic ks _ => newL mu (ks.map keyD) σ
  | .tuple, .lst xs => newT xs σ
  | .tuple, .ro xs => newT xs σ
  | .tuple, .tup xs => .ok (.tup xs) σ
  | .int, .int i => .ok (.int i) σ
  | .int, .bl k => .ok (.int (if k then 1 else 0)) σ
  | .str, .int i => if i.natAbs.log2 < 1920 then .ok (.str (toString i)) σ else .bad
  | .repr, d => if reprOk d then .ok (.str d.py.shown) σ else .bad
  | .all, .lst xs => match blsOf xs with
    | some bs => .ok (.bl (bs.all id)) σ
    | none => .bad
  | .any, .lst xs => match blsOf xs with
    | some bs => .ok (.bl (bs.any id)) σ
    | none => .bad
  | .sum, .lst xs => match intsOf xs with
    | some ns => .ok (.int ns.sum) σ
    | none => .bad
  | .sorted, .lst xs => match strsOf xs with
    | some ss => newL mu ((sortS ss).map D.str) σ
    | none => .bad
  | .sorted, .dic ks _ => match strsOf (ks.map keyD) with
    | some ss => newL mu ((sortS ss).map D.str) σ
    | none => .bad
  | .sorted, .set ss => newL mu ((sortS ss).map D.str) σ
  | .set, .lst xs => match strsOf xs with
    | some ss => if ss.length < 1000 then .ok (.set ss.eraseDups) σ else .bad
    | none => .bad
  | .dict, .lst xs => match pairsOf xs with
    | some kvs => newD mu ((mergeD [] kvs).map (·.1)) ((mergeD [] kvs).map (·.2)) σ
    | none => .bad
  | _, _ => .bad
def isTy : Ty → D → Bool
  | .str, .str _ => true
  | .tup, .tup _ => true
  | .int, .int _ => true
  | .int, .bl _ => true
  | .bool, .bl _ => true
  | .list, .lst _ => true
  | .list, .ro _ => true
  | .dict, .dic _ _ => true
  | _, _ => false
def meD (m : Me) (o : D) (ds : List D) (σ : Store) : Res D := match m, o, ds with
  | .append, .ref n, [d] => match σ[n]? with
    | some (.lst xs) => if xs.length < lim then .ok .non (σ.set n (.lst (xs ++ [d]))) else .bad
    | _ => .bad
  | .pop, .ref n, [] => match σ[n]? with
    | some (.lst xs) => match xs[xs.length - 1]? with
      | some d => .ok d (σ.set n (.lst xs.dropLast))
      | none => .bad
    | _ => .bad
  | .extend, .ref n, [d] => match σ[n]?, view σ d with
    | some (.lst xs), .lst ys => if xs.length + ys.length ≤ lim then .ok .non (σ.set n (.lst (xs ++ ys))) else .bad
    | _, _ => .bad
  | .get, o, [k] => match view σ o, dKey k with
    | .dic ks vs, some k => .ok ((look ks vs k).getD .non) σ
    | _, _ => .bad
  | .get, o, [k, d] => match view σ o, dKey k with
    | .dic ks vs, some k => .ok ((look ks vs k).getD d) σ
    | _, _ => .bad
  | .join, .str x, [d] => match view σ d with
    | .lst xs => match strsOf xs with
      | some ss => if (ss.map (·.length)).sum + ss.length * x.length ≤ lim then .ok (.str (Txt.join x ss)) σ else .bad
      | none => .bad
    | _ => .bad
  | _, _, _ => .bad
def meOk : Me → D → Bool
  | .append, .lst _ => true
  | .pop, .lst _ => true
  | .extend, .lst _ => true
  | .get, .dic _ _ => true
  | .join, .str _ => true
  | _, _ => false
def isiD (ts : List Ty) (x : D) (σ : Store) : Res D := match view σ x with
  | .set _ => .bad
  | .ref _ => .bad
  | y => .ok (.bl (ts.any fun t => isTy t y)) σ
def putAt (o k v : D) (σ : Store) : Option Store := match o with
  | .ref n => match σ[n]? with
    | some (.lst xs) => match k with
      | .int i => match ixN xs.length i with
        | some j => some (σ.set n (.lst (xs.set j v)))
        | none => none
      | _ => none
    | some (.dic ks vs) => match dKey k with
      | some k => if ks.length < lim then some (σ.set n (.dic ((putD (ks.zip vs) k v).map (·.1)) ((putD (ks.zip vs) k v).map (·.2)))) else none
      | none => none
    | _ => none
  | _ => none
/-- targets -/
def setAll : List Nat → List D → Env → Option Env
  | [], [], ρ => some ρ
  | i :: is, d :: ds, ρ => setAll is ds (ρ.set i (some d))
  | _, _, _ => none
def tgD (t : Tg) (d : D) (ρ : Env) : Option Env := match t with
  | .nm i => some (ρ.set i (some d))
  | .tup is => match d with
    | .tup ds => setAll is ds ρ
    | _ => none
def itemsOf (σ : Store) (k : IK) (ds : List D) : Option (List D) := match k, ds with
  | .on, [.lst xs] => some xs
  | .on, [.ro xs] => some xs
  | .on, [.tup xs] => some xs
  | .on, [.str x] => some (x.cps.toList.map fun c => D.str ⟨#[c]⟩)
  | .rng, [.int n] => if n < 2 ^ 62 ∧ -(2 ^ 62) ≤ n then some ((List.range n.toNat).map fun (i : Nat) => D.int (i : Int)) else none
  | .rng2, [.int a, .int b] => if -(2 ^ 62) ≤ a ∧ a < 2 ^ 62 ∧ -(2 ^ 62) ≤ b ∧ b < 2 ^ 62 then some ((List.range (b - a).toNat).map fun (i : Nat) => D.int (a + (i : Int))) else none
  | _, _ => none
def wipeE (ρ : Env) : List Nat → Env
  | [] => ρ
  | v :: vs => (wipeE ρ vs).set v none
/-- a comprehension's loop: acc, what is made so far -/
def compL (t : Tg) (c elt : Env → Store → Res D) (ρ : Env) : List D → List D → Store → Res (List D)
  | [], acc, σ => .ok acc σ
  | d :: ds, acc, σ => match tgD t d ρ with
    | none => .bad
    | some ρ' => match c ρ' σ with
      | .ok b σ1 => match truthD (view σ1 b) with
        | some true => match elt ρ' σ1 with
          | .ok v σ2 => if acc.length < lim then compL t c elt ρ ds (acc ++ [v]) σ2 else .bad
          | _ => .bad
        | some false => compL t c elt ρ ds acc σ1
        | none => .bad
      | _ => .bad
abbrev CallSem := Nat → List D → Store → Res D
/-- the keyword arguments' order: pm lists, for each parameter, which argument it is -/
def permD (ds : List D) (pm : List Nat) : Option (List D) := pm.mapM fun i => ds[i]?
def Ex.isStar : Ex → Bool
  | .star _ => true
  | _ => false
/-- k1, v1, k2, v2, .. -/
def pairUp : List D → Option (List (Key × D))
  | [] => some []
  | k :: v :: r => match dKey k with
    | some k => (pairUp r).map ((k, v) :: ·)
    | none => none
  | _ => none
def splice (st : Bool) (x : D) (σ : Store) : Option (List D) := match st with
  | false => some [x]
  | true => match view σ x with
    | .lst xs => some xs
    | .tup xs => some xs
    | _ => none
mutual
def ev (Φ : CallSem) : Ex → Env → Store → Res D
  | .nop, _, σ => .ok .non σ
  | .loc i, ρ, σ => match ρ[i]? with
    | some (some d) => .ok d σ
    | _ => .bad
  | .non, _, σ => .ok .non σ
  | .bl b, _, σ => .ok (.bl b) σ
  | .int i, _, σ => .ok (.int i) σ
  | .str x, _, σ => .ok (.str x) σ
  | .glo _ d, _, σ => .ok d σ
  | .bin op a b, ρ, σ => (ev Φ a ρ σ).bind fun x σ1 => (ev Φ b ρ σ1).bind fun y σ2 => binD op x y σ2
  | .neg a, ρ, σ => (ev Φ a ρ σ).bind fun x σ1 => match x with
    | .int i => .ok (.int (-i)) σ1
    | _ => .bad
  | .cmp op a b, ρ, σ => (ev Φ a ρ σ).bind fun x σ1 => (ev Φ b ρ σ1).bind fun y σ2 => cmpD op x y σ2
  | .chain op op' a b c, ρ, σ => (ev Φ a ρ σ).bind fun x σ1 => (ev Φ b ρ σ1).bind fun y σ2 => (cmpD op x y σ2).bind fun r σ3 => match r with
    | .bl true => (ev Φ c ρ σ3).bind fun z σ4 => cmpD op' y z σ4
    | .bl false => .ok (.bl false) σ3
    | _ => .bad
  | .and a b, ρ, σ => (ev Φ a ρ σ).bind fun x σ1 => match truthD (view σ1 x) with
    | some true => ev Φ b ρ σ1
    | some false => .ok x σ1
    | none => .bad
  | .or a b, ρ, σ => (ev Φ a ρ σ).bind fun x σ1 => match truthD (view σ1 x) with
    | some true => .ok x σ1
    | some false => ev Φ b ρ σ1
    | none => .bad
  | .not a, ρ, σ => (ev Φ a ρ σ).bind fun x σ1 => match truthD (view σ1 x) with
    | some b => .ok (.bl (!b)) σ1
    | none => .bad
  | .ite c a b, ρ, σ => (ev Φ c ρ σ).bind fun x σ1 => match truthD (view σ1 x) with
    | some true => ev Φ a ρ σ1
    | some false => ev Φ b ρ σ1
    | none => .bad
  | .tup es, ρ, σ => (evs Φ es ρ σ).bind fun ds σ1 => newT ds σ1
  | .lst mu es, ρ, σ => (evs Φ es ρ σ).bind fun ds σ1 => newL mu ds σ1
  | .dic mu kvs, ρ, σ => (evs Φ kvs ρ σ).bind fun ds σ1 => match pairUp ds with
    | some kvs => if kvs.length ≤ 15 then newD mu ((mergeD [] kvs).map (·.1)) ((mergeD [] kvs).map (·.2)) σ1 else .bad
    | none => .bad
  | .star a, ρ, σ => ev Φ a ρ σ
  | .idx a i, ρ, σ => (ev Φ a ρ σ).bind fun x σ1 => (ev Φ i ρ σ1).bind fun y σ2 => idxD x y σ2
  | .slice mu a lo hi, ρ, σ => (ev Φ a ρ σ).bind fun x σ1 => (ev Φ lo ρ σ1).bind fun l σ2 => if (optI l).isSome then (ev Φ hi ρ σ2).bind fun h σ3 => if (optI h).isSome then sliceD mu x l h σ3 else .bad else .bad
  | .rev mu a, ρ, σ => (ev Φ a ρ σ).bind fun x σ1 => revD mu x σ1
  | .call f es ks dv pm, ρ, σ => (evs Φ es ρ σ).bind fun xs σ1 => (evs Φ ks ρ σ1).bind fun ys σ2 => match permD (xs ++ ys ++ dv) pm with
    | some ds => Φ f ds σ2
    | none => .bad
  | .bi b mu a, ρ, σ => (ev Φ a ρ σ).bind fun x σ1 => biD b mu x σ1
  | .isi a ts, ρ, σ => (ev Φ a ρ σ).bind fun x σ1 => isiD ts x σ1
  | .me m o es, ρ, σ => (ev Φ o ρ σ).bind fun x σ1 => if meOk m (view σ1 x) then (evs Φ es ρ σ1).bind fun ds σ2 => meD m x ds σ2 else .bad
  | .comp mu own t k its c elt, ρ, σ => (evs Φ its ρ σ).bind fun ds σ1 => match itemsOf σ1 k ds with
    | some xs => (compL t (ev Φ c) (ev Φ elt) (wipeE ρ own) xs [] σ1).bind fun ys σ2 => newL mu ys σ2
    | none => .bad
def evs (Φ : CallSem) : List Ex → Env → Store → Res (List D)
  | [], _, σ => .ok [] σ
  | e :: es, ρ, σ => (ev Φ e ρ σ).bind fun x σ1 => match splice e.isStar x σ1 with
    | some xs => (evs Φ es ρ σ1).bind fun ds σ2 => .ok (xs ++ ds) σ2
    | none => .bad
end
/-! ### statements -/
inductive Out where
  | nx (ρ : Env) (σ : Store) | rt (d : D) (σ : Store) | bk (ρ : Env) (σ : Store) | ct (ρ : Env) (σ : Store)
  | exc (c : Nat) (d : D) (σ : Store) | bad
def Out.of {α : Type} (r : Res α) (f : α → Store → Out) : Out := match r with
  | .ok a σ => f a σ
  | .exc c d σ => .exc c d σ
  | .bad => .bad
/-- for: the items left -/
def forL (t : Tg) (b : Env → Store → Out) : List D → Env → Store → Out
  | [], ρ, σ => .nx ρ σ
  | d :: ds, ρ, σ => match tgD t d ρ with
    | none => .bad
    | some ρ1 => match b ρ1 σ with
      | .nx ρ2 σ2 => forL t b ds ρ2 σ2
      | .ct ρ2 σ2 => forL t b ds ρ2 σ2
      | .bk ρ2 σ2 => .nx ρ2 σ2
      | o => o
def whlN (c : Env → Store → Res D) (b : Env → Store → Out) : Nat → Env → Store → Out
  | 0, _, _ => .bad
  | n + 1, ρ, σ => Out.of (c ρ σ) fun x σ1 => match truthD (view σ1 x) with
    | some true => match b ρ σ1 with
      | .nx ρ2 σ2 => whlN c b n ρ2 σ2
      | .ct ρ2 σ2 => whlN c b n ρ2 σ2
      | .bk ρ2 σ2 => .nx ρ2 σ2
      | o => o
    | some false => .nx ρ σ1
    | none => .bad
/-- a bound of the turns of every while -/
def whFuel : Nat := 1000000000
mutual
def ex (Φ : CallSem) : Stt → Env → Store → Out
  | .asg t e, ρ, σ => Out.of (ev Φ e ρ σ) fun x σ1 => match tgD t x ρ with
    | some ρ1 => .nx ρ1 σ1
    | none => .bad
  | .par i j a b, ρ, σ => Out.of (ev Φ a ρ σ) fun x σ1 => Out.of (ev Φ b ρ σ1) fun y σ2 => .nx ((ρ.set i (some x)).set j (some y)) σ2
  | .put o k e, ρ, σ => Out.of (ev Φ e ρ σ) fun x σ1 => Out.of (ev Φ o ρ σ1) fun y σ2 => Out.of (ev Φ k ρ σ2) fun z σ3 => match putAt y z x σ3 with
    | some σ4 => .nx ρ σ4
    | none => .bad
  | .exp e, ρ, σ => Out.of (ev Φ e ρ σ) fun _ σ1 => .nx ρ σ1
  | .ret e, ρ, σ => Out.of (ev Φ e ρ σ) fun x σ1 => .rt x σ1
  | .ite c a b, ρ, σ => Out.of (ev Φ c ρ σ) fun x σ1 => match truthD (view σ1 x) with
    | some true => exs Φ a ρ σ1
    | some false => exs Φ b ρ σ1
    | none => .bad
  | .whl c b, ρ, σ => whlN (ev Φ c) (exs Φ b) whFuel ρ σ
  | .for t k its b, ρ, σ => Out.of (evs Φ its ρ σ) fun ds σ1 => match itemsOf σ1 k ds with
    | some xs => forL t (exs Φ b) xs ρ σ1
    | none => .bad
  | .brk, ρ, σ => .bk ρ σ
  | .cont, ρ, σ => .ct ρ σ
  | .pass, ρ, σ => .nx ρ σ
  | .frz i, ρ, σ => match ρ[i]? with
    | some (some (.ref n)) => match σ[n]? with
      | some (.lst xs) => .nx (ρ.set i (some (.lst xs))) (σ.set n .dead)
      | some (.dic ks vs) => .nx (ρ.set i (some (.dic ks vs))) (σ.set n .dead)
      | _ => .bad
    | _ => .bad
def exs (Φ : CallSem) : List Stt → Env → Store → Out
  | [], ρ, σ => .nx ρ σ
  | s :: ss, ρ, σ => match ex Φ s ρ σ with
    | .nx ρ1 σ1 => exs Φ ss ρ1 σ1
    | o => o
end
/-! ### defs -/
structure Fd where
  np : Nat
  ns : Nat
  body : List Stt
open Classical in
/-- behind a call: the callee's own cells are dropped where nothing leads to them -/
noncomputable def leave (σ0 : Store) (d : D) (σ : Store) : Res D :=
  if d.under σ0.length = true ∧ ∀ i c, i < σ0.length → σ[i]? = some c → (σ0[i]? = some c ∨ c.under σ0.length = true) then .ok d (σ.take σ0.length) else .ok d σ
noncomputable def callK (pr : List Fd) : Nat → CallSem
  | 0, _, _, _ => .bad
  | k + 1, f, ds, σ => match pr[f]? with
    | none => .bad
    | some fd => if ds.length = fd.np then (match exs (callK pr k) fd.body (ds.map some ++ List.replicate (fd.ns - ds.length) none) σ with
      | .nx _ σ1 => leave σ .non σ1
      | .rt d σ1 => leave σ d σ1
      | .exc c d σ1 => .exc c d σ1
      | _ => .bad) else .bad
end Iv

set_option Elab.async false
set_option linter.all false
set_option maxRecDepth 100000
set_option maxHeartbeats 4000000
/-! sets of texts: made of a list, sorted -/
namespace Iv
open PySem PySem.Spec PyProof.Rows L2
def textOf (e : Int × Value) : Str := match e.2 with
  | .str x _ => x
  | _ => Str.empty
def GoodS (w : World) (e : Int × Value) : Prop := ∃ x tk, e.2 = Value.str x tk ∧ e.1 = hashStr w x
/-- the set of texts at a -/
def SetS (w : World) (h : Heap) (a : Addr) (S : Str → Bool) (n : Nat) : Prop :=
  ∃ o es ep t, h.get? a = some o ∧ o.ExactSet ∧ o.data = .set es ep t ∧ (∀ e ∈ es.toList, GoodS w e) ∧ (es.toList.map textOf).Nodup ∧ (∀ k, S k = true ↔ k ∈ es.toList.map textOf) ∧
    es.size < scanBound ∧ t.fits es.size = true ∧ es.size = n ∧ Ris t.place.toList ∧ (w.params.followText "set-order" = true ∨ t.led = true)
section
variable {P : Program} {w : World} {h h' : Heap} {a : Addr} {S : Str → Bool} {n : Nat}
theorem SetS.at (R : SetS w h a S n) (k : ∀ o, h.get? a = some o → h'.get? a = some o) : SetS w h' a S n :=
  let ⟨o, es, ep, t, ho, r⟩ := R
  ⟨o, es, ep, t, k o ho, r⟩
theorem SetS.congr {S' : Str → Bool} (R : SetS w h a S n) (e : ∀ k, S' k = S k) : SetS w h a S' n := by
  have q : S' = S := funext e
  rw [q]; exact R
theorem goodS_elems {l : List (Int × Value)} (g : ∀ e ∈ l, GoodS w e) : ElemsOf (PySem.strKind P w) l := fun e he => by
  obtain ⟨k, tk, h1, h2⟩ := g e he
  exact ⟨⟨k, by rw [h1]; exact PySem.strKind_is P w k tk, h2⟩, by rw [h1]; rfl⟩
theorem goodS_is {e : Int × Value} (g : GoodS w e) (k : Str) : (PySem.strKind P w).is k e.2 = true ↔ textOf e = k := by
  obtain ⟨k0, tk, h1, _⟩ := g
  unfold textOf
  rw [h1]
  show (Value.isStrOf k (.str k0 tk) = true) ↔ k0 = k
  constructor
  · intro q
    obtain ⟨t, e⟩ := Value.isStrOf_shape q
    cases e; rfl
  · intro q
    subst q
    exact PySem.strKind_is P w k0 tk
theorem goodS_mem {l : List (Int × Value)} (g : ∀ e ∈ l, GoodS w e) (k : Str) : k ∈ l.map textOf ↔ ∃ e ∈ l, (PySem.strKind P w).is k e.2 = true := by
  rw [List.mem_map]
  exact ⟨fun ⟨e, he, q⟩ => ⟨e, he, (goodS_is (g e he) k).2 q⟩, fun ⟨e, he, q⟩ => ⟨e, he, (goodS_is (g e he) k).1 q⟩⟩
end
section
variable {P : Program} {w : World} {A : Around} {E : Value → Shared → Prop} {s : Shared} {a : Addr} {S : Str → Bool} {n : Nat}
theorem setS_tail {g : Bool → Sem Unit} (hg : ∀ (b : Bool) (s₁ : Shared) (Q' : Unit → Shared → Prop), Q' () s₁ → wpAny (model P w) A (g b) Q' E s₁)
    {o : Obj} {es : Array (Int × Value)} {ep : Nat} {t : SetTable} (ho : s.heap.get? a = some o) (hex : o.ExactSet) (hd : o.data = .set es ep t)
    {es1 : Array (Int × Value)} {t2 : SetTable} {S' : Str → Bool} (g1 : ∀ e ∈ es1.toList, GoodS w e) (nd1 : (es1.toList.map textOf).Nodup) (m1 : ∀ k, S' k = true ↔ k ∈ es1.toList.map textOf)
    (hb1 : es1.size < scanBound) (hf2 : t2.fits es1.size = true) (hr : Ris t2.place.toList) (hl : w.params.followText "set-order" = true ∨ t2.led = true) {wasDummy : Bool} {R : Option Bool → Shared → Prop}
    (hR : ∀ h', Heap.SameBut a s.heap h' → SetS w h' a S' es1.size → R (some true) { s with heap := h' }) :
    wpAny (model P w) A (do
        storeSet a es1 t2
        if (!wasDummy && t2.tooFull) = true then do
            g (relayAll t2 es1 (SetTable.grown es1.size)).2.2
            storeSet a (relayAll t2 es1 (SetTable.grown es1.size)).1 (relayAll t2 es1 (SetTable.grown es1.size)).2.1
            pure (some true)
          else pure (some true)) R E s := by
  refine wpAny_bind (wpAny_storeSet_of ho hd ?_ (fits_of_scanBound hb1))
  have ho1 := store_at (es' := es1) (t' := t2) ho hd
  have sb1 := Heap.SameBut.update s.heap a (Obj.putSet es1 t2)
  split
  · have pm := relayAll_perm t2 es1 (SetTable.grown es1.size)
    have hf3 := relayAll_fits t2 es1 (SetTable.grown es1.size)
    have hr3 := relayAll_ris t2 es1 (SetTable.grown es1.size)
    have hl3 := relayAll_led t2 es1 (SetTable.grown es1.size)
    generalize relayAll t2 es1 (SetTable.grown es1.size) = Z at pm hf3 hr3 hl3 ⊢
    obtain ⟨es2, t3, gave⟩ := Z
    dsimp only at pm hf3 hr3 hl3 ⊢
    have hsz : es2.size = es1.size := by rw [← Array.length_toList, pm.length_eq, Array.length_toList]
    have hb2 : es2.size < scanBound := by rw [hsz]; exact hb1
    refine wpAny_bind (hg _ _ _ ?_)
    refine wpAny_bind (wpAny_storeSet_of ho1 rfl ?_ (fits_of_scanBound hb2))
    have ho2 := store_at (es' := es2) (t' := t3) ho1 rfl
    refine wpAny_pure (hR _ (sb1.trans (Heap.SameBut.update _ a _)) ?_)
    exact ⟨_, es2, _, t3, ho2, hex, rfl, fun e he => g1 e (pm.mem_iff.mp he), (pm.map textOf).nodup_iff.mpr nd1, fun k => (m1 k).trans (pm.map textOf).mem_iff.symm, hb2, hf3, hsz, hr3, hl.imp id fun z => by rw [hl3]; exact z⟩
  · exact wpAny_pure (hR _ sb1 ⟨_, es1, _, t2, ho1, hex, rfl, g1, nd1, m1, hb1, hf2, rfl, hr, hl⟩)
theorem setS_add {k : Str} {tk : Tok} {Q : Bool → Shared → Prop} (R : SetS w s.heap a S n) (room : n + 1 < scanBound)
    (hQ : ∀ h', Heap.SameBut a s.heap h' → SetS w h' a (fun j => S j || decide (j = k)) (if S k = true then n else n + 1) → Q (!S k) { s with heap := h' }) :
    wpAny (model P w) A (setAddHashed a (.str k tk) ((PySem.strKind P w).hash k)) Q E s := by
  obtain ⟨o, es, ep, t, ho, hex, hd, g, nd, hm, hb, hf, hn, hr, hl⟩ := R
  have hkey : (PySem.strKind P w).is k (.str k tk) = true := PySem.strKind_is P w k tk
  have hsc : (Value.str k tk).scannable = true := rfl
  have hel : ElemsOf (PySem.strKind P w) es.toList := goodS_elems g
  unfold setAddHashed setAddHashedIn
  refine wpAny_holding (wpAny_bind (wpAny_setState_of ho hd hf ?_))
  dsimp only
  rw [byScan_of hsc hb hel]
  simp only [↓reduceIte]
  unfold setAddByScan
  refine wpAny_bind ?_
  refine wpAny_bind (wpAny_rule ?_)
  refine wpAny_bind (wpAny_setScan_of hkey ho hd hf hel ?_)
  cases hfi : List.findIdx? (fun e => (PySem.strKind P w).is k e.2) es.toList with
  | some j =>
    dsimp only
    obtain ⟨hj, pj, _⟩ := List.findIdx?_eq_some_iff_getElem.mp hfi
    have hSk : S k = true := (hm k).2 ((goodS_mem (P := P) g k).2 ⟨es.toList[j], List.getElem_mem hj, pj⟩)
    refine wpAny_pure (wpAny_pure ?_)
    have q := hQ s.heap (Heap.SameBut.refl a s.heap) ⟨o, es, ep, t, ho, hex, hd, g, nd, fun i => by
      rw [Bool.or_eq_true, decide_eq_true_eq, ← hm i]
      exact ⟨fun z => z.elim id (fun e => e ▸ hSk), .inl⟩, hb, hf, by rw [if_pos hSk]; exact hn, hr, hl⟩
    rw [hSk] at q
    exact q
  | none =>
    dsimp only
    have hnk : k ∉ es.toList.map textOf := fun z => by
      obtain ⟨e, he, q⟩ := (goodS_mem (P := P) g k).1 z
      have c := List.findIdx?_eq_none_iff.mp hfi e he
      rw [q] at c
      cases c
    have hSk : S k = false := by
      cases q : S k with
      | false => rfl
      | true => exact absurd ((hm k).1 q) hnk
    have hgw : ∀ (b : Bool) {s₁ : Shared} {Q' : Unit → Shared → Prop}, Q' () s₁ → wpAny (model P w) A (match b with | true => rule "set.scan.the-table-gave-way" | false => pure ()) Q' E s₁ :=
      fun b s₁ Q' q => by cases b <;> first | exact wpAny_pure q | exact wpAny_rule q
    have pm := layNew_perm t es ((PySem.strKind P w).hash k) (.str k tk)
    have hf1 := layNew_fits t es ((PySem.strKind P w).hash k) (.str k tk)
    have hr1 := layNew_ris t es ((PySem.strKind P w).hash k) (.str k tk) hr
    have hl1 := layNew_led t es ((PySem.strKind P w).hash k) (.str k tk)
    generalize layNew t es ((PySem.strKind P w).hash k) (.str k tk) = Z at pm hf1 hr1 hl1 ⊢
    obtain ⟨es1, t1, wasDummy, gave⟩ := Z
    dsimp only at pm hf1 hr1 hl1 ⊢
    rw [Array.toList_push] at pm
    have pc : es1.toList.Perm (((PySem.strKind P w).hash k, Value.str k tk) :: es.toList) := pm.trans (List.perm_append_singleton _ _)
    have pk : (es1.toList.map textOf).Perm (k :: es.toList.map textOf) := pc.map textOf
    have g1 : ∀ e ∈ es1.toList, GoodS w e := fun e he => by
      rcases List.mem_cons.mp (pc.mem_iff.mp he) with z | z
      · rw [z]; exact ⟨k, tk, rfl, rfl⟩
      · exact g e z
    have nd1 : (es1.toList.map textOf).Nodup := pk.nodup_iff.mpr (List.nodup_cons.mpr ⟨hnk, nd⟩)
    have m1 : ∀ i, (S i || decide (i = k)) = true ↔ i ∈ es1.toList.map textOf := fun i => by
      rw [Bool.or_eq_true, decide_eq_true_eq, hm i, pk.mem_iff, List.mem_cons]
      exact Or.comm
    have hsz : es1.size = n + 1 := by rw [← Array.length_toList, pc.length_eq, List.length_cons, Array.length_toList, hn]
    have hb1 : es1.size < scanBound := by rw [hsz]; exact room
    have hled : w.params.followText "set-order" = true ∨ t1.led = true := hl.imp id fun z => by rw [hl1]; exact z
    have fin : ∀ h', Heap.SameBut a s.heap h' → SetS w h' a (fun j => S j || decide (j = k)) es1.size → Q true { s with heap := h' } := fun h' sb r => by
      have q := hQ h' sb
      rw [hSk] at q
      rw [hsz] at r
      exact q r
    refine wpAny_bind (hgw _ ?_)
    split
    · refine wpAny_bind ?_
      rw [hashByValue_scannable 8 hsc]
      refine wpAny_pure ?_
      refine setS_tail ?_ ho hex hd g1 nd1 m1 hb1 ?_ ?_ ?_ ?_
      · intro b s₁ Q' q; cases b <;> first | exact wpAny_pure q | exact wpAny_rule q
      · first | (split <;> first | exact hf1 | exact SetTable.fits_plain_off hf1) | exact hf1
      · first | (split <;> exact hr1) | exact hr1
      · first | (split <;> exact hled) | exact hled
      · intro h' sb r; dsimp only; exact wpAny_pure (fin h' sb r)
    · refine wpAny_bind (wpAny_pure ?_)
      simp only [↓reduceIte]
      refine setS_tail ?_ ho hex hd g1 nd1 m1 hb1 hf1 hr1 hled ?_
      · intro b s₁ Q' q; cases b <;> first | exact wpAny_pure q | exact wpAny_rule q
      · intro h' sb r; dsimp only; exact wpAny_pure (fin h' sb r)
theorem setS_fresh {h : Heap} {a : Addr} (ho : h.get? a = some { cls := .type "set", dict := none, data := .set #[] 0 (.fresh 0 0 (!w.params.followText "set-order")) }) : SetS w h a (fun _ => false) 0 :=
  ⟨_, #[], 0, _, ho, ⟨rfl, rfl, rfl⟩, rfl, (fun e he => by simp at he), (by simp), (fun k => by simp), (by decide), (by rfl), rfl, List.Pairwise.nil, by
    show _ ∨ (!w.params.followText "set-order") = true
    cases w.params.followText "set-order"
    · exact .inr rfl
    · exact .inl rfl⟩
/-- how many texts stand among the first i -/
theorem dups_step {xs : List Str} {i : Nat} {x : Str} (h : xs[i]? = some x) : (xs.take (i + 1)).eraseDups.length = if x ∈ xs.take i then (xs.take i).eraseDups.length else (xs.take i).eraseDups.length + 1 := by
  have e : xs.take (i + 1) = xs.take i ++ [x] := by
    rw [List.take_succ, h]; rfl
  rw [e, List.eraseDups_append]
  by_cases hm : x ∈ xs.take i
  · rw [if_pos hm]
    have : [x].removeAll (xs.take i) = [] := by simp [List.removeAll, hm]
    rw [this]; simp
  · rw [if_neg hm]
    have : [x].removeAll (xs.take i) = [x] := by simp [List.removeAll, hm]
    rw [this]; simp [List.eraseDups_cons]
theorem dups_le (xs : List Str) (i : Nat) : (xs.take i).eraseDups.length ≤ i := by
  have h1 : ∀ (n : Nat) (l : List Str), l.length ≤ n → l.eraseDups.length ≤ l.length := by
    intro n
    induction n with
    | zero => intro l hl; cases l with | nil => simp | cons => simp at hl
    | succ n ih =>
      intro l hl
      cases l with
      | nil => simp
      | cons x r =>
        rw [List.eraseDups_cons, List.length_cons, List.length_cons]
        have h2 := List.length_filter_le (fun b => !b == x) r
        have := ih (r.filter fun b => !b == x) (by simp at hl; omega)
        omega
  have := h1 _ (xs.take i) (Nat.le_refl _)
  have := List.length_take_le i xs
  omega
theorem loopSetS {I : Addr} {fp wr : List Addr} {G : Array GenState → Array GenState → Prop} {n : Nat} {Pv : Nat → Value → Prop} {St : Nat → Shared → Prop} {R : Result → Shared → Prop}
    (W : WalksS P w A.in1 I fp wr G n Pv St) (S : Addr) (hSf : S ∉ fp) (xs : List Str) (hsz : xs.length = n) (hn : n + 1 < scanBound) (hval : ∀ i v, Pv i v → ∃ x t, xs[i]? = some x ∧ v = .str x t) :
    ∀ (k i : Nat) (s : Shared), n - i = k → i ≤ n → St i s → SetS w s.heap S (fun y => decide (y ∈ xs.take i)) (xs.take i).eraseDups.length →
      (∀ s', Moved (S :: wr) G s s' → SetS w s'.heap S (fun y => decide (y ∈ xs.take n)) (xs.take n).eraseDups.length → R (.ok (.ret .none)) s') →
      codeAny (model P w) A (.builtin "set.update.loop" ⟨[.ref S, .ref I], []⟩) R s := by
  have hSw : S ∉ wr := fun h => hSf (W.sub _ h)
  have hsub : ∀ b ∈ wr, b ∈ S :: wr := fun b hb => List.mem_cons_of_mem _ hb
  intro k
  induction k with
  | zero =>
    intro i s hk hi hst hS hR
    have hin : i = n := by omega
    subst hin
    refine codeAny_builtin F.entry_set_update_loop ?_
    rw [Around.under_plainId F.plain_set_update_loop _]
    show wpAny _ A.in1 (pyNext (.ref I) >>= _) _ _ s
    refine wpAny_bind (W.done s _ _ hst fun s' hm => ?_)
    show wpAny _ A.in1 (ret Value.none) _ _ s'
    exact wpAny_pure (hR s' (hm.mono hsub) (hS.at fun o e => hm.heap S o hSw e))
  | succ k ih =>
    intro i s hk hi hst hS hR
    have hlt : i < n := by omega
    refine codeAny_builtin F.entry_set_update_loop ?_
    rw [Around.under_plainId F.plain_set_update_loop _]
    show wpAny _ A.in1 (pyNext (.ref I) >>= _) _ _ s
    refine wpAny_bind (W.item i s _ _ hlt hst fun v s' hP hst' hm => ?_)
    obtain ⟨x, t, hx, rfl⟩ := hval i v hP
    have hS' : SetS w s'.heap S (fun y => decide (y ∈ xs.take i)) (xs.take i).eraseDups.length := hS.at fun o e => hm.heap S o hSw e
    show wpAny _ A.in1 (holding [Value.str x t] (setAdd S (.str x t)) >>= _) _ _ s'
    refine wpAny_bind (wpAny_holding ?_)
    unfold setAdd
    refine wpAny_holding ?_
    refine wpAny_bind ((PySem.strKind P w).pyHash (k := x) (PySem.strKind_is _ _ _ _) ?_)
    refine setS_add (s := { s' with toks := s'.toks + 1 }) hS' (by have := dups_le xs i; omega) fun h' hsb hS2 => ?_
    have hSi : SetS w h' S (fun y => decide (y ∈ xs.take (i + 1))) (xs.take (i + 1)).eraseDups.length := by
      have e : xs.take (i + 1) = xs.take i ++ [x] := by rw [List.take_succ, hx]; rfl
      rw [dups_step hx]
      have q : (if decide (x ∈ xs.take i) = true then (xs.take i).eraseDups.length else (xs.take i).eraseDups.length + 1) = if x ∈ xs.take i then (xs.take i).eraseDups.length else (xs.take i).eraseDups.length + 1 := by simp
      rw [← q]
      refine hS2.congr fun y => ?_
      rw [e]
      simp only [List.mem_append, List.mem_singleton, Bool.decide_or]
    refine wpAny_pure ⟨plainId_quiet F.plain_set_update_loop _, ih (i + 1) _ (by omega) hlt (W.frame _ s' _ _ hst' (Nat.le_succ _) fun b hb o e => ?_) hSi fun s'' hm'' hS'' => ?_⟩
    · rw [hsb.2 b (fun h : b = S => hSf (by rw [← h]; exact hb))]; exact e
    · refine hR s'' (Moved.trans W.gtrans ((hm.mono hsub).then_heap (Nat.le_succ _) fun b o hb e => ?_) hm'') hS''
      rw [hsb.2 b (fun h : b = S => hb (by rw [h]; exact List.mem_cons_self))]; exact e
/-- set(a list of texts) -/
theorem call_set_texts {l : Addr} {items : Array Value} {xs : List Str} {Q : Value → Shared → Prop} (hh : A.handled = none) (hl : s.heap.IsList l items) (hi : StrsAre items.toList xs) (hfew : xs.length + 1 < scanBound)
    (h : ∀ (h' : Heap) (tk : Nat), SetS w h' s.heap.objs.size (fun y => decide (y ∈ xs)) xs.eraseDups.length → (∀ b o, s.heap.get? b = some o → h'.get? b = some o) → Q (.ref s.heap.objs.size) { s with heap := h', toks := tk }) :
    wpAny (model P w) A (call (.type "set") [.ref l]) Q E s := by
  have hsz : xs.length = items.size := by rw [← StrsAre.len_eq hi, Array.length_toList]
  obtain ⟨c, tl, hmro⟩ := F.called_set.mro
  have hmade := F.called_set.made
  have hsub := F.called_set.sub
  refine wpAny_call (codeAny_of_tree ?_)
  show wpAny _ _ (callAny (.type "set") _) _ _ _
  refine wpAny_pure ⟨Code.quiet_builtin _ (by decide +kernel), codeAny_builtin F.entry_type_call ?_⟩
  rw [Around.under_plain (weight_type_call_type "set" [.ref l] []) rfl]
  have h1 := F.called_set.notType
  have h2 := F.called_set.canCreate
  have hct := F.typeCall_set_1 (.ref l)
  repeat (any_goals (first | assumption | wp_step))
  refine codeAny_mono (code_set_led1 (.ref l) (E := E) (Q₁ := fun obj s₁ => obj = .ref s.heap.objs.size ∧ s₁ = { s with heap := s.heap.push { cls := .type "set", dict := none, data := .set #[] 0 (.fresh 0 0 (!w.params.followText "set-order")) } }) ⟨rfl, rfl⟩) fun r s₁ hr => ?_
  cases r with
  | error e => exact hr
  | ok fl =>
    cases fl with
    | ret obj =>
      obtain ⟨rfl, rfl⟩ := hr
      have hS : (s.heap.push { cls := .type "set", dict := none, data := .set #[] 0 (.fresh 0 0 (!w.params.followText "set-order")) }).get? s.heap.objs.size = some { cls := .type "set", dict := none, data := .set #[] 0 (.fresh 0 0 (!w.params.followText "set-order")) } := Heap.get?_push_size _ rfl
      have hT : Shared.TypeIs { s with heap := s.heap.push { cls := .type "set", dict := none, data := .set #[] 0 (.fresh 0 0 (!w.params.followText "set-order")) } } (.ref s.heap.objs.size) "set" := ⟨_, hS, rfl⟩
      have hli := F.called_set.init.lookup
      have hbi := F.called_set.init.bind (.ref s.heap.objs.size)
      repeat (any_goals (first | assumption | wp_step))
      refine codeAny_mono (codeAny_call_builtin (R := wants (fun r s₂ => r = .none ∧ ∃ h' tk, s₂ = { s with heap := h', toks := tk } ∧ SetS w h' s.heap.objs.size (fun y => decide (y ∈ xs)) xs.eraseDups.length ∧ (∀ b o, s.heap.get? b = some o → h'.get? b = some o)) E) F.called_set.init.plain F.entry_set_init (check_set_init_1 hT ?_)) fun r₂ s₂ hr₂ => ?_
      · obtain ⟨ol, hol, hcl, nl, hdl⟩ := hl
        obtain ⟨ocls, odict, odata, oslots⟩ := ol
        simp only at hcl hdl
        subst hcl; subst hdl
        have hol' : (s.heap.push { cls := .type "set", dict := none, data := .set #[] 0 (.fresh 0 0 (!w.params.followText "set-order")) }).get? l = some { cls := .type "list", dict := odict, data := .seq items nl, slots := oslots } := Heap.get?_push_of_some _ hol
        have hsls := F.sub_list_set
        have hslf := F.sub_list_frozenset
        have hne : (Value.type "list" == Value.type "dict") = false := by decide
        have hl1 : (s.heap.push { cls := .type "set", dict := none, data := .set #[] 0 (.fresh 0 0 (!w.params.followText "set-order")) }).IsList l items := ⟨_, hol', rfl, nl, rfl⟩
        unfold Builtin.«set.__init__» noKeywords Builtin.Frozenset.updateFrom
        generalize hPI : pyIter = PI
        wp_walk
        subst hPI
        refine wpAny_pyIter_list hl1 ?_
        refine wpAny_bind (wpAny_runValue ?_)
        have hlS : l < s.heap.objs.size := Heap.lt_size hol
        have hh3 : A.in1.in1.in1.handled = none := by simp [hh]
        have hneI : l ≠ (s.heap.push { cls := .type "set", dict := none, data := .set #[] 0 (.fresh 0 0 (!w.params.followText "set-order")) }).objs.size := by
          rw [Heap.size_push]; exact Nat.ne_of_lt (Nat.lt_succ_of_lt hlS)
        have hSf : s.heap.objs.size ∉ [(s.heap.push { cls := .type "set", dict := none, data := .set #[] 0 (.fresh 0 0 (!w.params.followText "set-order")) }).objs.size, l] := by
          rw [Heap.size_push]; simp only [List.mem_cons, List.mem_singleton, List.not_mem_nil, or_false, not_or]
          exact ⟨Nat.ne_of_lt (Nat.lt_succ_self _), Nat.ne_of_gt hlS⟩
        have hval : ∀ (i : Nat) (v : Value), items[i]? = some v → ∃ x t, xs[i]? = some x ∧ v = .str x t := by
          intro i v hv
          obtain ⟨t, e⟩ := SS.strs_at hi i v (by rw [Array.getElem?_toList]; exact hv)
          have hlt : i < xs.length := by rw [hsz]; exact (Array.getElem?_eq_some_iff.mp hv).1
          refine ⟨xs.getD i Str.empty, t, ?_, e⟩
          rw [List.getD_eq_getElem?_getD, List.getElem?_eq_getElem hlt]; rfl
        have htake : xs.take items.size = xs := by rw [← hsz, List.take_length]
        refine loopSetS ((Walks.list hh3 _ l hneI items).toS) s.heap.objs.size hSf xs hsz (by rw [← hsz]; exact hfew) hval (items.size - 0) 0 _ (by omega) (Nat.zero_le _)
          ⟨⟨_, Heap.get?_push_size _ rfl, rfl, rfl⟩, (hl1.push _)⟩ ?hS0 ?hR
        case hS0 =>
          have hget : ((s.heap.push { cls := .type "set", dict := none, data := .set #[] 0 (.fresh 0 0 (!w.params.followText "set-order")) }).push { cls := .type "list_iterator", data := .fields #[.ref l, .int 0 0] }).get? s.heap.objs.size
              = some { cls := .type "set", dict := none, data := .set #[] 0 (.fresh 0 0 (!w.params.followText "set-order")) } := Heap.get?_push_of_some _ hS
          exact (setS_fresh hget).congr fun y => by simp
        case hR =>
          intro s' hm hS'
          rw [htake] at hS'
          obtain ⟨h', g', d', tk', os'⟩ := s'
          have eg : g' = s.gens := hm.gens
          have ed : d' = s.drawn := hm.drawn
          have eo : os' = s.os := hm.os
          subst eg; subst ed; subst eo
          show wpAny _ _ _ _ _ _
          refine wpAny_pure ?_
          show wpAny _ _ (ret Value.none) _ _ _
          refine wpAny_pure ⟨rfl, h', tk', rfl, hS', fun b o e => ?_⟩
          have hb := Heap.lt_size e
          have hb1 : b ≠ s.heap.objs.size := Nat.ne_of_lt hb
          have hb2 : b ≠ (s.heap.push { cls := .type "set", dict := none, data := .set #[] 0 (.fresh 0 0 (!w.params.followText "set-order")) }).objs.size := by
            rw [Heap.size_push]; exact Nat.ne_of_lt (Nat.lt_succ_of_lt hb)
          exact hm.heap b o (by simp only [List.mem_cons, List.mem_singleton, List.not_mem_nil, or_false, not_or]; exact ⟨hb1, hb2⟩) (Heap.get?_push_of_some _ (Heap.get?_push_of_some _ e))
      · cases r₂ with
        | error e => exact hr₂
        | ok fl₂ =>
          cases fl₂ with
          | ret r =>
            obtain ⟨rfl, h', tk, rfl, hS', hk'⟩ := hr₂
            repeat (any_goals (first | assumption | wp_step))
            exact h _ _ hS' hk'
          | _ => exact hr₂.elim
    | _ => exact hr.elim
theorem texts_of : ∀ (vs : List Value), (∀ v ∈ vs, ∃ x t, v = Value.str x t) → StrsAre vs (vs.map fun v => textOf (0, v))
  | [], _ => .nil
  | v :: r, h => by
    obtain ⟨x, t, rfl⟩ := h v List.mem_cons_self
    exact .cons x t (texts_of r fun u hu => h u (List.mem_cons_of_mem _ hu))
/-- sorted(a set of texts): xs, the texts in any order -/
theorem sorted_setS {S : Str → Bool} {n : Nat} {Q : Value → Shared → Prop} (R : SetS w s.heap a S n) (hh : A.handled = none)
    (hQ : ∀ s' p (out : Array Value) (c : Nat) (xs ys : List Str), (∀ b o, s.heap.get? b = some o → s'.heap.get? b = some o) → s'.gens = s.gens → s'.os = s.os → s.heap.objs.size ≤ p →
      s'.heap.get? p = some (seqObj "list" out c) → StrsAre out.toList ys → ys.Perm xs → sortedS ys = true → xs.Nodup → (∀ k, k ∈ xs ↔ S k = true) → ys.length ≤ sizeLine → Q (.ref p) s') :
    wpAny (model P w) A (call (.builtin "sorted") [.ref a]) Q E s := by
  obtain ⟨o, es, ep, t, ho, hex, hd, g, nd, hm, hb, hf, hn, hr, hl⟩ := R
  refine Calls.call_function_entry kind_sorted plain_sorted entry_sorted (args_sorted1 _) ?_
  unfold Builtin.«sorted»
  refine wpAny_bind (m := checkCount "sorted" 1 1 _) (wpAny_pure ?_)
  refine wpAny_bind (collect_set (A := A.in1) hh ⟨o, ho, hex.1, hd⟩ hf hb hr hl fun s1 vs k1 hz g1 o1 pm => ?_)
  have hvl : vs.length = es.size := by rw [pm.length_eq, List.length_map, Array.length_toList]
  have hbig : vs.length ≤ sizeLine := by
    rw [hvl, sizeLine_eq]
    have : scanBound ≤ 16777216 := by decide
    omega
  have hI : StrsAre vs (vs.map fun v => textOf (0, v)) := texts_of vs fun v hv => by
    obtain ⟨e, he, q⟩ := List.mem_map.mp (pm.mem_iff.mp hv)
    obtain ⟨k, tk, h1, _⟩ := g e he
    exact ⟨k, tk, by rw [← q]; exact h1⟩
  have pk : (vs.map fun v => textOf (0, v)).Perm (es.toList.map textOf) := by
    have q := pm.map fun v => textOf (0, v)
    rw [List.map_map] at q
    exact q
  refine wpAny_bind (wpAny_newList ?_ hbig)
  have hoL : (s1.heap.push (seqObj "list" vs.toArray 0)).get? s1.heap.objs.size = some (seqObj "list" vs.toArray 0) := Heap.get?_push_size _ rfl
  refine wpAny_bind (wpAny_holding (wpAny_call_entry slot_list_sort ⟨_, hoL, rfl⟩ entry_list_sort
    (list_sort_treeKAny strKind_oneLt (s := { s1 with heap := s1.heap.push (seqObj "list" vs.toArray 0) }) hoL hI.keysOf (fun v₁ v₂ rest e => keyKind_strs (by rw [← e]; exact hI)) hbig fun st' hp hs => ⟨_, rfl, ?_⟩) (args_list_sort _)))
  obtain ⟨ys, a1, a2, a3⟩ := sorted_out_str hI hp hs
  obtain ⟨c, hc⟩ := sortedHeap_at (vs := vs) (out := (arrOf st').map (·.2)) hoL
  refine wpAny_pure ⟨_, rfl, hQ _ s1.heap.objs.size ((arrOf st').map (·.2)) c (es.toList.map textOf) ys (fun b u e => ?_) g1 o1 hz hc a1 (a2.trans pk) a3 nd (fun k => (hm k).symm) (by rw [a2.length_eq, List.length_map]; exact hbig)⟩
  have q := k1 b u e
  have hlt := Heap.lt_size q
  show (sortedHeap (s1.heap.push (seqObj "list" vs.toArray 0)) s1.heap.objs.size vs ((arrOf st').map (·.2))).get? b = some u
  rw [sortedHeap_old (Nat.ne_of_lt hlt) (by rw [size_push']; exact Nat.lt_succ_of_lt hlt)]
  exact Heap.get?_push_of_some _ q
end
end Iv

set_option Elab.async false
set_option linter.all false
set_option maxHeartbeats 1000000
/-! worlds, what data stands for, the state's relation -/
namespace Iv
open PySem PySem.Spec L2

structure Wd where
  n : Nat
  μ : Nat → Addr
  F : Hp
  /-- objects under the making (a display's dict, a comprehension's list): nothing leads to them -/
  R : List (Addr × HO) := []
/-- a set of texts: HO by its members -/
abbrev SetHO (P : Program) (w : World) (a : Addr) (xs : List Str) : HO := .ext fun h => xs.Nodup ∧ SetS w h a (fun y => decide (y ∈ xs)) xs.length

section
variable (P : Program) (w : World) (K : PySem.W.Frag) (W : Wd)
mutual
def Rep : D → V → Prop
  | .non, v => v = .non
  | .bl b, v => v = .bl b
  | .int i, v => v = .int i
  | .str x, v => v = .str x
  | .tup ds, v => ∃ a vs, v = .ref a ∧ SqT K W.F a vs ∧ Reps ds vs
  | .lst ds, v => ∃ a vs, v = .ref a ∧ W.F a = some (.lst vs) ∧ Reps ds vs
  | .ro ds, v => ∃ a vs, v = .ref a ∧ SqL K W.F a vs ∧ Reps ds vs
  | .dic ks ds, v => ∃ a vs, v = .ref a ∧ W.F a = some (.dK (ks.zip vs)) ∧ ks.length = vs.length ∧ Reps ds vs
  | .set xs, v => ∃ a, v = .ref a ∧ W.F a = some (SetHO P w a xs)
  | .ref n, v => n < W.n ∧ v = .ref (W.μ n)
def Reps : List D → List V → Prop
  | [], vs => vs = []
  | d :: ds, vs => ∃ v r, vs = v :: r ∧ Rep d v ∧ Reps ds r
end
def CellOk (H : Hp) (a : Addr) : Cell → Prop
  | .lst xs => ∃ vs, H a = some (.lst vs) ∧ Reps P w K W xs vs
  | .dic ks ds => ∃ vs, H a = some (.dK (ks.zip vs)) ∧ ks.length = vs.length ∧ Reps P w K W ds vs
  | .dead => True
structure Rel (σ : Store) (H : Hp) : Prop where
  sub : ∀ a o, W.F a = some o → H a = some o
  len : σ.length = W.n
  cell : ∀ n c, σ[n]? = some c → CellOk P w K W H (W.μ n) c
  sep : ∀ n c, σ[n]? = some c → c ≠ .dead → W.F (W.μ n) = none
  inj : ∀ n m c c', σ[n]? = some c → σ[m]? = some c' → c ≠ .dead → c' ≠ .dead → W.μ n = W.μ m → n = m
  res : ∀ a o, (a, o) ∈ W.R → H a = some o ∧ W.F a = none ∧ ∀ n c, σ[n]? = some c → c ≠ .dead → W.μ n ≠ a
  one : (W.R.map (·.1)).Nodup
def EnvR (ρ : Env) (st : St) : Prop := ρ.length = st.length ∧ ∀ (i : Nat) (d : D), ρ[i]? = some (some d) → ∃ v, st[i]? = some (some v) ∧ Rep P w K W d v
end
def Ext (F F' : Hp) : Prop := ∀ a o, F a = some o → F' a = some o
structure Le0 (W W' : Wd) : Prop where
  n : W.n ≤ W'.n
  μ : ∀ i, i < W.n → W'.μ i = W.μ i
  F : Ext W.F W'.F
structure Le (W W' : Wd) : Prop extends Le0 W W' where
  R : W'.R = W.R
instance {W W' : Wd} : Coe (Le W W') (Le0 W W') := ⟨Le.toLe0⟩
theorem Le0.refl (W : Wd) : Le0 W W := ⟨Nat.le_refl _, fun _ _ => rfl, fun _ _ h => h⟩
theorem Le.refl (W : Wd) : Le W W := ⟨Le0.refl W, rfl⟩
theorem Le0.trans {W W1 W2 : Wd} (a : Le0 W W1) (b : Le0 W1 W2) : Le0 W W2 :=
  ⟨Nat.le_trans a.n b.n, fun i h => (b.μ i (Nat.lt_of_lt_of_le h a.n)).trans (a.μ i h), fun c o h => b.F c o (a.F c o h)⟩
theorem Le.trans {W W1 W2 : Wd} (a : Le W W1) (b : Le W1 W2) : Le W W2 := ⟨a.toLe0.trans b.toLe0, b.R.trans a.R⟩
theorem sqT_ext {K : PySem.W.Frag} {F F' : Hp} {a : Addr} {xs : List V} (e : Ext F F') (h : SqT K F a xs) : SqT K F' a xs := by
  rcases h with (h | ⟨o, h⟩) | h
  · exact .inl (.inl (e _ _ h))
  · exact .inl (.inr ⟨o, e _ _ h⟩)
  · exact .inr h
theorem sqL_ext {K : PySem.W.Frag} {F F' : Hp} {a : Addr} {xs : List V} (e : Ext F F') (h : SqL K F a xs) : SqL K F' a xs := by
  rcases h with (h | ⟨o, h⟩) | h
  · exact .inl (.inl (e _ _ h))
  · exact .inl (.inr ⟨o, e _ _ h⟩)
  · exact .inr h
section
variable {P : Program} {w : World} {K : PySem.W.Frag} {W W' : Wd}
mutual
theorem Rep.mono0 (le : Le0 W W') : ∀ {d : D} {v : V}, Rep P w K W d v → Rep P w K W' d v
  | .non, _, h => by simpa only [Rep] using h
  | .bl _, _, h => by simpa only [Rep] using h
  | .int _, _, h => by simpa only [Rep] using h
  | .str _, _, h => by simpa only [Rep] using h
  | .tup ds, v, h => by
    simp only [Rep] at h ⊢
    obtain ⟨a, vs, e, s, r⟩ := h
    exact ⟨a, vs, e, sqT_ext le.F s, Reps.mono0 le r⟩
  | .lst ds, v, h => by
    simp only [Rep] at h ⊢
    obtain ⟨a, vs, e, s, r⟩ := h
    exact ⟨a, vs, e, le.F _ _ s, Reps.mono0 le r⟩
  | .ro ds, v, h => by
    simp only [Rep] at h ⊢
    obtain ⟨a, vs, e, s, r⟩ := h
    exact ⟨a, vs, e, sqL_ext le.F s, Reps.mono0 le r⟩
  | .dic ks ds, v, h => by
    simp only [Rep] at h ⊢
    obtain ⟨a, vs, e, s, l, r⟩ := h
    exact ⟨a, vs, e, le.F _ _ s, l, Reps.mono0 le r⟩
  | .set xs, v, h => by
    simp only [Rep] at h ⊢
    obtain ⟨a, e, s⟩ := h
    exact ⟨a, e, le.F _ _ s⟩
  | .ref n, v, h => by
    simp only [Rep] at h ⊢
    exact ⟨Nat.lt_of_lt_of_le h.1 le.n, by rw [le.μ n h.1]; exact h.2⟩
theorem Reps.mono0 (le : Le0 W W') : ∀ {ds : List D} {vs : List V}, Reps P w K W ds vs → Reps P w K W' ds vs
  | [], vs, h => by simpa only [Reps] using h
  | d :: ds, vs, h => by
    simp only [Reps] at h ⊢
    obtain ⟨v, r, e, h1, h2⟩ := h
    exact ⟨v, r, e, Rep.mono0 le h1, Reps.mono0 le h2⟩
end
theorem Rep.mono (le : Le W W') {d : D} {v : V} (h : Rep P w K W d v) : Rep P w K W' d v := h.mono0 le.toLe0
theorem Reps.mono (le : Le W W') {ds : List D} {vs : List V} (h : Reps P w K W ds vs) : Reps P w K W' ds vs := h.mono0 le.toLe0
mutual
theorem Rep.under : ∀ {d : D} {v : V}, Rep P w K W d v → d.under W.n = true
  | .non, _, h => by simp only [D.under]
  | .bl _, _, h => by simp only [D.under]
  | .int _, _, h => by simp only [D.under]
  | .str _, _, h => by simp only [D.under]
  | .tup ds, v, h => by
    simp only [Rep, D.under] at h ⊢
    obtain ⟨a, vs, e, s, r⟩ := h
    exact Reps.under r
  | .lst ds, v, h => by
    simp only [Rep, D.under] at h ⊢
    obtain ⟨a, vs, e, s, r⟩ := h
    exact Reps.under r
  | .ro ds, v, h => by
    simp only [Rep, D.under] at h ⊢
    obtain ⟨a, vs, e, s, r⟩ := h
    exact Reps.under r
  | .dic ks ds, v, h => by
    simp only [Rep, D.under] at h ⊢
    obtain ⟨a, vs, e, s, l, r⟩ := h
    exact Reps.under r
  | .set xs, v, h => by simp only [D.under]
  | .ref n, v, h => by
    simp only [Rep, D.under] at h ⊢
    exact decide_eq_true h.1
theorem Reps.under : ∀ {ds : List D} {vs : List V}, Reps P w K W ds vs → D.unders W.n ds = true
  | [], vs, h => by simp only [D.unders]
  | d :: ds, vs, h => by
    simp only [Reps, D.unders, Bool.and_eq_true] at h ⊢
    obtain ⟨v, r, e, h1, h2⟩ := h
    exact ⟨Rep.under h1, Reps.under h2⟩
end
def Wd.cut (W : Wd) (n : Nat) : Wd := { W with n := n }
mutual
theorem Rep.cut {n : Nat} : ∀ {d : D} {v : V}, Rep P w K W d v → d.under n = true → Rep P w K (W.cut n) d v
  | .non, _, h, _ => by simpa only [Rep] using h
  | .bl _, _, h, _ => by simpa only [Rep] using h
  | .int _, _, h, _ => by simpa only [Rep] using h
  | .str _, _, h, _ => by simpa only [Rep] using h
  | .tup ds, v, h, u => by
    simp only [Rep, D.under] at h u ⊢
    obtain ⟨a, vs, e, s, r⟩ := h
    exact ⟨a, vs, e, s, Reps.cut r u⟩
  | .lst ds, v, h, u => by
    simp only [Rep, D.under] at h u ⊢
    obtain ⟨a, vs, e, s, r⟩ := h
    exact ⟨a, vs, e, s, Reps.cut r u⟩
  | .ro ds, v, h, u => by
    simp only [Rep, D.under] at h u ⊢
    obtain ⟨a, vs, e, s, r⟩ := h
    exact ⟨a, vs, e, s, Reps.cut r u⟩
  | .dic ks ds, v, h, u => by
    simp only [Rep, D.under] at h u ⊢
    obtain ⟨a, vs, e, s, l, r⟩ := h
    exact ⟨a, vs, e, s, l, Reps.cut r u⟩
  | .set xs, v, h, _ => by simp only [Rep] at h ⊢; exact h
  | .ref m, v, h, u => by
    simp only [Rep, D.under] at h u ⊢
    exact ⟨of_decide_eq_true u, h.2⟩
theorem Reps.cut {n : Nat} : ∀ {ds : List D} {vs : List V}, Reps P w K W ds vs → D.unders n ds = true → Reps P w K (W.cut n) ds vs
  | [], vs, h, _ => by simpa only [Reps] using h
  | d :: ds, vs, h, u => by
    simp only [Reps, D.unders, Bool.and_eq_true] at h u ⊢
    obtain ⟨v, r, e, h1, h2⟩ := h
    exact ⟨v, r, e, Rep.cut h1 u.1, Reps.cut h2 u.2⟩
end
/-! ### lists of data -/
theorem Reps.nil_iff {vs : List V} : Reps P w K W [] vs ↔ vs = [] := by simp only [Reps]
theorem Reps.cons_iff {d : D} {ds : List D} {v : V} {vs : List V} : Reps P w K W (d :: ds) (v :: vs) ↔ Rep P w K W d v ∧ Reps P w K W ds vs := by
  simp only [Reps]
  constructor
  · rintro ⟨v', r, e, h1, h2⟩
    cases e
    exact ⟨h1, h2⟩
  · rintro ⟨h1, h2⟩
    exact ⟨v, vs, rfl, h1, h2⟩
theorem Reps.nil : Reps P w K W [] [] := Reps.nil_iff.mpr rfl
theorem Reps.cons {d : D} {ds : List D} {v : V} {vs : List V} (h1 : Rep P w K W d v) (h2 : Reps P w K W ds vs) : Reps P w K W (d :: ds) (v :: vs) := Reps.cons_iff.mpr ⟨h1, h2⟩
theorem Reps.length : ∀ {ds : List D} {vs : List V}, Reps P w K W ds vs → ds.length = vs.length
  | [], vs, h => by rw [Reps.nil_iff.mp h]; rfl
  | d :: ds, [], h => by simp only [Reps] at h; obtain ⟨_, _, e, _⟩ := h; cases e
  | d :: ds, v :: vs, h => congrArg (· + 1) (Reps.length (Reps.cons_iff.mp h).2)
theorem Reps.get : ∀ {ds : List D} {vs : List V} {i : Nat} {d : D}, Reps P w K W ds vs → ds[i]? = some d → ∃ v, vs[i]? = some v ∧ Rep P w K W d v
  | [], _, _, _, _, e => by simp at e
  | _ :: _, [], _, _, h, _ => by have := Reps.length h; simp at this
  | d :: ds, v :: vs, 0, _, h, e => by simp at e; subst e; exact ⟨v, rfl, (Reps.cons_iff.mp h).1⟩
  | d :: ds, v :: vs, i + 1, _, h, e => by
    obtain ⟨u, h1, h2⟩ := Reps.get (i := i) (Reps.cons_iff.mp h).2 (by simpa using e)
    exact ⟨u, by simpa using h1, h2⟩
theorem Reps.append : ∀ {ds es : List D} {vs us : List V}, Reps P w K W ds vs → Reps P w K W es us → Reps P w K W (ds ++ es) (vs ++ us)
  | [], _, vs, _, h, h' => by rw [Reps.nil_iff.mp h]; exact h'
  | _ :: _, _, [], _, h, _ => by have := Reps.length h; simp at this
  | d :: ds, es, v :: vs, us, h, h' => Reps.cons (Reps.cons_iff.mp h).1 (Reps.append (Reps.cons_iff.mp h).2 h')
theorem Reps.one {d : D} {v : V} (h : Rep P w K W d v) : Reps P w K W [d] [v] := Reps.cons h Reps.nil
theorem Reps.take : ∀ {ds : List D} {vs : List V} (n : Nat), Reps P w K W ds vs → Reps P w K W (ds.take n) (vs.take n)
  | [], _, _, h => by rw [Reps.nil_iff.mp h]; simp [Reps.nil]
  | _ :: _, [], _, h => by have := Reps.length h; simp at this
  | _ :: _, _ :: _, 0, _ => by simp [Reps.nil]
  | d :: ds, v :: vs, n + 1, h => by simpa using Reps.cons (Reps.cons_iff.mp h).1 (Reps.take n (Reps.cons_iff.mp h).2)
theorem Reps.drop : ∀ {ds : List D} {vs : List V} (n : Nat), Reps P w K W ds vs → Reps P w K W (ds.drop n) (vs.drop n)
  | [], _, _, h => by rw [Reps.nil_iff.mp h]; simp [Reps.nil]
  | _ :: _, [], _, h => by have := Reps.length h; simp at this
  | _ :: _, _ :: _, 0, h => by simpa using h
  | d :: ds, v :: vs, n + 1, h => by simpa using Reps.drop n (Reps.cons_iff.mp h).2
theorem Reps.reverse : ∀ {ds : List D} {vs : List V}, Reps P w K W ds vs → Reps P w K W ds.reverse vs.reverse
  | [], _, h => by rw [Reps.nil_iff.mp h]; simp [Reps.nil]
  | _ :: _, [], h => by have := Reps.length h; simp at this
  | d :: ds, v :: vs, h => by
    rw [List.reverse_cons, List.reverse_cons]
    exact Reps.append (Reps.reverse (Reps.cons_iff.mp h).2) (Reps.one (Reps.cons_iff.mp h).1)
theorem Reps.set {d : D} {v : V} (hd : Rep P w K W d v) : ∀ {ds : List D} {vs : List V} (n : Nat), Reps P w K W ds vs → Reps P w K W (ds.set n d) (vs.set n v)
  | [], _, _, h => by rw [Reps.nil_iff.mp h]; simp [Reps.nil]
  | _ :: _, [], _, h => by have := Reps.length h; simp at this
  | _ :: _, _ :: _, 0, h => by simpa using Reps.cons hd (Reps.cons_iff.mp h).2
  | d' :: ds, v' :: vs, n + 1, h => by simpa using Reps.cons (Reps.cons_iff.mp h).1 (Reps.set hd n (Reps.cons_iff.mp h).2)
theorem Reps.dropLast {ds : List D} {vs : List V} (h : Reps P w K W ds vs) : Reps P w K W ds.dropLast vs.dropLast := by
  rw [List.dropLast_eq_take, List.dropLast_eq_take, Reps.length h]
  exact Reps.take _ h
theorem Reps.rep {ds : List D} {vs : List V} (h : Reps P w K W ds vs) : ∀ n : Nat, Reps P w K W (List.replicate n ds).flatten (List.replicate n vs).flatten
  | 0 => by simp [Reps.nil]
  | n + 1 => by
    rw [List.replicate_succ, List.replicate_succ, List.flatten_cons, List.flatten_cons]
    exact Reps.append h (Reps.rep h n)
theorem Reps.strs : ∀ {ds : List D} {vs : List V} {ss : List Str}, Reps P w K W ds vs → strsOf ds = some ss → vs = ss.map V.str
  | [], vs, ss, h, e => by simp [strsOf] at e; subst e; rw [Reps.nil_iff.mp h]; rfl
  | _ :: _, [], _, h, _ => by have := Reps.length h; simp at this
  | d :: ds, v :: vs, ss, h, e => by
    obtain ⟨h1, h2⟩ := Reps.cons_iff.mp h
    cases d <;> simp only [strsOf, Option.map_eq_some_iff, reduceCtorEq] at e
    obtain ⟨r, e, rfl⟩ := e
    simp only [Rep] at h1
    rw [h1, Reps.strs h2 e] <;> rfl
theorem Reps.ints : ∀ {ds : List D} {vs : List V} {ss : List Int}, Reps P w K W ds vs → intsOf ds = some ss → vs = ss.map V.int
  | [], vs, ss, h, e => by simp [intsOf] at e; subst e; rw [Reps.nil_iff.mp h]; rfl
  | _ :: _, [], _, h, _ => by have := Reps.length h; simp at this
  | d :: ds, v :: vs, ss, h, e => by
    obtain ⟨h1, h2⟩ := Reps.cons_iff.mp h
    cases d <;> simp only [intsOf, Option.map_eq_some_iff, reduceCtorEq] at e
    obtain ⟨r, e, rfl⟩ := e
    simp only [Rep] at h1
    rw [h1, Reps.ints h2 e] <;> rfl
theorem Reps.bls : ∀ {ds : List D} {vs : List V} {ss : List Bool}, Reps P w K W ds vs → blsOf ds = some ss → vs = ss.map V.bl
  | [], vs, ss, h, e => by simp [blsOf] at e; subst e; rw [Reps.nil_iff.mp h]; rfl
  | _ :: _, [], _, h, _ => by have := Reps.length h; simp at this
  | d :: ds, v :: vs, ss, h, e => by
    obtain ⟨h1, h2⟩ := Reps.cons_iff.mp h
    cases d <;> simp only [blsOf, Option.map_eq_some_iff, reduceCtorEq] at e
    obtain ⟨r, e, rfl⟩ := e
    simp only [Rep] at h1
    rw [h1, Reps.bls h2 e] <;> rfl
theorem Reps.ofStrs : ∀ (ss : List Str), Reps P w K W (ss.map D.str) (ss.map V.str)
  | [] => Reps.nil
  | x :: r => Reps.cons (by simp only [Rep]) (Reps.ofStrs r)
theorem Reps.ofKeys : ∀ (ks : List Key), Reps P w K W (ks.map keyD) (ks.map kV)
  | [] => Reps.nil
  | x :: r => Reps.cons (by cases x <;> simp only [keyD, kV, Rep]) (Reps.ofKeys r)
theorem Rep.key {d : D} {k : Key} {v : V} (h : Rep P w K W d v) (e : dKey d = some k) : v = kV k := by
  cases d <;> simp only [dKey, reduceCtorEq, Option.some.injEq] at e <;> subst e <;> simp only [Rep] at h <;> exact h
/-! ### the state turns -/
variable {σ : Store} {H : Hp}
theorem Rel.fresh {p : Addr} (r : Rel P w K W σ H) (h : H p = none) : W.F p = none := by
  cases e : W.F p with
  | none => rfl
  | some o => rw [r.sub p o e] at h; cases h
def Wd.add (W : Wd) (p : Addr) (o : HO) : Wd := { W with F := upd W.F p o }
theorem Rel.leAdd {p : Addr} {o : HO} (r : Rel P w K W σ H) (h : H p = none) : Le W (W.add p o) :=
  ⟨⟨Nat.le_refl _, fun _ _ => rfl, fun a u e => by
    show upd W.F p o a = some u
    rw [upd_ne (ne_of_none e (r.fresh h))]
    exact e⟩, rfl⟩
theorem CellOk.mono0 {W W' : Wd} {H H' : Hp} {a : Addr} {c : Cell} (le : Le0 W W') (hH : ∀ o, H a = some o → H' a = some o) (h : CellOk P w K W H a c) : CellOk P w K W' H' a c := by
  cases c with
  | lst xs => obtain ⟨vs, e, q⟩ := h; exact ⟨vs, hH _ e, Reps.mono0 le q⟩
  | dic ks xs => obtain ⟨vs, e, l, q⟩ := h; exact ⟨vs, hH _ e, l, Reps.mono0 le q⟩
  | dead => trivial
theorem CellOk.mono {W W' : Wd} {H H' : Hp} {a : Addr} {c : Cell} (le : Le W W') (hH : ∀ o, H a = some o → H' a = some o) (h : CellOk P w K W H a c) : CellOk P w K W' H' a c := h.mono0 le.toLe0 hH
theorem CellOk.there {a : Addr} {c : Cell} (h : CellOk P w K W H a c) (nd : c ≠ .dead) : ∃ o, H a = some o := by
  cases c with
  | lst xs => obtain ⟨vs, e, q⟩ := h; exact ⟨_, e⟩
  | dic ks xs => obtain ⟨vs, e, l, q⟩ := h; exact ⟨_, e⟩
  | dead => exact absurd rfl nd
/-- a new object that never changes -/
theorem Rel.add {p : Addr} {o : HO} (r : Rel P w K W σ H) (h : H p = none) : Rel P w K (W.add p o) σ (upd H p o) where
  sub := fun a u e => by
    have e : upd W.F p o a = some u := e
    by_cases ha : a = p
    · subst ha; rw [upd_same] at e ⊢; exact e
    · rw [upd_ne ha] at e ⊢; exact r.sub a u e
  len := r.len
  cell := fun n c e => (r.cell n c e).mono (r.leAdd h) fun u (q : H (W.μ n) = some u) => by
    show upd H p o (W.μ n) = some u
    rw [upd_ne (ne_of_none q h)]; exact q
  sep := fun n c e nd => by
    obtain ⟨u, q⟩ := (r.cell n c e).there nd
    show upd W.F p o (W.μ n) = none
    rw [upd_ne (ne_of_none q h)]; exact r.sep n c e nd
  inj := r.inj
  res := fun a u q => by
    obtain ⟨h1, h2, h3⟩ := r.res a u q
    have ne := ne_of_none h1 h
    refine ⟨by rw [upd_ne ne]; exact h1, ?_, h3⟩
    show upd W.F p o a = none
    rw [upd_ne ne]; exact h2
  one := r.one
def Wd.push (W : Wd) (p : Addr) : Wd := { W with n := W.n + 1, μ := fun i => if i = W.n then p else W.μ i }
theorem lePush (W : Wd) (p : Addr) : Le W (W.push p) :=
  ⟨⟨Nat.le_succ _, fun i h => by show (if i = W.n then p else W.μ i) = W.μ i; rw [if_neg (Nat.ne_of_lt h)], fun _ _ h => h⟩, rfl⟩
theorem get_snoc {α : Type} {l : List α} {x y : α} {n : Nat} (h : (l ++ [x])[n]? = some y) : (l[n]? = some y ∧ n < l.length) ∨ (n = l.length ∧ y = x) := by
  by_cases hn : n < l.length
  · rw [List.getElem?_append_left hn] at h; exact .inl ⟨h, hn⟩
  · rw [List.getElem?_append_right (by omega)] at h
    have : n - l.length = 0 := by
      cases e : n - l.length with
      | zero => rfl
      | succ k => rw [e] at h; simp at h
    rw [this] at h; simp at h
    exact .inr ⟨by omega, h.symm⟩
/-- a new cell -/
theorem Rel.push {p : Addr} {o : HO} {c : Cell} (r : Rel P w K W σ H) (h : H p = none) (hc : CellOk P w K (W.push p) (upd H p o) p c) : Rel P w K (W.push p) (σ ++ [c]) (upd H p o) where
  sub := fun a u e => by
    have e : W.F a = some u := e
    rw [upd_ne (ne_of_none (r.sub a u e) h)]; exact r.sub a u e
  len := by rw [List.length_append, List.length_singleton, r.len]; rfl
  cell := fun n c' e => by
    rcases get_snoc e with ⟨e, hn⟩ | ⟨rfl, rfl⟩
    · rw [r.len] at hn
      show CellOk P w K _ _ (if n = W.n then p else W.μ n) c'
      rw [if_neg (Nat.ne_of_lt hn)]
      exact (r.cell n c' e).mono (lePush W p) fun u q => by rw [upd_ne (ne_of_none q h)]; exact q
    · show CellOk P w K _ _ (if σ.length = W.n then p else W.μ σ.length) c'
      rw [if_pos r.len]; exact hc
  sep := fun n c' e nd => by
    show W.F (if n = W.n then p else W.μ n) = none
    rcases get_snoc e with ⟨e, hn⟩ | ⟨rfl, rfl⟩
    · rw [r.len] at hn
      rw [if_neg (Nat.ne_of_lt hn)]; exact r.sep n c' e nd
    · rw [if_pos r.len]; exact r.fresh h
  inj := fun n m c1 c2 e1 e2 n1 n2 q => by
    have q : (if n = W.n then p else W.μ n) = (if m = W.n then p else W.μ m) := q
    rcases get_snoc e1 with ⟨f1, hn⟩ | ⟨f1, g1⟩
    · rw [if_neg (by rw [r.len] at hn; omega)] at q
      rcases get_snoc e2 with ⟨f2, hm⟩ | ⟨f2, g2⟩
      · rw [if_neg (by rw [r.len] at hm; omega)] at q
        exact r.inj n m c1 c2 f1 f2 n1 n2 q
      · rw [if_pos (f2.trans r.len)] at q
        obtain ⟨u, z⟩ := (r.cell n c1 f1).there n1
        rw [q, h] at z; cases z
    · rw [if_pos (f1.trans r.len)] at q
      rcases get_snoc e2 with ⟨f2, hm⟩ | ⟨f2, g2⟩
      · rw [if_neg (by rw [r.len] at hm; omega)] at q
        obtain ⟨u, z⟩ := (r.cell m c2 f2).there n2
        rw [← q, h] at z; cases z
      · exact f1.trans f2.symm
  res := fun a u q => by
    obtain ⟨h1, h2, h3⟩ := r.res a u q
    have ne := ne_of_none h1 h
    refine ⟨by rw [upd_ne ne]; exact h1, h2, fun n c' e nd => ?_⟩
    show (if n = W.n then p else W.μ n) ≠ a
    rcases get_snoc e with ⟨e, hn⟩ | ⟨rfl, rfl⟩
    · rw [r.len] at hn
      rw [if_neg (Nat.ne_of_lt hn)]; exact h3 n c' e nd
    · rw [if_pos r.len]; exact Ne.symm ne
  one := r.one
theorem get_set {α : Type} {l : List α} {x y : α} {n m : Nat} (h : (l.set n x)[m]? = some y) : (m = n ∧ y = x) ∨ (m ≠ n ∧ l[m]? = some y) := by
  by_cases e : m = n
  · subst e
    rw [List.getElem?_set] at h
    simp at h
    exact .inl ⟨rfl, h.2.symm⟩
  · rw [List.getElem?_set_ne (Ne.symm e)] at h; exact .inr ⟨e, h⟩
/-- a cell is written -/
theorem Rel.put {n : Nat} {o : HO} {c c' : Cell} (r : Rel P w K W σ H) (e : σ[n]? = some c) (nd : c ≠ .dead) (hc : CellOk P w K W (upd H (W.μ n) o) (W.μ n) c') (nd' : c' ≠ .dead) :
    Rel P w K W (σ.set n c') (upd H (W.μ n) o) where
  sub := fun a u q => by
    have ne : a ≠ W.μ n := fun z => by rw [z, r.sep n c e nd] at q; cases q
    rw [upd_ne ne]; exact r.sub a u q
  len := by rw [List.length_set]; exact r.len
  cell := fun m d q => by
    rcases get_set q with ⟨rfl, rfl⟩ | ⟨hm, q⟩
    · exact hc
    · cases d with
      | dead => trivial
      | lst xs =>
        have ne : W.μ m ≠ W.μ n := fun z => hm (r.inj m n _ c q e (by simp) nd z)
        exact (r.cell m _ q).mono (Le.refl W) fun u z => by rw [upd_ne ne]; exact z
      | dic ks xs =>
        have ne : W.μ m ≠ W.μ n := fun z => hm (r.inj m n _ c q e (by simp) nd z)
        exact (r.cell m _ q).mono (Le.refl W) fun u z => by rw [upd_ne ne]; exact z
  sep := fun m d q ndd => by
    rcases get_set q with ⟨rfl, rfl⟩ | ⟨hm, q⟩
    · exact r.sep _ c e nd
    · exact r.sep m d q ndd
  inj := fun m k d1 d2 q1 q2 n1 n2 z => by
    rcases get_set q1 with ⟨f1, g1⟩ | ⟨hm, f1⟩
    · rcases get_set q2 with ⟨f2, g2⟩ | ⟨hk, f2⟩
      · exact f1.trans f2.symm
      · exact f1.trans (r.inj n k c d2 e f2 nd n2 (by rw [← f1]; exact z))
    · rcases get_set q2 with ⟨f2, g2⟩ | ⟨hk, f2⟩
      · exact (r.inj m n d1 c f1 e n1 nd (by rw [← f2]; exact z)).trans f2.symm
      · exact r.inj _ _ d1 d2 f1 f2 n1 n2 z
  res := fun a u q => by
    obtain ⟨h1, h2, h3⟩ := r.res a u q
    have ne : a ≠ W.μ n := Ne.symm (h3 n c e nd)
    refine ⟨by rw [upd_ne ne]; exact h1, h2, fun m d q ndd => ?_⟩
    rcases get_set q with ⟨rfl, rfl⟩ | ⟨hm, q⟩
    · exact Ne.symm ne
    · exact h3 m d q ndd
  one := r.one
/-- a cell becomes data that never changes -/
theorem Rel.freeze {n : Nat} {o : HO} {c : Cell} (r : Rel P w K W σ H) (e : σ[n]? = some c) (nd : c ≠ .dead) (hH : H (W.μ n) = some o) :
    Le W (W.add (W.μ n) o) ∧ Rel P w K (W.add (W.μ n) o) (σ.set n .dead) H := by
  have le : Le W (W.add (W.μ n) o) := ⟨⟨Nat.le_refl _, fun _ _ => rfl, fun a u q => by
    have ne : a ≠ W.μ n := fun z => by rw [z, r.sep n c e nd] at q; cases q
    show upd W.F (W.μ n) o a = some u
    rw [upd_ne ne]; exact q⟩, rfl⟩
  refine ⟨le, ⟨fun a u q => ?_, ?_, fun m d q => ?_, fun m d q ndd => ?_, fun m k d1 d2 q1 q2 n1 n2 z => ?_, fun a u q => ?_, r.one⟩⟩
  · have q : upd W.F (W.μ n) o a = some u := q
    by_cases ha : a = W.μ n
    · subst ha; rw [upd_same] at q; cases q; exact hH
    · rw [upd_ne ha] at q; exact r.sub a u q
  · rw [List.length_set]; exact r.len
  · rcases get_set q with ⟨rfl, rfl⟩ | ⟨hm, q⟩
    · trivial
    · exact (r.cell m d q).mono le fun _ z => z
  · rcases get_set q with ⟨rfl, rfl⟩ | ⟨hm, q⟩
    · exact absurd rfl ndd
    · show upd W.F (W.μ n) o (W.μ m) = none
      rw [upd_ne fun z => hm (r.inj m n d c q e ndd nd z)]
      exact r.sep m d q ndd
  · rcases get_set q1 with ⟨f1, g1⟩ | ⟨hm, f1⟩
    · exact absurd g1 n1
    · rcases get_set q2 with ⟨f2, g2⟩ | ⟨hk, f2⟩
      · exact absurd g2 n2
      · exact r.inj _ _ d1 d2 f1 f2 n1 n2 z
  · obtain ⟨h1, h2, h3⟩ := r.res a u q
    have ne : a ≠ W.μ n := Ne.symm (h3 n c e nd)
    refine ⟨h1, ?_, fun m d q ndd => ?_⟩
    · show upd W.F (W.μ n) o a = none
      rw [upd_ne ne]; exact h2
    · rcases get_set q with ⟨rfl, rfl⟩ | ⟨hm, q⟩
      · exact absurd rfl ndd
      · exact h3 m d q ndd
theorem Cell.under_of {n : Nat} {a : Addr} {c : Cell} (h : CellOk P w K W H a c) (hn : W.n = n) : c.under n = true := by
  subst hn
  cases c with
  | lst xs => obtain ⟨vs, e, q⟩ := h; exact q.under
  | dic ks xs => obtain ⟨vs, e, l, q⟩ := h; exact q.under
  | dead => rfl
theorem CellOk.cut {n : Nat} {a : Addr} {c : Cell} (h : CellOk P w K W H a c) (u : c.under n = true) : CellOk P w K (W.cut n) H a c := by
  cases c with
  | lst xs => obtain ⟨vs, e, q⟩ := h; exact ⟨vs, e, q.cut u⟩
  | dic ks xs => obtain ⟨vs, e, l, q⟩ := h; exact ⟨vs, e, l, q.cut u⟩
  | dead => trivial
/-- the callee's cells are dropped -/
theorem Rel.cut {W0 : Wd} {σ0 : Store} {H0 : Hp} (r0 : Rel P w K W0 σ0 H0) (le : Le W0 W) (r : Rel P w K W σ H)
    (h : ∀ i c, i < σ0.length → σ[i]? = some c → (σ0[i]? = some c ∨ c.under σ0.length = true)) : Le W0 (W.cut σ0.length) ∧ Rel P w K (W.cut σ0.length) (σ.take σ0.length) H := by
  have hn : σ0.length ≤ σ.length := by rw [r0.len, r.len]; exact le.n
  have tk : ∀ {i : Nat} {c : Cell}, (σ.take σ0.length)[i]? = some c → i < σ0.length ∧ σ[i]? = some c := fun {i c} q => by
    rw [List.getElem?_take] at q
    split at q
    · exact ⟨by assumption, q⟩
    · cases q
  refine ⟨⟨⟨by show W0.n ≤ σ0.length; rw [r0.len]; exact Nat.le_refl _, le.μ, le.F⟩, le.R⟩, ⟨r.sub, by rw [List.length_take]; show _ = σ0.length; omega, fun i c q => ?_, fun i c q => r.sep i c (tk q).2, fun i j c d q1 q2 => r.inj i j c d (tk q1).2 (tk q2).2, fun a o q => ⟨(r.res a o q).1, (r.res a o q).2.1, fun n c e => (r.res a o q).2.2 n c (tk e).2⟩, r.one⟩⟩
  obtain ⟨hi, q⟩ := tk q
  refine (r.cell i c q).cut ?_
  rcases h i c hi q with z | z
  · exact Cell.under_of (r0.cell i c z) r0.len.symm
  · exact z
end
/-! ### objects under the making -/
def Wd.resv (W : Wd) (p : Addr) (o : HO) : Wd := { W with R := (p, o) :: W.R }
def Wd.free (W : Wd) (R : List (Addr × HO)) : Wd := { W with R := R }
section
variable {P : Program} {w : World} {K : PySem.W.Frag} {W : Wd} {σ : Store} {H : Hp}
theorem le0_R {W W' : Wd} (h1 : W'.n = W.n) (h2 : W'.μ = W.μ) (h3 : W'.F = W.F) : Le0 W W' := ⟨by rw [h1]; exact Nat.le_refl _, fun _ _ => by rw [h2], fun _ _ h => by rw [h3]; exact h⟩
theorem Rel.resv {p : Addr} {o : HO} (r : Rel P w K W σ H) (h : H p = none) : Rel P w K (W.resv p o) σ (upd H p o) where
  sub := fun a u e => by
    have e : W.F a = some u := e
    rw [upd_ne (ne_of_none (r.sub a u e) h)]; exact r.sub a u e
  len := r.len
  cell := fun n c e => (r.cell n c e).mono0 (le0_R (W := W) rfl rfl rfl) fun u (q : H (W.μ n) = some u) => by
    show upd H p o (W.μ n) = some u
    rw [upd_ne (ne_of_none q h)]; exact q
  sep := r.sep
  inj := r.inj
  res := fun a u q => by
    rcases List.mem_cons.mp (show (a, u) ∈ (p, o) :: W.R from q) with e | q
    · cases e
      exact ⟨upd_same, r.fresh h, fun n c e nd z => by
        obtain ⟨v, y⟩ := (r.cell n c e).there nd
        have z : W.μ n = p := z
        rw [z, h] at y; cases y⟩
    · obtain ⟨h1, h2, h3⟩ := r.res a u q
      exact ⟨by rw [upd_ne (ne_of_none h1 h)]; exact h1, h2, h3⟩
  one := by
    show ((p, o) :: W.R |>.map (·.1)).Nodup
    rw [List.map_cons, List.nodup_cons]
    refine ⟨fun hm => ?_, r.one⟩
    obtain ⟨⟨a, u⟩, q, e⟩ := List.mem_map.mp hm
    have e : a = p := e
    have := (r.res a u q).1
    rw [e, h] at this; cases this
/-- such an object is written -/
theorem Rel.rewr {p : Addr} {o o' : HO} {R : List (Addr × HO)} (r : Rel P w K W σ H) (hR : W.R = (p, o) :: R) : Rel P w K (W.free ((p, o') :: R)) σ (upd H p o') := by
  obtain ⟨h1, h2, h3⟩ := r.res p o (by rw [hR]; exact List.mem_cons_self)
  have hone := r.one
  rw [hR, List.map_cons, List.nodup_cons] at hone
  refine ⟨fun a u e => ?_, r.len, fun n c e => ?_, r.sep, r.inj, fun a u q => ?_, ?_⟩
  · have e : W.F a = some u := e
    rw [upd_ne (ne_of_none e h2)]; exact r.sub a u e
  · cases c with
    | dead => trivial
    | lst xs =>
      refine (r.cell n _ e).mono0 (le0_R (W := W) rfl rfl rfl) fun u (q : H (W.μ n) = some u) => ?_
      show upd H p o' (W.μ n) = some u
      rw [upd_ne (h3 n _ e (by simp))]; exact q
    | dic ks xs =>
      refine (r.cell n _ e).mono0 (le0_R (W := W) rfl rfl rfl) fun u (q : H (W.μ n) = some u) => ?_
      show upd H p o' (W.μ n) = some u
      rw [upd_ne (h3 n _ e (by simp))]; exact q
  · rcases List.mem_cons.mp (show (a, u) ∈ (p, o') :: R from q) with e | q
    · cases e
      exact ⟨upd_same, h2, h3⟩
    · have ne : a ≠ p := fun e => hone.1 (e ▸ List.mem_map_of_mem (f := (·.1)) q)
      obtain ⟨g1, g2, g3⟩ := r.res a u (by rw [hR]; exact List.mem_cons_of_mem _ q)
      exact ⟨by rw [upd_ne ne]; exact g1, g2, g3⟩
  · show (((p, o') :: R).map (·.1)).Nodup
    rw [List.map_cons, List.nodup_cons]; exact hone
/-- it is done: data that never changes -/
theorem Rel.done {p : Addr} {o : HO} {R : List (Addr × HO)} (r : Rel P w K W σ H) (hR : W.R = (p, o) :: R) : Rel P w K ((W.free R).add p o) σ H := by
  obtain ⟨h1, h2, h3⟩ := r.res p o (by rw [hR]; exact List.mem_cons_self)
  have hone := r.one
  rw [hR, List.map_cons, List.nodup_cons] at hone
  have l0 : Le0 W ((W.free R).add p o) := ⟨Nat.le_refl _, fun _ _ => rfl, fun a u e => by
    show upd W.F p o a = some u
    rw [upd_ne (ne_of_none e h2)]; exact e⟩
  refine ⟨fun a u e => ?_, r.len, fun n c e => (r.cell n c e).mono0 l0 fun _ z => z, fun n c e nd => ?_, r.inj, fun a u q => ?_, hone.2⟩
  · have e : upd W.F p o a = some u := e
    by_cases ha : a = p
    · subst ha; rw [upd_same] at e; cases e; exact h1
    · rw [upd_ne ha] at e; exact r.sub a u e
  · show upd W.F p o (W.μ n) = none
    rw [upd_ne (h3 n c e nd)]; exact r.sep n c e nd
  · have q : (a, u) ∈ R := q
    have ne : a ≠ p := fun e => hone.1 (e ▸ List.mem_map_of_mem (f := (·.1)) q)
    obtain ⟨g1, g2, g3⟩ := r.res a u (by rw [hR]; exact List.mem_cons_of_mem _ q)
    refine ⟨g1, ?_, g3⟩
    show upd W.F p o a = none
    rw [upd_ne ne]; exact g2
/-- it is done: a cell -/
theorem Rel.doneC {p : Addr} {o : HO} {c : Cell} {R : List (Addr × HO)} (r : Rel P w K W σ H) (hR : W.R = (p, o) :: R) (hc : CellOk P w K W H p c) : Rel P w K ((W.free R).push p) (σ ++ [c]) H := by
  obtain ⟨h1, h2, h3⟩ := r.res p o (by rw [hR]; exact List.mem_cons_self)
  have hone := r.one
  rw [hR, List.map_cons, List.nodup_cons] at hone
  have l0 : Le0 W ((W.free R).push p) := (le0_R (W := W) (W' := W.free R) rfl rfl rfl).trans (lePush (W.free R) p).toLe0
  have at0 : ∀ {n : Nat}, n < σ.length → ((W.free R).push p).μ n = W.μ n := fun {n} hn => by
    rw [r.len] at hn
    show (if n = W.n then p else W.μ n) = W.μ n
    rw [if_neg (Nat.ne_of_lt hn)]
  have at1 : ((W.free R).push p).μ σ.length = p := by
    show (if σ.length = W.n then p else W.μ σ.length) = p
    rw [if_pos r.len]
  refine ⟨r.sub, by rw [List.length_append, List.length_singleton, r.len]; rfl, fun n c' e => ?_, fun n c' e nd => ?_, fun n m c1 c2 e1 e2 n1 n2 q => ?_, fun a u q => ?_, hone.2⟩
  · rcases get_snoc e with ⟨e, hn⟩ | ⟨rfl, rfl⟩
    · rw [at0 hn]; exact (r.cell n c' e).mono0 l0 fun _ z => z
    · rw [at1]; exact hc.mono0 l0 fun _ z => z
  · show W.F (((W.free R).push p).μ n) = none
    rcases get_snoc e with ⟨e, hn⟩ | ⟨rfl, rfl⟩
    · rw [at0 hn]; exact r.sep n c' e nd
    · rw [at1]; exact h2
  · rcases get_snoc e1 with ⟨f1, hn⟩ | ⟨f1, g1⟩ <;> rcases get_snoc e2 with ⟨f2, hm⟩ | ⟨f2, g2⟩
    · rw [at0 hn, at0 hm] at q; exact r.inj n m c1 c2 f1 f2 n1 n2 q
    · rw [at0 hn, f2, at1] at q; exact absurd q (h3 n c1 f1 n1)
    · rw [at0 hm, f1, at1] at q; exact absurd q.symm (h3 m c2 f2 n2)
    · exact f1.trans f2.symm
  · have q : (a, u) ∈ R := q
    have ne : a ≠ p := fun e => hone.1 (e ▸ List.mem_map_of_mem (f := (·.1)) q)
    obtain ⟨g1, g2, g3⟩ := r.res a u (by rw [hR]; exact List.mem_cons_of_mem _ q)
    refine ⟨g1, g2, fun n c' e nd => ?_⟩
    rcases get_snoc e with ⟨e, hn⟩ | ⟨rfl, rfl⟩
    · rw [at0 hn]; exact g3 n c' e nd
    · rw [at1]; exact Ne.symm ne
end
/-! ### the readings -/
/-- an exception: own class c with one attribute d -/
structure Exa where
  at_ : Nat → Option Addr
  fld : Nat → Option Str
section
variable (P : Program) (w : World) (K : PySem.W.Frag) (ea : Exa) (Wx : WX)
def ExcR (W : Wd) (c : Nat) (d : D) (cls : Value) (dx : Option Addr) (H : Hp) : Prop :=
  ∃ C, ea.at_ c = some C ∧ cls = .ref C ∧ match ea.fld c with
    | none => dx = none
    | some f => ∃ a v, dx = some a ∧ H a = some (.xd [(f, v)]) ∧ Rep P w K W d v
/-- what an evaluation's outcome asks -/
def Post (st : St) (W : Wd) (r : Res D) (Q : VK) : Prop := match r with
  | .ok d σ => ∀ W' v H, Le W W' → Rel P w K W' σ H → Rep P w K W' d v → Q v H
  | .exc c d σ => ∀ W' H cls dx, Le W W' → Rel P w K W' σ H → ExcR P w K ea W' c d cls dx H → Wx cls dx st H
  | .bad => False
def Posts (st : St) (W : Wd) (r : Res (List D)) (Q : List V → Hp → Prop) : Prop := match r with
  | .ok ds σ => ∀ W' vs H, Le W W' → Rel P w K W' σ H → Reps P w K W' ds vs → Q vs H
  | .exc c d σ => ∀ W' H cls dx, Le W W' → Rel P w K W' σ H → ExcR P w K ea W' c d cls dx H → Wx cls dx st H
  | .bad => False
/-- an expression's reading -/
def tE (f : Env → Store → Res D) : TE := fun st H Q => ∃ W ρ σ, EnvR P w K W ρ st ∧ Rel P w K W σ H ∧ Post P w K ea Wx st W (f ρ σ) Q
def tA (f : Env → Store → Res (List D)) : TA := fun st H Q => ∃ W ρ σ, EnvR P w K W ρ st ∧ Rel P w K W σ H ∧ Posts P w K ea Wx st W (f ρ σ) Q
/-- a test's: the truth of the value -/
def tT (f : Env → Store → Res D) : TT := fun st H Q => ∃ W ρ σ, EnvR P w K W ρ st ∧ Rel P w K W σ H ∧ match f ρ σ with
  | .ok d σ' => ∃ b, truthD (view σ' d) = some b ∧ ∀ W' H, Le W W' → Rel P w K W' σ' H → Q b H
  | .exc c d σ' => ∀ W' H cls dx, Le W W' → Rel P w K W' σ' H → ExcR P w K ea W' c d cls dx H → Wx cls dx st H
  | .bad => False
end
section
variable {P : Program} {w : World} {K : PySem.W.Frag} {ea : Exa} {Wx : WX} {st : St} {W W1 : Wd} {ρ : Env} {σ : Store} {H : Hp}
theorem Post.mono {r : Res D} {Q : VK} (le : Le W W1) (h : Post P w K ea Wx st W r Q) : Post P w K ea Wx st W1 r Q := by
  cases r with
  | ok d σ => exact fun W' v H l => h W' v H (le.trans l)
  | exc c d σ => exact fun W' H cls dx l => h W' H cls dx (le.trans l)
  | bad => exact h
theorem Posts.mono {r : Res (List D)} {Q : List V → Hp → Prop} (le : Le W W1) (h : Posts P w K ea Wx st W r Q) : Posts P w K ea Wx st W1 r Q := by
  cases r with
  | ok d σ => exact fun W' v H l => h W' v H (le.trans l)
  | exc c d σ => exact fun W' H cls dx l => h W' H cls dx (le.trans l)
  | bad => exact h
theorem EnvR.mono (le : Le W W1) (h : EnvR P w K W ρ st) : EnvR P w K W1 ρ st :=
  ⟨h.1, fun i d e => let ⟨v, a, b⟩ := h.2 i d e; ⟨v, a, b.mono le⟩⟩
theorem EnvR.set {d : D} {v : V} (h : EnvR P w K W ρ st) (r : Rep P w K W d v) (i : Nat) : EnvR P w K W (ρ.set i (some d)) (st.set i (some v)) := by
  refine ⟨by simp [h.1], fun j e q => ?_⟩
  rcases get_set q with ⟨rfl, z⟩ | ⟨hj, q⟩
  · cases z
    have hl : j < ρ.length := by
      have := (List.getElem?_eq_some_iff.mp q).1
      simpa using this
    exact ⟨v, by rw [List.getElem?_set_self (by rw [← h.1]; exact hl)], r⟩
  · obtain ⟨u, a, b⟩ := h.2 j e q
    exact ⟨u, by rw [List.getElem?_set_ne (Ne.symm hj)]; exact a, b⟩
/-- one part, then the rest -/
theorem tE.bind {f : Env → Store → Res D} {k : D → Store → Res D} {Q T : VK} (hρ : EnvR P w K W ρ st) (hσ : Rel P w K W σ H) (h : Post P w K ea Wx st W ((f ρ σ).bind k) Q)
    (c : ∀ d σ1 W1 v H1, Le W W1 → Rel P w K W1 σ1 H1 → Rep P w K W1 d v → Post P w K ea Wx st W1 (k d σ1) Q → T v H1) : tE P w K ea Wx f st H T := by
  refine ⟨W, ρ, σ, hρ, hσ, ?_⟩
  cases e : f ρ σ with
  | ok d σ1 => rw [e] at h; exact fun W1 v H1 le r q => c d σ1 W1 v H1 le r q (Post.mono le h)
  | exc c d σ1 => rw [e] at h; exact h
  | bad => rw [e] at h; exact h
theorem tE.bindA {f : Env → Store → Res D} {k : D → Store → Res (List D)} {Q : List V → Hp → Prop} {T : VK} (hρ : EnvR P w K W ρ st) (hσ : Rel P w K W σ H) (h : Posts P w K ea Wx st W ((f ρ σ).bind k) Q)
    (c : ∀ d σ1 W1 v H1, Le W W1 → Rel P w K W1 σ1 H1 → Rep P w K W1 d v → Posts P w K ea Wx st W1 (k d σ1) Q → T v H1) : tE P w K ea Wx f st H T := by
  refine ⟨W, ρ, σ, hρ, hσ, ?_⟩
  cases e : f ρ σ with
  | ok d σ1 => rw [e] at h; exact fun W1 v H1 le r q => c d σ1 W1 v H1 le r q (Posts.mono le h)
  | exc c d σ1 => rw [e] at h; exact h
  | bad => rw [e] at h; exact h
theorem tA.bind {f : Env → Store → Res (List D)} {k : List D → Store → Res D} {Q : VK} {T : List V → Hp → Prop} (hρ : EnvR P w K W ρ st) (hσ : Rel P w K W σ H) (h : Post P w K ea Wx st W ((f ρ σ).bind k) Q)
    (c : ∀ ds σ1 W1 vs H1, Le W W1 → Rel P w K W1 σ1 H1 → Reps P w K W1 ds vs → Post P w K ea Wx st W1 (k ds σ1) Q → T vs H1) : tA P w K ea Wx f st H T := by
  refine ⟨W, ρ, σ, hρ, hσ, ?_⟩
  cases e : f ρ σ with
  | ok d σ1 => rw [e] at h; exact fun W1 v H1 le r q => c d σ1 W1 v H1 le r q (Post.mono le h)
  | exc c d σ1 => rw [e] at h; exact h
  | bad => rw [e] at h; exact h
theorem tA.bindA {f : Env → Store → Res (List D)} {k : List D → Store → Res (List D)} {Q T : List V → Hp → Prop} (hρ : EnvR P w K W ρ st) (hσ : Rel P w K W σ H) (h : Posts P w K ea Wx st W ((f ρ σ).bind k) Q)
    (c : ∀ ds σ1 W1 vs H1, Le W W1 → Rel P w K W1 σ1 H1 → Reps P w K W1 ds vs → Posts P w K ea Wx st W1 (k ds σ1) Q → T vs H1) : tA P w K ea Wx f st H T := by
  refine ⟨W, ρ, σ, hρ, hσ, ?_⟩
  cases e : f ρ σ with
  | ok d σ1 => rw [e] at h; exact fun W1 v H1 le r q => c d σ1 W1 v H1 le r q (Posts.mono le h)
  | exc c d σ1 => rw [e] at h; exact h
  | bad => rw [e] at h; exact h
/-- the end: a value over the heap as it stands -/
theorem Post.here {d : D} {v : V} {Q : VK} (h : Post P w K ea Wx st W (.ok d σ) Q) (hσ : Rel P w K W σ H) (r : Rep P w K W d v) : Q v H := h W v H (Le.refl W) hσ r
/-- the end: a new tuple, list, dict -/
theorem Post.newT {xs : List D} {vs : List V} {Q : VK} (h : Post P w K ea Wx st W (newT xs σ) Q) (hσ : Rel P w K W σ H) (r : Reps P w K W xs vs) :
    vs.length ≤ sizeLine ∧ ∀ p, H p = none → Q (.ref p) (upd H p (.tup vs)) := by
  unfold Iv.newT at h
  split at h
  · rename_i hl
    refine ⟨by rw [← r.length]; exact hl, fun p hp => h _ _ _ (hσ.leAdd hp) (hσ.add hp) ?_⟩
    simp only [Rep]
    exact ⟨p, vs, rfl, .inl (.inl upd_same), r.mono (hσ.leAdd hp)⟩
  · exact False.elim h
theorem Post.newL {mu : Bool} {xs : List D} {vs : List V} {Q : VK} (h : Post P w K ea Wx st W (newL mu xs σ) Q) (hσ : Rel P w K W σ H) (r : Reps P w K W xs vs) :
    vs.length ≤ sizeLine ∧ ∀ p, H p = none → Q (.ref p) (upd H p (.lst vs)) := by
  unfold Iv.newL at h
  split at h
  · rename_i hl
    refine ⟨by rw [← r.length]; exact hl, fun p hp => ?_⟩
    cases mu with
    | false =>
      refine h _ _ _ (hσ.leAdd hp) (hσ.add hp) ?_
      simp only [Rep]
      exact ⟨p, vs, rfl, upd_same, r.mono (hσ.leAdd hp)⟩
    | true =>
      refine h _ _ _ (lePush W p) (hσ.push hp ⟨vs, upd_same, r.mono (lePush W p)⟩) ?_
      simp only [Rep]
      refine ⟨by rw [hσ.len]; exact Nat.lt_succ_self _, ?_⟩
      show V.ref p = V.ref (if σ.length = W.n then p else W.μ σ.length)
      rw [if_pos hσ.len]
  · exact False.elim h
theorem Post.newD {mu : Bool} {ks : List Key} {xs : List D} {vs : List V} {Q : VK} (h : Post P w K ea Wx st W (newD mu ks xs σ) Q) (hσ : Rel P w K W σ H) (r : Reps P w K W xs vs) (hl : ks.length = vs.length) :
    ∀ p, H p = none → Q (.ref p) (upd H p (.dK (ks.zip vs))) := by
  unfold Iv.newD at h
  intro p hp
  cases mu with
  | false =>
    refine h _ _ _ (hσ.leAdd hp) (hσ.add hp) ?_
    simp only [Rep]
    exact ⟨p, vs, rfl, upd_same, hl, r.mono (hσ.leAdd hp)⟩
  | true =>
    refine h _ _ _ (lePush W p) (hσ.push hp ⟨vs, upd_same, hl, r.mono (lePush W p)⟩) ?_
    simp only [Rep]
    refine ⟨by rw [hσ.len]; exact Nat.lt_succ_self _, ?_⟩
    show V.ref p = V.ref (if σ.length = W.n then p else W.μ σ.length)
    rw [if_pos hσ.len]
/-! ### what a view shows -/
theorem Rel.ro {d : D} {v : V} {xs : List D} (hσ : Rel P w K W σ H) (r : Rep P w K W d v) (e : view σ d = .ro xs) : ∃ a vs, v = .ref a ∧ SqL K H a vs ∧ Reps P w K W xs vs := by
  cases d with
  | ro ys =>
    have e : D.ro ys = .ro xs := e
    cases e
    simp only [Rep] at r
    obtain ⟨a, vs, rfl, s, q⟩ := r
    exact ⟨a, vs, rfl, sqL_ext hσ.sub s, q⟩
  | ref n =>
    have e : (match σ[n]? with
      | some (.lst xs) => D.lst xs
      | some (.dic ks vs) => .dic ks vs
      | _ => .ref n) = .ro xs := e
    split at e <;> cases e
  | _ => cases e
theorem Rel.set {d : D} {v : V} {xs : List Str} (hσ : Rel P w K W σ H) (r : Rep P w K W d v) (e : view σ d = .set xs) : ∃ a, v = .ref a ∧ H a = some (SetHO P w a xs) := by
  cases d with
  | set ys =>
    have e : D.set ys = .set xs := e
    cases e
    simp only [Rep] at r
    obtain ⟨a, rfl, s⟩ := r
    exact ⟨a, rfl, hσ.sub _ _ s⟩
  | ref n =>
    have e : (match σ[n]? with
      | some (.lst xs) => D.lst xs
      | some (.dic ks vs) => .dic ks vs
      | _ => .ref n) = .set xs := e
    split at e <;> cases e
  | _ => cases e
theorem Rel.lst {d : D} {v : V} {xs : List D} (hσ : Rel P w K W σ H) (r : Rep P w K W d v) (e : view σ d = .lst xs) : ∃ a vs, v = .ref a ∧ H a = some (.lst vs) ∧ Reps P w K W xs vs := by
  cases d with
  | lst ys =>
    have e : D.lst ys = .lst xs := e
    cases e
    simp only [Rep] at r
    obtain ⟨a, vs, rfl, s, q⟩ := r
    exact ⟨a, vs, rfl, hσ.sub _ _ s, q⟩
  | ref n =>
    simp only [Rep] at r
    have e : (match σ[n]? with
      | some (.lst xs) => D.lst xs
      | some (.dic ks vs) => .dic ks vs
      | _ => .ref n) = .lst xs := e
    split at e
    · rename_i ys q
      cases e
      obtain ⟨vs, z, q⟩ := hσ.cell n _ q
      exact ⟨W.μ n, vs, r.2, z, q⟩
    · cases e
    · cases e
  | _ => cases e
theorem Rel.tup {d : D} {v : V} {xs : List D} (hσ : Rel P w K W σ H) (r : Rep P w K W d v) (e : view σ d = .tup xs) : ∃ a vs, v = .ref a ∧ SqT K H a vs ∧ Reps P w K W xs vs := by
  cases d with
  | tup ys =>
    have e : D.tup ys = .tup xs := e
    cases e
    simp only [Rep] at r
    obtain ⟨a, vs, rfl, s, q⟩ := r
    exact ⟨a, vs, rfl, sqT_ext hσ.sub s, q⟩
  | ref n =>
    have e : (match σ[n]? with
      | some (.lst xs) => D.lst xs
      | some (.dic ks vs) => .dic ks vs
      | _ => .ref n) = .tup xs := e
    split at e <;> cases e
  | _ => cases e
theorem Rel.dic {d : D} {v : V} {ks : List Key} {xs : List D} (hσ : Rel P w K W σ H) (r : Rep P w K W d v) (e : view σ d = .dic ks xs) : ∃ a vs, v = .ref a ∧ H a = some (.dK (ks.zip vs)) ∧ ks.length = vs.length ∧ Reps P w K W xs vs := by
  cases d with
  | dic ks' ys =>
    have e : D.dic ks' ys = .dic ks xs := e
    cases e
    simp only [Rep] at r
    obtain ⟨a, vs, rfl, s, l, q⟩ := r
    exact ⟨a, vs, rfl, hσ.sub _ _ s, l, q⟩
  | ref n =>
    simp only [Rep] at r
    have e : (match σ[n]? with
      | some (.lst xs) => D.lst xs
      | some (.dic ks vs) => .dic ks vs
      | _ => .ref n) = .dic ks xs := e
    split at e
    · cases e
    · rename_i ks' ys q
      cases e
      obtain ⟨vs, z, l, q⟩ := hσ.cell n _ q
      exact ⟨W.μ n, vs, r.2, z, l, q⟩
    · cases e
  | _ => cases e
theorem Rep.scal {d e : D} {v : V} (r : Rep P w K W d v) (h : view σ d = e) : match e with
    | .non => v = .non
    | .bl b => v = .bl b
    | .int i => v = .int i
    | .str x => v = .str x
    | _ => True := by
  cases d with
  | ref n =>
    have h : (match σ[n]? with
      | some (.lst xs) => D.lst xs
      | some (.dic ks vs) => .dic ks vs
      | _ => .ref n) = e := h
    split at h <;> subst h <;> trivial
  | _ => cases h <;> first | trivial | (simp only [Rep] at r; exact r)
theorem Rep.int {d : D} {v : V} {i : Int} (r : Rep P w K W d v) (h : view σ d = .int i) : v = .int i := r.scal h
theorem Rep.str {d : D} {v : V} {x : Str} (r : Rep P w K W d v) (h : view σ d = .str x) : v = .str x := r.scal h
theorem Rep.bl {d : D} {v : V} {b : Bool} (r : Rep P w K W d v) (h : view σ d = .bl b) : v = .bl b := r.scal h
theorem Rep.non {d : D} {v : V} (r : Rep P w K W d v) (h : view σ d = .non) : v = .non := r.scal h
end
end Iv

set_option Elab.async false
set_option linter.all false
set_option maxHeartbeats 2000000
/-! operators by values -/
namespace Iv
open PySem PySem.Spec L2

def BOp.py : BOp → Operator
  | .add => .Add | .sub => .Sub | .mul => .Mult | .fdiv => .FloorDiv | .mod => .Mod | .pow => .Pow
def COp.py : COp → CmpOp
  | .eq => .Eq | .ne => .NotEq | .lt => .Lt | .le => .LtE | .gt => .Gt | .ge => .GtE | .isin => .In | .notin => .NotIn | .is => .Is | .isnot => .IsNot
/-- what every place of the code has -/
structure Pl (X : Cx) : Prop where
  calm : X.calm = true
  units : X.A.units + 200 < cLine
  guards : X.A.guards = some []
section
variable {X : Cx} {ea : Exa} {Wx : WX} {st0 : L2.St}
def rBin (X : Cx) (ea : Exa) (Wx : WX) (st0 : L2.St) (op : BOp) : R2 := fun x y H Q => ∃ W σ a b, Rel X.prog X.w X.K W σ H ∧ Rep X.prog X.w X.K W a x ∧ Rep X.prog X.w X.K W b y ∧ Post X.prog X.w X.K ea Wx st0 W (binD op a b σ) Q
theorem lim_eq : lim = sizeLine := by rw [sizeLine_eq]; rfl
theorem op_bin (op : BOp) : OpR X (binaryOp op.py) (rBin X ea Wx st0 op) := by
  intro pins s σ0 H x y v u Q I rx ry h
  obtain ⟨W, σ, a, b, hσ, ra, rb, h⟩ := h
  unfold binD at h
  split at h
  · rename_i i j e1 e2
    have := ra.int e1; have := rb.int e2; subst x y
    exact op_add pins s σ0 H _ _ v u Q I rx ry ⟨i, j, rfl, rfl, h.here hσ (by simp only [Rep])⟩
  · rename_i i j e1 e2
    have := ra.int e1; have := rb.int e2; subst x y
    exact op_sub pins s σ0 H _ _ v u Q I rx ry ⟨i, j, rfl, rfl, h.here hσ (by simp only [Rep])⟩
  · rename_i i j e1 e2
    have := ra.int e1; have := rb.int e2; subst x y
    split at h
    · rename_i hm
      exact op_mul pins s σ0 H _ _ v u Q I rx ry ⟨i, j, rfl, rfl, of_decide_eq_true (p := (-(2 ^ 64) < i ∧ i < 2 ^ 64) ∨ (-(2 ^ 64) < j ∧ j < 2 ^ 64)) hm, h.here hσ (by simp only [Rep])⟩
    · exact False.elim h
  · rename_i i j e1 e2
    have := ra.int e1; have := rb.int e2; subst x y
    split at h
    · rename_i hm
      exact op_fdivN pins s σ0 H _ _ v u Q I rx ry ⟨i, j, rfl, rfl, hm, h.here hσ (by simp only [Rep])⟩
    · exact False.elim h
  · rename_i i j e1 e2
    have := ra.int e1; have := rb.int e2; subst x y
    split at h
    · rename_i hm
      exact op_modN pins s σ0 H _ _ v u Q I rx ry ⟨i, j, rfl, rfl, hm, h.here hσ (by simp only [Rep])⟩
    · exact False.elim h
  · rename_i i j e1 e2
    have := ra.int e1; have := rb.int e2; subst x y
    split at h
    · rename_i hm
      exact op_pow pins s σ0 H _ _ v u Q I rx ry ⟨i, j, rfl, rfl, hm, h.here hσ (by simp only [Rep])⟩
    · exact False.elim h
  · rename_i i j e1 e2
    have := ra.str e1; have := rb.str e2; subst x y
    split at h
    · rename_i hm
      exact op_add_str pins s σ0 H _ _ v u Q I rx ry ⟨i, j, rfl, rfl, by rw [← lim_eq]; exact hm, h.here hσ (by simp only [Rep])⟩
    · exact False.elim h
  · rename_i xs ys e1 e2
    obtain ⟨p, vs, rfl, h1, q1⟩ := hσ.lst ra e1
    obtain ⟨q, us, rfl, h2, q2⟩ := hσ.lst rb e2
    obtain ⟨hl, hn⟩ := h.newL hσ (q1.append q2)
    rw [List.length_append] at hl
    exact op_cat pins s σ0 H _ _ v u Q I rx ry ⟨p, q, vs, us, rfl, rfl, h1, h2, hl, hn⟩
  · rename_i xs ys e1 e2
    obtain ⟨p, vs, rfl, h1, q1⟩ := hσ.tup ra e1
    obtain ⟨q, us, rfl, h2, q2⟩ := hσ.tup rb e2
    obtain ⟨hl, hn⟩ := h.newT hσ (q1.append q2)
    rw [List.length_append] at hl
    have hh : ∀ {z : V}, Rep X.prog X.w X.K W (.tup (xs ++ ys)) z → Q z H := fun {z} rz => by
      unfold newT at h
      rw [if_pos (by rw [lim_eq, List.length_append, q1.length, q2.length]; exact hl)] at h
      exact h.here hσ rz
    refine op_catA pins s σ0 H _ _ v u Q I rx ry ⟨p, q, vs, us, rfl, rfl, h1, h2, hl, fun e => hh ?_, fun e e' => hh ?_, fun _ _ => hn⟩
    · subst e
      cases xs with
      | cons d ds => have := q1.length; simp at this
      | nil =>
        cases b with
        | tup zs =>
          have e2 : D.tup zs = .tup ys := e2
          cases e2
          simpa using rb
        | ref n =>
          have e2 : (match σ[n]? with
            | some (.lst xs) => D.lst xs
            | some (.dic ks vs) => .dic ks vs
            | _ => .ref n) = .tup ys := e2
          split at e2 <;> cases e2
        | _ => cases e2
    · subst e'
      cases ys with
      | cons d ds => have := q2.length; simp at this
      | nil =>
        cases a with
        | tup zs =>
          have e1 : D.tup zs = .tup xs := e1
          cases e1
          simpa using ra
        | ref n =>
          have e1 : (match σ[n]? with
            | some (.lst xs) => D.lst xs
            | some (.dic ks vs) => .dic ks vs
            | _ => .ref n) = .tup xs := e1
          split at e1 <;> cases e1
        | _ => cases e1
  · rename_i xs k e1 e2
    obtain ⟨p, vs, rfl, h1, q1⟩ := hσ.lst ra e1
    have := rb.int e2; subst y
    split at h
    · rename_i hm
      obtain ⟨hl, hn⟩ := h.newL hσ (q1.rep k.toNat)
      rw [PyProof.Rows.lm_len_rep_flat, Nat.mul_comm] at hl
      exact op_rep pins s σ0 H _ _ v u Q I rx ry ⟨p, k, vs, rfl, rfl, h1, hm.1, hm.2, hl, hn⟩
    · exact False.elim h
  · exact False.elim h

/-! ### data -/
mutual
theorem Rep.dp {W : Wd} {H : Hp} {K : PySem.W.Frag} {P : Program} {w : World} (sub : ∀ a o, W.F a = some o → H a = some o) : ∀ {d : D} {v : V}, Rep P w K W d v → d.pure = true → d.py.canLay0 = true → Dp K H v d.py
  | .non, _, r, _, _ => by simp only [Rep] at r; subst r; simp only [D.py]; exact .non
  | .bl _, _, r, _, _ => by simp only [Rep] at r; subst r; simp only [D.py]; exact .bl _
  | .int _, _, r, _, _ => by simp only [Rep] at r; subst r; simp only [D.py]; exact .int _
  | .str _, _, r, _, _ => by simp only [Rep] at r; subst r; simp only [D.py]; exact .str _
  | .tup ds, v, r, p, c => by
    simp only [Rep] at r
    simp only [D.pure] at p
    simp only [D.py, PyData.canLay0] at c ⊢
    obtain ⟨a, vs, rfl, s, q⟩ := r
    exact .tup (sqT_ext sub s) (Reps.dp sub q p c)
  | .lst ds, v, r, p, c => by
    simp only [Rep] at r
    simp only [D.pure] at p
    simp only [D.py, PyData.canLay0] at c ⊢
    obtain ⟨a, vs, rfl, s, q⟩ := r
    exact .lst (SqL.of (sub _ _ s)) (Reps.dp sub q p c)
  | .ro ds, v, r, p, c => by
    simp only [Rep] at r
    simp only [D.pure] at p
    simp only [D.py, PyData.canLay0] at c ⊢
    obtain ⟨a, vs, rfl, s, q⟩ := r
    exact .lst (sqL_ext sub s) (Reps.dp sub q p c)
  | .dic _ _, _, _, _, c => by simp only [D.py, PyData.canLay0] at c; cases c
  | .set _, _, _, p, _ => by simp only [D.pure] at p; cases p
  | .ref _, _, _, p, _ => by simp only [D.pure] at p; cases p
theorem Reps.dp {W : Wd} {H : Hp} {K : PySem.W.Frag} {P : Program} {w : World} (sub : ∀ a o, W.F a = some o → H a = some o) : ∀ {ds : List D} {vs : List V}, Reps P w K W ds vs → D.pures ds = true → PyData.canLayAll0 (D.pys ds) = true → DpAll K H vs (D.pys ds)
  | [], vs, r, _, _ => by rw [Reps.nil_iff.mp r]; simp only [D.pys]; exact .nil
  | d :: ds, [], r, _, _ => by have := Reps.length r; simp at this
  | d :: ds, v :: vs, r, p, c => by
    simp only [D.pures, Bool.and_eq_true] at p
    simp only [D.pys, PyData.canLayAll0, Bool.and_eq_true] at c ⊢
    obtain ⟨r1, r2⟩ := Reps.cons_iff.mp r
    exact .cons (Rep.dp sub r1 p.1 c.1) (Reps.dp sub r2 p.2 c.2)
end
theorem Rel.dp {P : Program} {w : World} {K : PySem.W.Frag} {W : Wd} {σ : Store} {H : Hp} {d e : D} {v : V} (hσ : Rel P w K W σ H) (r : Rep P w K W d v) (he : view σ d = e) (p : e.pure = true) (c : e.py.canLay0 = true) : Dp K H v e.py := by
  cases d with
  | ref n =>
    cases e with
    | lst xs =>
      obtain ⟨a, vs, rfl, s, q⟩ := hσ.lst r he
      simp only [D.pure] at p
      simp only [D.py, PyData.canLay0] at c ⊢
      exact .lst (SqL.of s) (Reps.dp hσ.sub q p c)
    | dic ks xs => simp only [D.py, PyData.canLay0] at c; cases c
    | ref m => simp only [D.pure] at p; cases p
    | set _ => simp only [D.pure] at p; cases p
    | _ =>
      have he : (match σ[n]? with
        | some (.lst xs) => D.lst xs
        | some (.dic ks vs) => .dic ks vs
        | _ => .ref n) = _ := he
      split at he <;> cases he
  | _ => cases he; exact Rep.dp hσ.sub r p c
theorem cmpable_ok {d : D} (h : cmpable d = true) : d.pure = true ∧ d.py.canLay0 = true ∧ SeqAt.shaped d.py = true := by
  unfold cmpable at h
  simp only [Bool.and_eq_true, decide_eq_true_eq] at h
  exact ⟨h.1.1, h.1.2, by unfold SeqAt.shaped; simp only [Bool.and_eq_true, decide_eq_true_eq]; exact ⟨h.1.2, h.2⟩⟩
theorem depth_items {ds : List D} (h : cmpable (.tup ds) = true) : PyData.canLayAll0 (D.pys ds) = true := by
  have := (cmpable_ok h).2.1
  simpa only [D.py, PyData.canLay0] using this
theorem pys_map : ∀ ds : List D, D.pys ds = ds.map D.py
  | [] => by simp only [D.pys, List.map_nil]
  | d :: ds => by simp only [D.pys, List.map_cons, pys_map ds]
theorem any_pys (ds : List D) (f : PyData → Bool) : (D.pys ds).any f = ds.any fun d => f d.py := by rw [pys_map, List.any_map]; rfl
/-- dicts by data -/
theorem look_zip {P : Program} {w : World} {K : PySem.W.Frag} {W : Wd} (k : Key) : ∀ {ks : List Key} {xs : List D} {vs : List V}, ks.length = vs.length → Reps P w K W xs vs →
    (look ks xs k = none ∧ valV (ks.zip vs) k = none) ∨ ∃ d v, look ks xs k = some d ∧ valV (ks.zip vs) k = some v ∧ Rep P w K W d v
  | [], xs, vs, _, _ => .inl ⟨by simp [look], rfl⟩
  | _ :: _, _, [], l, _ => by simp at l
  | k' :: ks, [], v :: vs, l, r => by have := r.length; simp at this
  | k' :: ks, d :: ds, v :: vs, l, r => by
    obtain ⟨r1, r2⟩ := Reps.cons_iff.mp r
    by_cases e : k' = k
    · refine .inr ⟨d, v, ?_, ?_, r1⟩
      · simp [look, e]
      · rw [List.zip_cons_cons]; exact valV_pos e
    · rcases look_zip k (ks := ks) (by simpa using l) r2 with ⟨h1, h2⟩ | ⟨d', v', h1, h2, h3⟩
      · refine .inl ⟨?_, ?_⟩
        · simpa [look, e] using h1
        · rw [List.zip_cons_cons, valV_neg (p := (k', v)) e]; exact h2
      · refine .inr ⟨d', v', ?_, ?_, h3⟩
        · simpa [look, e] using h1
        · rw [List.zip_cons_cons, valV_neg (p := (k', v)) e]; exact h2
theorem look_some {P : Program} {w : World} {K : PySem.W.Frag} {W : Wd} {k : Key} {ks : List Key} {xs : List D} {vs : List V} (l : ks.length = vs.length) (r : Reps P w K W xs vs) : (look ks xs k).isSome = (valV (ks.zip vs) k).isSome := by
  rcases look_zip k l r with ⟨h1, h2⟩ | ⟨d, v, h1, h2, _⟩ <;> rw [h1, h2] <;> rfl

def rCmp (X : Cx) (ea : Exa) (Wx : WX) (st0 : L2.St) (op : COp) : R2 := fun x y H Q => ∃ W σ a b, Rel X.prog X.w X.K W σ H ∧ Rep X.prog X.w X.K W a x ∧ Rep X.prog X.w X.K W b y ∧ Post X.prog X.w X.K ea Wx st0 W (cmpD op a b σ) Q
theorem pair_ok {a b : D} (h : (cmpable a && cmpable b) = true) : cmpable a = true ∧ cmpable b = true := Bool.and_eq_true_iff.mp h
theorem dIn {W : Wd} {σ : Store} {pins : List (Addr × Obj)} {s : Shared} {σ0 : L2.St} {H : Hp} {b : D} {x y : V} {v u : Value} {Q : VK} {k : Key} {ks : List Key} {vs : List D} (pl : Pl X) (I : Inv X pins σ0 H s) (rx : RelV x v) (ry : RelV y u) (hσ : Rel X.prog X.w X.K W σ H)
    (ex : x = kV k) (rb : Rep X.prog X.w X.K W b y) (e2 : view σ b = .dic ks vs) (h : Q (.bl (look ks vs k).isSome) H) : wpAny (model X.prog X.w) X.A (compareOp .In v u) (EP X pins σ0 Q) X.xe s := by
  obtain ⟨a, us, rfl, h1, hl, q⟩ := hσ.dic rb e2
  subst ex
  cases ry
  refine d_in (by have := pl.units; omega) I (DGet.k h1) rx fun s' I' => ⟨.bl _, H, I', rfl, ?_⟩
  rw [← look_some hl q]; exact h
theorem dNotIn {W : Wd} {σ : Store} {pins : List (Addr × Obj)} {s : Shared} {σ0 : L2.St} {H : Hp} {b : D} {x y : V} {v u : Value} {Q : VK} {k : Key} {ks : List Key} {vs : List D} (pl : Pl X) (I : Inv X pins σ0 H s) (rx : RelV x v) (ry : RelV y u) (hσ : Rel X.prog X.w X.K W σ H)
    (ex : x = kV k) (rb : Rep X.prog X.w X.K W b y) (e2 : view σ b = .dic ks vs) (h : Q (.bl (!(look ks vs k).isSome)) H) : wpAny (model X.prog X.w) X.A (compareOp .NotIn v u) (EP X pins σ0 Q) X.xe s := by
  obtain ⟨a, us, rfl, h1, hl, q⟩ := hσ.dic rb e2
  subst ex
  cases ry
  refine d_notIn (by have := pl.units; omega) I (DGet.k h1) rx fun s' I' => ⟨.bl _, H, I', rfl, ?_⟩
  rw [← look_some hl q]; exact h
theorem key_view {P : Program} {w : World} {K : PySem.W.Frag} {W : Wd} {σ : Store} {d e : D} {v : V} {k : Key} (r : Rep P w K W d v) (he : view σ d = e) (hk : dKey e = some k) : v = kV k := by
  cases e with
  | int i => simp only [dKey, Option.some.injEq] at hk; subst hk; exact r.int he
  | str i => simp only [dKey, Option.some.injEq] at hk; subst hk; exact r.str he
  | _ => cases hk
theorem isNon_eq {P : Program} {w : World} {K : PySem.W.Frag} {W : Wd} {σ : Store} {d : D} {v : V} (r : Rep P w K W d v) : decide (v = .non) = isNonD (view σ d) := by
  cases d with
  | non => simp only [Rep] at r; subst r; rfl
  | bl b => simp only [Rep] at r; subst r; rfl
  | int b => simp only [Rep] at r; subst r; rfl
  | str b => simp only [Rep] at r; subst r; rfl
  | tup b => simp only [Rep] at r; obtain ⟨a, vs, rfl, _⟩ := r; rfl
  | lst b => simp only [Rep] at r; obtain ⟨a, vs, rfl, _⟩ := r; rfl
  | ro b => simp only [Rep] at r; obtain ⟨a, vs, rfl, _⟩ := r; rfl
  | dic ks b => simp only [Rep] at r; obtain ⟨a, vs, rfl, _⟩ := r; rfl
  | set b => simp only [Rep] at r; obtain ⟨a, rfl, _⟩ := r; rfl
  | ref n =>
    simp only [Rep] at r
    obtain ⟨_, rfl⟩ := r
    have : ∀ z, view σ (.ref n) = z → isNonD z = false := by
      intro z e
      have e : (match σ[n]? with
        | some (.lst xs) => D.lst xs
        | some (.dic ks vs) => .dic ks vs
        | _ => .ref n) = z := e
      split at e <;> subst e <;> rfl
    rw [this _ rfl]; rfl
theorem op_cmp (pl : Pl X) (op : COp) : OpR X (compareOp op.py) (rCmp X ea Wx st0 op) := by
  intro pins s σ0 H x y v u Q I rx ry h
  obtain ⟨W, σ, a, b, hσ, ra, rb, h⟩ := h
  have hu : X.A.units + 64 < cLine := by have := pl.units; omega
  have hu2 : X.A.units + 65 < cLine := by have := pl.units; omega
  unfold cmpD at h
  split at h
  · rename_i i j e1 e2
    have := ra.int e1; have := rb.int e2; subst x y
    exact op_eq pins s σ0 H _ _ v u Q I rx ry ⟨rfl, h.here hσ (by simp only [Rep, V.int.injEq])⟩
  · rename_i i j e1 e2
    have := ra.str e1; have := rb.str e2; subst x y
    exact op_eq pins s σ0 H _ _ v u Q I rx ry ⟨rfl, h.here hσ (by simp only [Rep, V.str.injEq])⟩
  · rename_i i j e1 e2
    have := ra.int e1; have := rb.int e2; subst x y
    exact op_ne pins s σ0 H _ _ v u Q I rx ry ⟨rfl, h.here hσ (by simp only [Rep, V.int.injEq])⟩
  · rename_i i j e1 e2
    have := ra.str e1; have := rb.str e2; subst x y
    exact op_ne pins s σ0 H _ _ v u Q I rx ry ⟨rfl, h.here hσ (by simp only [Rep, V.str.injEq])⟩
  · rename_i e1 e2
    split at h
    · rename_i hc
      obtain ⟨c1, c2⟩ := pair_ok hc
      obtain ⟨p1, l1, s1⟩ := cmpable_ok c1
      obtain ⟨p2, l2, s2⟩ := cmpable_ok c2
      exact op_eqD hu pins s σ0 H _ _ v u Q I rx ry ⟨_, _, hσ.dp ra rfl p1 l1, hσ.dp rb rfl p2 l2, s1, s2, h.here hσ (by simp only [Rep])⟩
    · exact False.elim h
  · split at h
    · rename_i hc
      obtain ⟨c1, c2⟩ := pair_ok hc
      obtain ⟨p1, l1, s1⟩ := cmpable_ok c1
      obtain ⟨p2, l2, s2⟩ := cmpable_ok c2
      exact op_neD hu pins s σ0 H _ _ v u Q I rx ry ⟨_, _, hσ.dp ra rfl p1 l1, hσ.dp rb rfl p2 l2, s1, s2, h.here hσ (by simp only [Rep])⟩
    · exact False.elim h
  · rename_i i j e1 e2
    have := ra.int e1; have := rb.int e2; subst x y
    exact op_lt pins s σ0 H _ _ v u Q I rx ry ⟨i, j, rfl, rfl, h.here hσ (by simp only [Rep])⟩
  · rename_i i j e1 e2
    have := ra.int e1; have := rb.int e2; subst x y
    exact op_le pins s σ0 H _ _ v u Q I rx ry ⟨i, j, rfl, rfl, h.here hσ (by simp only [Rep])⟩
  · rename_i i j e1 e2
    have := ra.int e1; have := rb.int e2; subst x y
    exact op_gt pins s σ0 H _ _ v u Q I rx ry ⟨i, j, rfl, rfl, h.here hσ (by simp only [Rep])⟩
  · rename_i i j e1 e2
    have := ra.int e1; have := rb.int e2; subst x y
    exact op_ge pins s σ0 H _ _ v u Q I rx ry ⟨i, j, rfl, rfl, h.here hσ (by simp only [Rep])⟩
  · rename_i i j e1 e2
    have := ra.str e1; have := rb.str e2; subst x y
    exact op_lt_str pins s σ0 H _ _ v u Q I rx ry ⟨i, j, rfl, rfl, h.here hσ (by simp only [Rep]; rfl)⟩
  · rename_i i j e1 e2
    have := ra.str e1; have := rb.str e2; subst x y
    exact op_le_str pins s σ0 H _ _ v u Q I rx ry ⟨i, j, rfl, rfl, h.here hσ (by simp only [Rep]; rfl)⟩
  · rename_i i j e1 e2
    have := ra.str e1; have := rb.str e2; subst x y
    exact op_gt_str pins s σ0 H _ _ v u Q I rx ry ⟨i, j, rfl, rfl, h.here hσ (by simp only [Rep]; rfl)⟩
  · rename_i i j e1 e2
    have := ra.str e1; have := rb.str e2; subst x y
    exact op_ge_str pins s σ0 H _ _ v u Q I rx ry ⟨i, j, rfl, rfl, h.here hσ (by simp only [Rep]; rfl)⟩
  · rename_i i j e1 e2
    have := ra.str e1; have := rb.str e2; subst x y
    exact op_in_str pins s σ0 H _ _ v u Q I rx ry ⟨i, j, rfl, rfl, h.here hσ (by simp only [Rep])⟩
  · rename_i i j e1 e2
    have := ra.str e1; have := rb.str e2; subst x y
    exact op_notin_str pins s σ0 H _ _ v u Q I rx ry ⟨i, j, rfl, rfl, h.here hσ (by simp only [Rep])⟩
  · rename_i ks vs e1 e2
    split at h
    · rename_i k hk
      exact dIn pl I rx ry hσ (key_view ra rfl hk) rb e2 (h.here hσ (by simp only [Rep]))
    · exact False.elim h
  · rename_i ks vs e1 e2
    split at h
    · rename_i k hk
      exact dNotIn pl I rx ry hσ (key_view ra rfl hk) rb e2 (h.here hσ (by simp only [Rep]))
    · exact False.elim h
  · rename_i ys e1 e2
    split at h
    · rename_i hc
      obtain ⟨c1, c2⟩ := pair_ok hc
      obtain ⟨p1, l1, s1⟩ := cmpable_ok c1
      obtain ⟨p2, l2, s2⟩ := cmpable_ok c2
      have := hσ.dp rb e2 p2 l2
      simp only [D.py] at this s2
      refine op_inD hu2 pins s σ0 H _ _ v u Q I rx ry ⟨_, _, hσ.dp ra rfl p1 l1, this, s1, s2, ?_⟩
      rw [any_pys]; exact h.here hσ (by simp only [Rep])
    · exact False.elim h
  · rename_i ys e1 e2
    split at h
    · rename_i hc
      obtain ⟨c1, c2⟩ := pair_ok hc
      obtain ⟨p1, l1, s1⟩ := cmpable_ok c1
      obtain ⟨p2, l2, s2⟩ := cmpable_ok c2
      have := hσ.dp rb e2 p2 l2
      simp only [D.py] at this s2
      refine op_notInD hu2 pins s σ0 H _ _ v u Q I rx ry ⟨_, _, hσ.dp ra rfl p1 l1, this, s1, s2, ?_⟩
      rw [any_pys]; exact h.here hσ (by simp only [Rep])
    · exact False.elim h
  · rename_i ys e1 e2
    split at h
    · rename_i hc
      obtain ⟨c1, c2⟩ := pair_ok hc
      obtain ⟨p1, l1, s1⟩ := cmpable_ok c1
      obtain ⟨p2, l2, s2⟩ := cmpable_ok c2
      have h2 := hσ.dp rb e2 p2 l2
      simp only [D.py] at h2 s2
      obtain ⟨as, r1⟩ := Dp.reads I _ x v (hσ.dp ra rfl p1 l1) rx
      obtain ⟨bs, r2⟩ := Dp.reads I _ y u h2 ry
      refine SeqAt.in_tuple_reads r2 r1 (depth_items c2) l1 (PyProof.Rows.room_in_shaped s1 hu2) ⟨.bl _, H, I, rfl, ?_⟩
      rw [any_pys]; exact h.here hσ (by simp only [Rep])
    · exact False.elim h
  · rename_i ys e1 e2
    split at h
    · rename_i hc
      obtain ⟨c1, c2⟩ := pair_ok hc
      obtain ⟨p1, l1, s1⟩ := cmpable_ok c1
      obtain ⟨p2, l2, s2⟩ := cmpable_ok c2
      have h2 := hσ.dp rb e2 p2 l2
      simp only [D.py] at h2 s2
      obtain ⟨as, r1⟩ := Dp.reads I _ x v (hσ.dp ra rfl p1 l1) rx
      obtain ⟨bs, r2⟩ := Dp.reads I _ y u h2 ry
      refine SeqAt.notIn_tuple_reads r2 r1 (depth_items c2) l1 (PyProof.Rows.room_in_shaped s1 hu2) ⟨.bl _, H, I, rfl, ?_⟩
      rw [any_pys]; exact h.here hσ (by simp only [Rep])
    · exact False.elim h
  · rename_i e2
    have := rb.non e2; subst y
    refine op_isN pins s σ0 H _ _ v u Q I rx ry ⟨rfl, ?_⟩
    rw [isNon_eq (σ := σ) ra]
    exact h.here hσ (by simp only [Rep])
  · rename_i e2
    have := rb.non e2; subst y
    refine op_notN pins s σ0 H _ _ v u Q I rx ry ⟨rfl, ?_⟩
    rw [isNon_eq (σ := σ) ra]
    exact h.here hσ (by simp only [Rep])
  · exact False.elim h
end
end Iv

set_option Elab.async false
set_option linter.all false
set_option maxHeartbeats 2000000
/-! truth, items, slices, repr, built-ins, methods -/
namespace Iv
open PySem PySem.Spec L2
section
variable {X : Cx} {ea : Exa} {Wx : WX} {st0 : L2.St}

/-! ### truth -/
theorem view_ref {σ : Store} {n : Nat} {e : D} (h : view σ (.ref n) = e) : (∃ xs, e = .lst xs) ∨ (∃ ks xs, e = .dic ks xs) ∨ ∃ m, e = .ref m := by
  have h : (match σ[n]? with
    | some (.lst xs) => D.lst xs
    | some (.dic ks vs) => .dic ks vs
    | _ => .ref n) = e := h
  split at h <;> subst h
  · exact .inl ⟨_, rfl⟩
  · exact .inr (.inl ⟨_, _, rfl⟩)
  · exact .inr (.inr ⟨_, rfl⟩)
theorem isEmpty_len {α β : Type} {xs : List α} {ys : List β} (h : xs.length = ys.length) : xs.isEmpty = ys.isEmpty := by
  cases xs <;> cases ys <;> first | rfl | simp at h
theorem Rel.tru {P : Program} {w : World} {K : PySem.W.Frag} {W : Wd} {σ : Store} {H : Hp} {d e : D} {v : V} {b : Bool} (hσ : Rel P w K W σ H) (r : Rep P w K W d v) (he : view σ d = e) (h : truthD e = some b) : TruV K v H b := by
  cases e with
  | non => rw [r.non he]; simp only [truthD, Option.some.injEq] at h; exact h.symm
  | bl k => rw [r.bl he]; simp only [truthD, Option.some.injEq] at h; exact h.symm
  | int i => rw [r.int he]; simp only [truthD, Option.some.injEq] at h; exact h.symm
  | str x =>
    rw [r.str he]
    simp only [truthD] at h
    split at h
    · rename_i hl
      simp only [Option.some.injEq] at h
      refine ⟨by rw [← lim_eq]; exact hl, ?_⟩
      rw [← h]
      have : ((x.length : Int) != 0) = (x.length != 0) := by
        rw [Bool.eq_iff_iff]; simp
      exact this.symm
    · cases h
  | tup xs =>
    obtain ⟨a, vs, rfl, s, q⟩ := hσ.tup r he
    simp only [truthD, Option.some.injEq] at h
    exact .inr (.inl ⟨vs, s, by rw [← h, isEmpty_len q.length]⟩)
  | lst xs =>
    obtain ⟨a, vs, rfl, s, q⟩ := hσ.lst r he
    simp only [truthD, Option.some.injEq] at h
    exact .inl ⟨vs, SqL.of s, by rw [← h, isEmpty_len q.length]⟩
  | ro xs =>
    obtain ⟨a, vs, rfl, s, q⟩ := hσ.ro r he
    simp only [truthD, Option.some.injEq] at h
    exact .inl ⟨vs, s, by rw [← h, isEmpty_len q.length]⟩
  | dic ks xs =>
    obtain ⟨a, vs, rfl, s, l, q⟩ := hσ.dic r he
    simp only [truthD, Option.some.injEq] at h
    refine .inr (.inr ⟨_, s, ?_⟩)
    rw [← h, isEmpty_len (ys := ks.zip vs) (by rw [List.length_zip, l]; omega)]
  | set _ => cases h
  | ref _ => cases h

/-! ### items -/
def rIdx (X : Cx) (ea : Exa) (Wx : WX) (st0 : L2.St) : R2 := fun x y H Q => ∃ W σ a b, Rel X.prog X.w X.K W σ H ∧ Rep X.prog X.w X.K W a x ∧ Rep X.prog X.w X.K W b y ∧ Post X.prog X.w X.K ea Wx st0 W (idxD a b σ) Q
theorem atI_reps {P : Program} {w : World} {K : PySem.W.Frag} {W : Wd} {ds : List D} {vs : List V} {i : Int} {d : D} (q : Reps P w K W ds vs) (h : atI ds i = some d) : ∃ v, atI vs i = some v ∧ Rep P w K W d v := by
  unfold atI at h ⊢
  rw [← q.length]
  cases e : ixN ds.length i with
  | none => rw [e] at h; cases h
  | some j => rw [e] at h; exact q.get h
theorem ix_all (pl : Pl X) : IxR X (rIdx X ea Wx st0) := by
  intro value slice pins s σ0 H x y v u Q I rx ry h hs
  obtain ⟨W, σ, a, b, hσ, ra, rb, h⟩ := h
  unfold idxD at h
  split at h
  · rename_i xs i e1
    simp only [Rep] at rb; subst y
    split at h
    · rename_i d hd
      obtain ⟨p, vs, rfl, s1, q⟩ := hσ.ro ra e1
      obtain ⟨z, hz, rz⟩ := atI_reps q hd
      exact ix_list value slice pins s σ0 H _ _ v u Q I rx ry ⟨p, vs, i, z, rfl, rfl, s1, hz, h.here hσ rz⟩ hs
    · exact False.elim h
  · rename_i xs i e1
    simp only [Rep] at rb; subst y
    split at h
    · rename_i d hd
      obtain ⟨p, vs, rfl, s1, q⟩ := hσ.lst ra e1
      obtain ⟨z, hz, rz⟩ := atI_reps q hd
      exact ix_list value slice pins s σ0 H _ _ v u Q I rx ry ⟨p, vs, i, z, rfl, rfl, SqL.of s1, hz, h.here hσ rz⟩ hs
    · exact False.elim h
  · rename_i xs i e1
    simp only [Rep] at rb; subst y
    split at h
    · rename_i d hd
      obtain ⟨p, vs, rfl, s1, q⟩ := hσ.tup ra e1
      obtain ⟨z, hz, rz⟩ := atI_reps q hd
      exact ix_tup value slice pins s σ0 H _ _ v u Q I rx ry ⟨p, vs, i, z, rfl, rfl, s1, hz, h.here hσ rz⟩ hs
    · exact False.elim h
  · rename_i z i e1
    simp only [Rep] at rb; subst y
    split at h
    · rename_i hl
      split at h
      · rename_i c hc
        have := ra.str e1; subst x
        exact ix_str value slice pins s σ0 H _ _ v u Q I rx ry ⟨z, i, c, rfl, rfl, by rw [← lim_eq]; exact hl, hc, h.here hσ (by simp only [Rep])⟩ hs
      · exact False.elim h
    · exact False.elim h
  · rename_i ks vs e1
    split at h
    · rename_i k hk
      split at h
      · rename_i d hd
        obtain ⟨p, us, rfl, s1, l, q⟩ := hσ.dic ra e1
        have := Rep.key rb hk; subst y
        rcases look_zip k l q with ⟨h1, _⟩ | ⟨d', z, h1, h2, rz⟩
        · rw [hd] at h1; cases h1
        · rw [hd] at h1; cases h1
          cases rx
          have g : DGet H p (kV k) (some z) := by rw [← h2]; exact DGet.k s1
          exact PyProof.Rows.tail_any (dict_typeIs I g) PySem.F.slot_dict_getitem.lookup (d_getItem (by have := pl.units; omega) I g ry fun w' s3 I3 rw' => ⟨z, H, I3, rw', h.here hσ rz⟩) hs
      · exact False.elim h
    · exact False.elim h
  · exact False.elim h

/-! ### slices -/
theorem cut_reps {P : Program} {w : World} {K : PySem.W.Frag} {W : Wd} {ds : List D} {vs : List V} (q : Reps P w K W ds vs) (lo hi : Option Int) : Reps P w K W (cutL ds lo hi) (cutV vs lo hi) := by
  unfold cutL cutV
  rw [q.length]
  exact (q.drop _).take _
def rSlice (X : Cx) (ea : Exa) (Wx : WX) (st0 : L2.St) (mu : Bool) : V → Option Int → Option Int → Hp → VK → Prop := fun x lo hi H Q => ∃ W σ a l h, Rel X.prog X.w X.K W σ H ∧ Rep X.prog X.w X.K W a x ∧ optI l = some lo ∧ optI h = some hi ∧ Post X.prog X.w X.K ea Wx st0 W (sliceD mu a l h σ) Q
theorem cut_whole {α : Type} {xs : List α} {lo hi : Option Int} (h : HT.sIx xs.length 0 lo = 0 ∧ HT.sIx xs.length xs.length hi = xs.length) : cutL xs lo hi = xs := by
  unfold cutL; rw [h.1, h.2]; simp
theorem view_tup {σ : Store} {d : D} {xs : List D} (h : view σ d = .tup xs) : d = .tup xs := by
  cases d with
  | ref n => rcases view_ref h with ⟨_, e⟩ | ⟨_, _, e⟩ | ⟨_, e⟩ <;> cases e
  | _ => cases h <;> rfl
theorem sl_all {mu : Bool} : SlR X (rSlice X ea Wx st0 mu) := by
  intro pins s σ0 H x v vl vu lo hi sl Q I rx hs pl pu h
  obtain ⟨W, σ, a, l, u, hσ, ra, hl, hh, h⟩ := h
  unfold sliceD at h
  split at h
  · rename_i xs l' h' e1 e2 e3
    rw [hl] at e2; rw [hh] at e3; cases e2; cases e3
    obtain ⟨p, vs, rfl, s1, q⟩ := hσ.lst ra e1
    exact sl_list pins s σ0 H _ v vl vu lo hi sl Q I rx hs pl pu ⟨p, vs, rfl, SqL.of s1, (h.newL hσ (cut_reps q lo hi)).2⟩
  · rename_i xs l' h' e1 e2 e3
    rw [hl] at e2; rw [hh] at e3; cases e2; cases e3
    obtain ⟨p, vs, rfl, s1, q⟩ := hσ.ro ra e1
    exact sl_list pins s σ0 H _ v vl vu lo hi sl Q I rx hs pl pu ⟨p, vs, rfl, s1, (h.newL hσ (cut_reps q lo hi)).2⟩
  · rename_i xs l' h' e1 e2 e3
    rw [hl] at e2; rw [hh] at e3; cases e2; cases e3
    obtain ⟨p, vs, rfl, s1, q⟩ := hσ.tup ra e1
    refine sl_tupA pins s σ0 H _ v vl vu lo hi sl Q I rx hs pl pu ⟨p, vs, rfl, s1, fun e => ?_, fun _ => (h.newT hσ (cut_reps q lo hi)).2⟩
    rw [← q.length] at e
    rw [cut_whole e] at h
    unfold newT at h
    split at h
    · rw [view_tup e1] at ra
      exact h.here hσ ra
    · exact False.elim h
  · rename_i z l' h' e1 e2 e3
    rw [hl] at e2; rw [hh] at e3; cases e2; cases e3
    split at h
    · rename_i hz
      have := ra.str e1; subst x
      refine sl_str pins s σ0 H _ v vl vu lo hi sl Q I rx hs pl pu ⟨z, rfl, by rw [← lim_eq]; exact hz, h.here hσ ?_⟩
      simp only [Rep]
      unfold cutS cutL
      have : z.cps.toList.length = z.length := by rw [Array.length_toList]; rfl
      rw [this]
    · exact False.elim h
  · exact False.elim h

/-! ### repr -/
/-- the module table is none of the tracked lists -/
structure Sys (X : Cx) : Prop where
  at_ : ∃ o, X.base.get? sysModules = some o ∧ o.cls ≠ .type "list"
theorem keys_reads {P : Program} {w : World} {h : Heap} : ∀ {es : List DictEntry} {kvs : List (Key × Value)}, Pairs (mixKind P w) es kvs → ReadsAll h (es.map (·.key)) (kvs.map fun kv => keyP kv.1) []
  | _, _, .nil => .nil
  | _, _, .cons (e := e) (kv := kv) h1 _ h3 => by
    have r : Reads h e.key (keyP kv.1) [] := by
      rcases keyIs_shape h1 with ⟨i, t, e1, e2⟩ | ⟨x, t, e1, e2⟩
      · rw [e1, e2]; exact .int i t
      · rw [e1, e2]; exact .str x t
    exact .cons (as := []) (bs := []) r (keys_reads h3)
theorem vals_pairs {P : Program} {w : World} : ∀ {es : List DictEntry} {kvs : List (Key × Value)}, Pairs (mixKind P w) es kvs → es.map (·.val) = kvs.map (·.2)
  | _, _, .nil => rfl
  | _, _, .cons h1 h2 h3 => by simp only [List.map_cons, h2, vals_pairs h3]
theorem kv_split {kvs : List (Key × V)} {us : List (Key × Value)} (h : KV kvs us) : us.map (·.1) = kvs.map (·.1) ∧ Vals (kvs.map (·.2)) (us.map (·.2)) := by
  induction h with
  | nil => exact ⟨rfl, .nil⟩
  | cons a b ih => exact ⟨by rw [List.map_cons, List.map_cons, ih.1, a.1], .cons a.2 ih.2⟩
section
variable {pins : List (Addr × Obj)} {σ0 : L2.St} {H : Hp} {s : Shared} {W : Wd}
mutual
theorem Rep.reads (sy : Sys X) (I : Inv X pins σ0 H s) (sub : ∀ a o, W.F a = some o → H a = some o) : ∀ {d : D} {v : V} {u : Value}, Rep X.prog X.w X.K W d v → RelV v u → d.pure = true → ∃ as, Reads s.heap u d.py as ∧ sysModules ∉ as
  | .non, _, _, r, q, _ => by simp only [Rep] at r; subst r; cases q; simp only [D.py]; exact ⟨[], .none, by simp⟩
  | .bl b, _, _, r, q, _ => by simp only [Rep] at r; subst r; cases q; simp only [D.py]; exact ⟨[], .bool b, by simp⟩
  | .int i, _, _, r, q, _ => by simp only [Rep] at r; subst r; obtain ⟨t, rfl⟩ := q; simp only [D.py]; exact ⟨[], .int i t, by simp⟩
  | .str x, _, _, r, q, _ => by simp only [Rep] at r; subst r; obtain ⟨t, rfl⟩ := q; simp only [D.py]; exact ⟨[], .str x t, by simp⟩
  | .tup ds, _, _, r, q, p => by
    simp only [Rep] at r
    simp only [D.pure] at p
    simp only [D.py]
    obtain ⟨a, vs, rfl, h1, h2⟩ := r
    cases q
    obtain ⟨its, rv, ⟨o, ho, hc, n, hd⟩, _⟩ := I.tuple (sqT_ext sub h1)
    obtain ⟨as, r1, r2⟩ := Reps.reads sy I sub h2 rv p
    exact ⟨as, .tuple ho hc hd r1, r2⟩
  | .lst ds, _, _, r, q, p => by
    simp only [Rep] at r
    simp only [D.pure] at p
    simp only [D.py]
    obtain ⟨a, vs, rfl, h1, h2⟩ := r
    cases q
    obtain ⟨its, rv, ⟨o, n, ho, hc, _, hd⟩, _⟩ := I.list (SqL.of (sub _ _ h1))
    obtain ⟨as, r1, r2⟩ := Reps.reads sy I sub h2 rv p
    refine ⟨a :: as, .list ho hc hd r1, fun hm => ?_⟩
    rcases List.mem_cons.mp hm with e | hm
    · obtain ⟨ob, hb, _⟩ := sy.at_
      have := (I.bs _ _ hb).2
      rw [e, sub _ _ h1] at this; cases this
    · exact r2 hm
  | .ro ds, _, _, r, q, p => by
    simp only [Rep] at r
    simp only [D.pure] at p
    simp only [D.py]
    obtain ⟨a, vs, rfl, h1, h2⟩ := r
    cases q
    obtain ⟨its, rv, ⟨o, n, ho, hc, _, hd⟩, _⟩ := I.list (sqL_ext sub h1)
    obtain ⟨as, r1, r2⟩ := Reps.reads sy I sub h2 rv p
    refine ⟨a :: as, .list ho hc hd r1, fun hm => ?_⟩
    rcases List.mem_cons.mp hm with e | hm
    · obtain ⟨ob, hb, hcl⟩ := sy.at_
      have h3 := (I.bs _ _ hb).1
      rw [e, ho] at h3
      cases h3
      exact hcl hc
    · exact r2 hm
  | .dic ks ds, _, _, r, q, p => by
    simp only [Rep] at r
    simp only [D.pure, Bool.and_eq_true, decide_eq_true_eq] at p
    simp only [D.py]
    obtain ⟨a, vs, rfl, h1, hl, h2⟩ := r
    cases q
    obtain ⟨_, hsy, us, rel, o, es, ep, ho, hx, hd, _, hp, _⟩ := dk_of I.hok (sub _ _ h1)
    obtain ⟨k1, k2⟩ := kv_split rel
    have e2 : (ks.zip vs).map (·.2) = vs := by rw [List.map_snd_zip]; omega
    have e1 : (ks.zip vs).map (·.1) = ks := by rw [List.map_fst_zip]; omega
    rw [e2] at k2
    rw [e1] at k1
    obtain ⟨as, r1, r2⟩ := Reps.reads sy I sub h2 k2 p.2
    have lk : (D.pys ds).length = ks.length := by rw [pys_map, List.length_map]; exact p.1.symm
    refine ⟨a :: [] ++ as, .dict (kvs := (ks.map keyP).zip (D.pys ds)) (as := []) ho hx.1 hd ?_ ?_, fun hm => ?_⟩
    · have := keys_reads (h := s.heap) hp
      rw [List.map_fst_zip (by rw [List.length_map]; omega)]
      have e : us.map (fun kv => keyP kv.1) = ks.map keyP := by rw [← k1, List.map_map]; rfl
      rw [← e]; exact this
    · rw [List.map_snd_zip (by rw [List.length_map]; omega), vals_pairs hp]; exact r1
    · rcases List.mem_cons.mp (show sysModules ∈ a :: as from hm) with e | hm
      · rw [← e] at hsy; simp at hsy
      · exact r2 hm
  | .set _, _, _, _, _, p => by simp only [D.pure] at p; cases p
  | .ref _, _, _, _, _, p => by simp only [D.pure] at p; cases p
theorem Reps.reads (sy : Sys X) (I : Inv X pins σ0 H s) (sub : ∀ a o, W.F a = some o → H a = some o) : ∀ {ds : List D} {vs : List V} {us : List Value}, Reps X.prog X.w X.K W ds vs → Vals vs us → D.pures ds = true → ∃ as, ReadsAll s.heap us (D.pys ds) as ∧ sysModules ∉ as
  | [], _, _, r, q, _ => by rw [Reps.nil_iff.mp r] at q; cases q; simp only [D.pys]; exact ⟨[], .nil, by simp⟩
  | d :: ds, [], _, r, _, _ => by have := Reps.length r; simp at this
  | d :: ds, v :: vs, _, r, q, p => by
    obtain ⟨h1, h2⟩ := Reps.cons_iff.mp r
    simp only [D.pures, Bool.and_eq_true] at p
    simp only [D.pys]
    cases q with
    | cons q1 q2 =>
      obtain ⟨as, a1, a2⟩ := Rep.reads sy I sub h1 q1 p.1
      obtain ⟨bs, b1, b2⟩ := Reps.reads sy I sub h2 q2 p.2
      exact ⟨as ++ bs, .cons a1 b1, fun hm => (List.mem_append.mp hm).elim a2 b2⟩
end
end
end
end Iv

set_option Elab.async false
set_option linter.all false
set_option maxHeartbeats 2000000
/-! built-in functions, methods, stores -/
namespace Iv
open PySem PySem.Spec L2
section
variable {X : Cx} {ea : Exa} {Wx : WX} {st0 : L2.St}
def Bi.val : Bi → Value
  | .len => .builtin "len" | .list => .type "list" | .tuple => .type "tuple" | .int => .type "int" | .str => .type "str" | .repr => .builtin "repr" | .all => .builtin "all" | .any => .builtin "any"
  | .sum => .builtin "sum" | .sorted => .builtin "sorted" | .set => .type "set" | .dict => .type "dict"
def rBi (X : Cx) (ea : Exa) (Wx : WX) (st0 : L2.St) (b : Bi) (mu : Bool) : List V → Hp → VK → Prop := fun xs H Q => ∃ W σ a x, xs = [x] ∧ Rel X.prog X.w X.K W σ H ∧ Rep X.prog X.w X.K W a x ∧ Post X.prog X.w X.K ea Wx st0 W (biD b mu a σ) Q

/-! repr -/
theorem py_atom {d e : D} {σ : Store} (he : view σ d = e) (h : (∃ b, e = .bl b) ∨ (∃ i, e = .int i) ∨ (∃ x, e = .str x) ∨ e = .non) : d = e := by
  cases d with
  | ref n => rcases view_ref he with ⟨_, q⟩ | ⟨_, _, q⟩ | ⟨_, q⟩ <;> subst q <;> simp at h
  | _ => exact he
theorem reads_view {pins : List (Addr × Obj)} {σ0 : L2.St} {H : Hp} {s : Shared} {W : Wd} {σ : Store} {d e : D} {v : V} {u : Value} (sy : Sys X) (I : Inv X pins σ0 H s) (hσ : Rel X.prog X.w X.K W σ H) (r : Rep X.prog X.w X.K W d v) (q : RelV v u)
    (he : view σ d = e) (p : e.pure = true) : ∃ as, Reads s.heap u e.py as ∧ sysModules ∉ as := by
  cases d with
  | ref n =>
    rcases view_ref he with ⟨xs, z⟩ | ⟨ks, xs, z⟩ | ⟨_, z⟩
    · subst z
      obtain ⟨a, vs, rfl, h1, h2⟩ := hσ.lst r he
      simp only [D.pure] at p
      simp only [D.py]
      cases q
      obtain ⟨its, rv, ⟨o, n, ho, hc, _, hd⟩, _⟩ := I.list (SqL.of h1)
      obtain ⟨as, r1, r2⟩ := Reps.reads sy I hσ.sub h2 rv p
      refine ⟨a :: as, .list ho hc hd r1, fun hm => ?_⟩
      rcases List.mem_cons.mp hm with e | hm
      · obtain ⟨ob, hb, _⟩ := sy.at_
        have := (I.bs _ _ hb).2
        rw [e, h1] at this; cases this
      · exact r2 hm
    · -- a dict cell: frozen it would read alike
      subst z
      obtain ⟨a, vs, rfl, h1, l, h2⟩ := hσ.dic r he
      simp only [D.pure, Bool.and_eq_true, decide_eq_true_eq] at p
      simp only [D.py]
      cases q
      obtain ⟨_, hsy, us, rel, o, es, ep, ho, hx, hd, _, hp, _⟩ := dk_of I.hok h1
      obtain ⟨k1, k2⟩ := kv_split rel
      have e2 : (ks.zip vs).map (·.2) = vs := by rw [List.map_snd_zip]; omega
      have e1 : (ks.zip vs).map (·.1) = ks := by rw [List.map_fst_zip]; omega
      rw [e2] at k2
      rw [e1] at k1
      obtain ⟨as, r1, r2⟩ := Reps.reads sy I hσ.sub h2 k2 p.2
      have lk : (D.pys xs).length = ks.length := by rw [pys_map, List.length_map]; exact p.1.symm
      refine ⟨a :: [] ++ as, .dict (kvs := (ks.map keyP).zip (D.pys xs)) (as := []) ho hx.1 hd ?_ ?_, fun hm => ?_⟩
      · have := keys_reads (h := s.heap) hp
        rw [List.map_fst_zip (by rw [List.length_map]; omega)]
        have e : us.map (fun kv => keyP kv.1) = ks.map keyP := by rw [← k1, List.map_map]; rfl
        rw [← e]; exact this
      · rw [List.map_snd_zip (by rw [List.length_map]; omega), vals_pairs hp]; exact r1
      · rcases List.mem_cons.mp (show sysModules ∈ a :: as from hm) with e | hm
        · rw [← e] at hsy; simp at hsy
        · exact r2 hm
    · subst z; simp only [D.pure] at p; cases p
  | _ => cases he; exact Rep.reads sy I hσ.sub r q p
theorem call_repr (pl : Pl X) (sy : Sys X) : CallR X (.builtin "repr") (fun xs H Q => ∃ W σ a x, xs = [x] ∧ Rel X.prog X.w X.K W σ H ∧ Rep X.prog X.w X.K W a x ∧ reprOk (view σ a) = true ∧ Q (.str (view σ a).py.shown) H) := by
  intro pins s σ0 H xs us Q I r h
  obtain ⟨W, σ, a, x, rfl, hσ, ra, hr, q⟩ := h
  obtain ⟨u, rfl, rx⟩ := vals1 r
  obtain ⟨e, he⟩ : ∃ e, view σ a = e := ⟨_, rfl⟩
  rw [he] at hr q
  unfold reprOk at hr
  simp only [Bool.and_eq_true, decide_eq_true_eq] at hr
  obtain ⟨⟨⟨h1, h2⟩, h3⟩, h4⟩ := hr
  obtain ⟨as, r1, r2⟩ := reads_view sy I hσ ra rx he h1
  have hsz : e.py.shown.length ≤ sizeLine := by rw [← lim_eq]; exact h3
  cases u with
  | ref p =>
    refine repr_of_reads' r1 h2 (fun _ => r2) pl.guards (by have := pl.units; omega) (fun _ _ z => z) (fun h' u tk k => ?_) hsz
    exact ⟨.str _, H, I.kept k, ⟨_, rfl⟩, q⟩
  | none =>
    have := r1
    generalize e.py = z at *
    cases r1
    simp only [PyData.shown] at q
    exact PySem.P.repr_of_none ⟨.str _, H, I.tok _, ⟨_, rfl⟩, q⟩
  | bool b =>
    generalize e.py = z at *
    cases r1
    simp only [PyData.shown] at q
    exact PySem.P.repr_of_bool ⟨.str _, H, I.tok _, ⟨_, rfl⟩, by cases b <;> exact q⟩
  | int i t =>
    generalize e.py = z at *
    cases r1
    simp only [PyData.shown] at q
    simp only [PyData.showable, decide_eq_true_eq] at h2
    exact PySem.P.repr_of_int h2 ⟨.str _, H, I.tok _, ⟨_, rfl⟩, q⟩
  | str y t =>
    generalize e.py = z at *
    cases r1
    simp only [PyData.shown] at q hsz
    exact PySem.P.repr_of_str ⟨.str _, H, I.tok _, ⟨_, rfl⟩, q⟩ hsz
  | _ => generalize e.py = z at *; cases r1
/-! sorted -/
theorem sortS_perm (xs : List Str) : (sortS xs).Perm xs := List.mergeSort_perm _ _
def sLe (a b : Str) : Bool := !strLt b a
theorem sLe_iff {a b : Str} : sLe a b = true ↔ a.cps.toList ≤ b.cps.toList := by
  unfold sLe strLt
  rw [Bool.not_eq_true', decide_eq_false_iff_not]
  exact List.not_lt
theorem sLe_trans (a b c : Str) (h1 : sLe a b = true) (h2 : sLe b c = true) : sLe a c = true := sLe_iff.mpr (List.le_trans (sLe_iff.mp h1) (sLe_iff.mp h2))
theorem sLe_total (a b : Str) : (sLe a b || sLe b a) = true := by
  rw [Bool.or_eq_true]
  rcases List.le_total a.cps.toList b.cps.toList with h | h
  · exact .inl (sLe_iff.mpr h)
  · exact .inr (sLe_iff.mpr h)
theorem sLe_anti {a b : Str} (h1 : sLe a b = true) (h2 : sLe b a = true) : a = b := by
  have := List.le_antisymm (sLe_iff.mp h1) (sLe_iff.mp h2)
  cases a; cases b
  simp only [PySem.Str.mk.injEq]
  exact Array.toList_inj.mp this
theorem rising_pw : ∀ {xs : List Str} {p : Str}, PyProof.Rows.risingS p xs = true → (p :: xs).Pairwise fun a b => sLe a b = true
  | [], p, _ => List.pairwise_singleton _ _
  | x :: r, p, h => by
    rw [PyProof.Rows.risingS, Bool.and_eq_true] at h
    have h2 := rising_pw h.2
    have h1 : sLe p x = true := by
      unfold sLe strLt
      rw [← PyProof.Rows.ltCps_eq]
      exact h.1
    refine List.pairwise_cons.mpr ⟨fun y hy => ?_, h2⟩
    rcases List.mem_cons.mp hy with e | hy
    · rw [e]; exact h1
    · exact sLe_trans _ _ _ h1 ((List.pairwise_cons.mp h2).1 y hy)
theorem sorted_pw : ∀ {xs : List Str}, PyProof.Rows.sortedS xs = true → xs.Pairwise fun a b => sLe a b = true
  | [], _ => List.Pairwise.nil
  | x :: r, h => rising_pw h
theorem sort_eq {ys xs : List Str} (p : ys.Perm xs) (h : PyProof.Rows.sortedS ys = true) : ys = sortS xs :=
  List.Perm.eq_of_pairwise (le := fun a b => sLe a b = true) (fun _ _ _ _ => sLe_anti) (sorted_pw h) (List.pairwise_mergeSort sLe_trans sLe_total xs) (p.trans (sortS_perm xs).symm)
theorem sortS_length (xs : List Str) : (sortS xs).length = xs.length := (sortS_perm xs).length_eq
theorem call_sortedL : CallR X (.builtin "sorted") (fun vs H Q => ∃ (a : Addr) (xs : List Str), vs = [V.ref a] ∧ SqL X.K H a (xs.map V.str) ∧ ∀ p, H p = none → Q (.ref p) (upd H p (.lst ((sortS xs).map V.str)))) := by
  intro pins s σ H vs us Q I r h
  obtain ⟨a, xs, rfl, hs, q⟩ := h
  obtain ⟨its, rv, hl, hz⟩ := I.list hs
  obtain ⟨u, rfl, rx⟩ := vals1 r
  cases rx
  have hlen0 := rv.length
  rw [List.length_map] at hlen0 hz
  refine PyProof.Rows.sorted_strsAny hl.isList rv.strs (by rw [← hlen0]; exact hz) fun out ys h1 h2 h3 => ?_
  have e := sort_eq h2 h3
  subst e
  obtain ⟨ep, he'⟩ := PyProof.Rows.sortedAll_at s.heap its out
  have hlen : ((sortS xs).map V.str).length ≤ sizeLine := by rw [List.length_map, sortS_length]; exact hz
  exact ⟨.ref _, upd H (s.heap.objs.size + 1) (.lst ((sortS xs).map V.str)), I.laid (t' := s.toks) (fun _ _ => PyProof.Rows.sortedAll_old) (Nat.le_succ _) ⟨hlen, out.toList, ep, vals_of_strs h1, he'⟩, rfl, q _ (I.hok.fresh (Nat.le_succ _))⟩
theorem call_sortedDk (hcalm : X.calm = true) : CallR X (.builtin "sorted") (fun xs H Q => ∃ (a : Addr) (kvs : List (Key × V)) (ks : List Str), xs = [.ref a] ∧ H a = some (.dK kvs) ∧ kvs.map (·.1) = ks.map Sum.inr ∧
    ∀ p, H p = none → Q (.ref p) (upd H p (.lst ((sortS ks).map V.str)))) := by
  intro pins s σ H xs us Q I r q
  obtain ⟨a, kvs, ks, ex, hd, hks, q⟩ := q
  subst ex
  obtain ⟨u, eu, rx⟩ := vals1 r
  subst eu
  cases rx
  obtain ⟨z, lo, vs, rel, dd⟩ := dk_rd I.hok (.inl hd)
  obtain ⟨ep, hat⟩ := dd.dictAt
  have hkeys : vs.map (·.1) = ks.map Sum.inr := rel.keys.symm.trans hks
  have hl : vs.length = ks.length := by simpa using congrArg List.length hkeys
  have h16 : vs.length ≤ sizeLine := by rw [← rel.length]; exact z
  refine Calls.call_function_entry PyProof.Rows.kind_sorted PyProof.Rows.plain_sorted PyProof.Rows.entry_sorted (PyProof.Rows.args_sorted1 _) ?_
  unfold Builtin.«sorted»
  refine wpAny_bind (m := checkCount "sorted" 1 1 _) (wpAny_pure ?_)
  refine wpAny_bind (PySem.W.kdu_collect (A := X.A.in1) (PySem.W.kdl_dict (knd := mixKind X.prog X.w) (kvs := vs) (ep := ep) lo) (I.ok.hd hcalm) hat h16 fun h' tk acc hk hacc => ?_)
  have hal : acc.toList.length = ks.length := by rw [Array.length_toList, hacc.1, hl]
  have hS : PyProof.Rows.StrsAre acc.toList ks := L2.strs_at hal fun j v e => by
    obtain ⟨k, x, e1, e2⟩ := hacc.2 j v (by rw [← Array.getElem?_toList]; exact e)
    have e3 : (vs.map (·.1))[j]? = some k := by rw [List.getElem?_map, e1]; all_goals rfl
    rw [hkeys, List.getElem?_map] at e3
    cases e4 : ks[j]? with
    | none => rw [e4] at e3; cases e3
    | some y =>
      rw [e4] at e3
      obtain rfl : Sum.inr y = k := Option.some.inj e3
      obtain ⟨t, ev⟩ := Value.isStrOf_shape (x := y) (v := v) e2
      exact ⟨y, t, rfl, ev⟩
  have I1 : Inv X pins σ H { s with heap := h', toks := tk } := I.kept hk
  refine wpAny_bind (wpAny_newList ?_ (by rw [hal, ← hl]; exact h16))
  have hoL : (h'.push (PyProof.Rows.seqObj "list" acc.toList.toArray 0)).get? h'.objs.size = some (PyProof.Rows.seqObj "list" acc.toList.toArray 0) := Heap.get?_push_size _ rfl
  show wpAny _ _ _ _ _ { s with heap := h'.push (PyProof.Rows.seqObj "list" acc.toList.toArray 0), toks := tk }
  refine wpAny_bind (wpAny_holding (wpAny_call_entry PyProof.Rows.slot_list_sort ⟨_, hoL, rfl⟩ PyProof.Rows.entry_list_sort
    (PyProof.Rows.list_sort_treeKAny PyProof.Rows.strKind_oneLt (s := { s with heap := h'.push (PyProof.Rows.seqObj "list" acc.toList.toArray 0), toks := tk }) hoL hS.keysOf (fun v₁ v₂ rest e => PyProof.Rows.keyKind_strs (by rw [← e]; exact hS)) (by rw [hal, ← hl]; exact h16) fun st' hp hs => ⟨_, rfl, ?_⟩)
    (PyProof.Rows.args_list_sort _)))
  obtain ⟨ys, g1, g2, g3⟩ := PyProof.Rows.sorted_out_str hS hp hs
  have e := sort_eq g2 g3
  subst e
  obtain ⟨e', he'⟩ := PyProof.Rows.sortedHeap_at (vs := acc.toList) (out := (PyProof.Rows.arrOf st').map (·.2)) hoL
  have hlen : ((sortS ks).map V.str).length ≤ sizeLine := by rw [List.length_map, sortS_length, ← hl]; exact h16
  refine wpAny_pure ⟨_, rfl, .ref h'.objs.size, upd H h'.objs.size (.lst ((sortS ks).map V.str)), I1.laid (t' := tk) (fun b u e => ?_) (Nat.le_refl _)
    (show ObjOk X.prog X.w _ _ _ (.lst ((sortS ks).map V.str)) from ⟨hlen, ((PyProof.Rows.arrOf st').map (·.2)).toList, e', vals_of_strs g1, by rw [Array.toArray_toList]; exact he'⟩), rfl, q _ (I1.hok.fresh (Nat.le_refl _))⟩
  have hb : b < h'.objs.size := Heap.lt_size e
  rw [PyProof.Rows.sortedHeap_old (Nat.ne_of_lt hb) (by rw [PyProof.Rows.size_push']; exact Nat.lt_succ_of_lt hb)]
  exact Heap.get?_push_of_some _ e
end
end Iv

set_option Elab.async false
set_option linter.all false
set_option maxHeartbeats 2000000
/-! built-in functions, methods, stores: all of them -/
namespace Iv
open PySem PySem.Spec L2
section
variable {X : Cx} {ea : Exa} {Wx : WX} {st0 : L2.St}
/-! dicts put and merged -/
abbrev KR (P : Program) (w : World) (K : PySem.W.Frag) (W : Wd) : List (Key × D) → List (Key × V) → Prop := Paired fun a b => a.1 = b.1 ∧ Rep P w K W a.2 b.2
section
variable {P : Program} {w : World} {K : PySem.W.Frag} {W : Wd}
theorem KR.zip : ∀ {ks : List Key} {ds : List D} {vs : List V}, ks.length = vs.length → Reps P w K W ds vs → KR P w K W (ks.zip ds) (ks.zip vs)
  | [], _, _, _, _ => by simp only [List.zip_nil_left]; exact .nil
  | k :: ks, _, [], l, _ => by simp at l
  | k :: ks, [], v :: vs, _, r => by have := r.length; simp at this
  | k :: ks, d :: ds, v :: vs, l, r => by
    obtain ⟨r1, r2⟩ := Reps.cons_iff.mp r
    exact .cons ⟨rfl, r1⟩ (KR.zip (by simpa using l) r2)
theorem KR.any {k : Key} {a : List (Key × D)} {b : List (Key × V)} (h : KR P w K W a b) : (a.any fun kv => decide (kv.1 = k)) = b.any fun kv => decide (kv.1 = k) := by
  induction h with
  | nil => rfl
  | cons h _ ih => rw [List.any_cons, List.any_cons, ih, h.1]
theorem KR.sets {k : Key} {d : D} {v : V} (r : Rep P w K W d v) {a : List (Key × D)} {b : List (Key × V)} (h : KR P w K W a b) : KR P w K W (a.map fun kv => if kv.1 = k then (kv.1, d) else kv) (b.map fun kv => if kv.1 = k then (kv.1, v) else kv) := by
  induction h with
  | nil => exact .nil
  | @cons x y _ _ h _ ih =>
    rw [List.map_cons, List.map_cons]
    refine .cons ?_ ih
    by_cases e : x.1 = k
    · rw [if_pos e, if_pos (h.1 ▸ e)]; exact ⟨h.1, r⟩
    · rw [if_neg e, if_neg fun z => e (h.1.trans z)]; exact h
theorem KR.put {k : Key} {d : D} {v : V} (r : Rep P w K W d v) {a : List (Key × D)} {b : List (Key × V)} (h : KR P w K W a b) : KR P w K W (putD a k d) (putK b k v) := by
  unfold putD putK
  rw [h.any (k := k)]
  split
  · exact h.sets r
  · exact h.snoc ⟨rfl, r⟩
theorem KR.merge {m : List (Key × D)} {n : List (Key × V)} (h : KR P w K W m n) : ∀ {a : List (Key × D)} {b : List (Key × V)}, KR P w K W a b → KR P w K W (mergeD a m) (mergeK b n) := by
  induction h with
  | nil => intro a b q; exact q
  | @cons x y _ _ h _ ih =>
    intro a b q
    have := ih (q.put (k := x.1) h.2)
    unfold mergeD mergeK at *
    rw [List.foldl_cons, List.foldl_cons, ← h.1]
    exact this
theorem KR.parts {a : List (Key × D)} {b : List (Key × V)} (h : KR P w K W a b) : b = (a.map (·.1)).zip (b.map (·.2)) ∧ (a.map (·.1)).length = (b.map (·.2)).length ∧ Reps P w K W (a.map (·.2)) (b.map (·.2)) := by
  induction h with
  | nil => exact ⟨rfl, rfl, Reps.nil⟩
  | @cons x y _ _ h _ ih =>
    obtain ⟨e1, e2, e3⟩ := ih
    simp only [List.map_cons, List.zip_cons_cons, List.length_cons, ← e1, e2, h.1, true_and]
    exact Reps.cons h.2 e3
/-- a list of pairs, as dict(..) takes it -/
theorem pairs_reps {H : Hp} (sub : ∀ a o, W.F a = some o → H a = some o) : ∀ {xs : List D} {vs : List V} {kvs : List (Key × D)}, Reps P w K W xs vs → pairsOf xs = some kvs →
    ∃ (ps : List Addr) (us : List (Key × V)), vs = ps.map V.ref ∧ Paired (fun p kv => SqT K H p [kV kv.1, kv.2]) ps us ∧ KR P w K W kvs us
  | [], vs, kvs, r, e => by
    simp only [pairsOf, Option.some.injEq] at e
    subst e
    rw [Reps.nil_iff.mp r]
    exact ⟨[], [], rfl, .nil, .nil⟩
  | _ :: _, [], _, r, _ => by have := r.length; simp at this
  | d :: ds, v :: vs, kvs, r, e => by
    obtain ⟨r1, r2⟩ := Reps.cons_iff.mp r
    unfold pairsOf at e
    split at e
    · rename_i eq; cases eq
    · rename_i kd x rest eq
      cases eq
      split at e
      · rename_i k hk
        rw [Option.map_eq_some_iff] at e
        obtain ⟨tl, e, rfl⟩ := e
        obtain ⟨ps, us, e1, e2, e3⟩ := pairs_reps sub r2 e
        simp only [Rep] at r1
        obtain ⟨a, zs, rfl, s, q⟩ := r1
        match zs, q with
        | [], q => have := q.length; simp at this
        | [_], q => have := q.length; simp at this
        | z1 :: z2 :: z3 :: _, q => have := q.length; simp at this
        | [z1, z2], q =>
          obtain ⟨q1, q2⟩ := Reps.cons_iff.mp q
          obtain ⟨q2, _⟩ := Reps.cons_iff.mp q2
          have hz := Rep.key q1 hk
          subst hz
          exact ⟨a :: ps, (k, z2) :: us, by rw [e1]; rfl, .cons (sqT_ext sub s) e2, .cons ⟨rfl, q2⟩ e3⟩
      · cases e
    · cases e
end
theorem strs_keys : ∀ {ks : List Key} {ss : List Str}, strsOf (ks.map keyD) = some ss → ks = ss.map Sum.inr
  | [], ss, e => by simp only [List.map_nil, strsOf, Option.some.injEq] at e; subst e; rfl
  | .inl i :: ks, ss, e => by simp only [List.map_cons, keyD, strsOf, reduceCtorEq] at e
  | .inr x :: ks, ss, e => by
    simp only [List.map_cons, keyD, strsOf, Option.map_eq_some_iff] at e
    obtain ⟨t, e, rfl⟩ := e
    rw [strs_keys e]; rfl
theorem nodup_dups : ∀ (n : Nat) (l : List Str), l.length ≤ n → l.eraseDups.Nodup
  | 0, l, h => by cases l with | nil => simp | cons => simp at h
  | n + 1, [], h => by simp
  | n + 1, x :: r, h => by
    rw [List.eraseDups_cons, List.nodup_cons]
    refine ⟨fun hm => ?_, nodup_dups n _ (by have := List.length_filter_le (fun b => !b == x) r; simp at h; omega)⟩
    rw [List.mem_eraseDups, List.mem_filter] at hm
    simp at hm
theorem call_set (pl : Pl X) : CallR X (.type "set") (fun xs H Q => ∃ (a : Addr) (ss : List Str), xs = [V.ref a] ∧ SqL X.K H a (ss.map V.str) ∧ ss.length < 1000 ∧ ∀ p, H p = none → Q (.ref p) (upd H p (SetHO X.prog X.w p ss.eraseDups))) := by
  intro pins s σ H xs us Q I r h
  obtain ⟨a, ss, rfl, hs, h64, q⟩ := h
  obtain ⟨its, rv, hl, hz⟩ := I.list hs
  obtain ⟨u, rfl, rx⟩ := vals1 r
  cases rx
  refine call_set_texts (I.ok.hd pl.calm) hl.isList (by rw [List.toList_toArray]; exact rv.strs) (by unfold PySem.scanBound; omega) fun h' tk hS hk => ?_
  have hS2 : SetS X.w h' s.heap.objs.size (fun y => decide (y ∈ ss.eraseDups)) ss.eraseDups.length := hS.congr fun y => by simp [List.mem_eraseDups]
  have ho : ∃ o, h'.get? s.heap.objs.size = some o := let ⟨o, _, _, _, ho, _⟩ := hS2; ⟨o, ho⟩
  exact ⟨.ref _, upd H s.heap.objs.size (SetHO X.prog X.w s.heap.objs.size ss.eraseDups), I.laid (t' := tk) hk (Nat.le_refl _)
    (show ObjOk X.prog X.w _ h' _ (SetHO X.prog X.w s.heap.objs.size ss.eraseDups) from ⟨⟨nodup_dups _ _ (Nat.le_refl _), hS2⟩, ho, fun h1 h2 p k => ⟨p.1, p.2.at k⟩⟩), rfl, q _ (I.hok.fresh (Nat.le_refl _))⟩
theorem call_sortedS (pl : Pl X) : CallR X (.builtin "sorted") (fun xs H Q => ∃ (a : Addr) (ss : List Str), xs = [V.ref a] ∧ H a = some (SetHO X.prog X.w a ss) ∧ ∀ p, H p = none → Q (.ref p) (upd H p (.lst ((sortS ss).map V.str)))) := by
  intro pins s σ H xs us Q I r h
  obtain ⟨a, ss, rfl, ha, q⟩ := h
  obtain ⟨u, rfl, rx⟩ := vals1 r
  cases rx
  obtain ⟨⟨nd, hS⟩, _, _⟩ := (show ObjOk X.prog X.w H s.heap a (SetHO X.prog X.w a ss) from I.hok a _ ha)
  refine sorted_setS hS (I.ok.hd pl.calm) fun s' p out c zs ys k g o hp hout h1 h2 h3 h4 h5 h6 => ?_
  have e : ys = sortS ss := sort_eq (h2.trans ((List.perm_ext_iff_of_nodup h4 nd).mpr fun k => by rw [h5, decide_eq_true_eq])) h3
  subst e
  have hlen : ((sortS ss).map V.str).length ≤ sizeLine := by rw [List.length_map]; exact h6
  have hn : H p = none := I.hok.fresh hp
  obtain ⟨hh, gg, dd, tt, oo⟩ := s'
  have g : gg = s.gens := g
  have o : oo = s.os := o
  subst g o
  have I1 : Inv X pins σ (upd H p (.lst ((sortS ss).map V.str))) { s with heap := hh, gens := s.gens, drawn := dd, toks := tt } :=
    I.call (ch := []) (Un.laid k hp hn) (I.hok.laid k hp ⟨hlen, out.toList, c, vals_of_strs h1, hout⟩) I.bare (fun _ z => nomatch z)
  exact ⟨.ref p, _, I1, rfl, q _ (I.hok.fresh hp)⟩
set_option maxHeartbeats 8000000 in
theorem call_bi (pl : Pl X) (sy : Sys X) (b : Bi) (mu : Bool) : CallR X b.val (rBi X ea Wx st0 b mu) := by
  intro pins s σ0 H xs us Q I r h
  obtain ⟨W, σ, a, x, rfl, hσ, ra, h⟩ := h
  have hc := pl.calm
  unfold biD at h
  split at h
  · rename_i ys e1
    obtain ⟨p, vs, rfl, s1, q⟩ := hσ.lst ra e1
    exact call_len pins s σ0 H _ us Q I r ⟨_, vs.length, rfl, .inl ⟨vs, SqL.of s1, rfl⟩, h.here hσ (by simp only [Rep, q.length])⟩
  · rename_i ys e1
    obtain ⟨p, vs, rfl, s1, q⟩ := hσ.ro ra e1
    exact call_len pins s σ0 H _ us Q I r ⟨_, vs.length, rfl, .inl ⟨vs, s1, rfl⟩, h.here hσ (by simp only [Rep, q.length])⟩
  · rename_i ys e1
    obtain ⟨p, vs, rfl, s1, q⟩ := hσ.tup ra e1
    exact call_len pins s σ0 H _ us Q I r ⟨_, vs.length, rfl, .inr ⟨vs, s1, rfl⟩, h.here hσ (by simp only [Rep, q.length])⟩
  · rename_i z e1
    have := ra.str e1; subst x
    split at h
    · rename_i hl
      exact call_len pins s σ0 H _ us Q I r ⟨_, z.length, rfl, ⟨by rw [← lim_eq]; exact hl, rfl⟩, h.here hσ (by simp only [Rep])⟩
    · exact False.elim h
  · rename_i ks ys e1
    obtain ⟨p, vs, rfl, s1, l, q⟩ := hσ.dic ra e1
    refine call_lenD pins s σ0 H _ us Q I r ⟨p, _, rfl, s1, h.here hσ (by simp only [Rep, List.length_zip, V.int.injEq]; omega)⟩
  · rename_i ys e1
    obtain ⟨p, vs, rfl, s1, q⟩ := hσ.lst ra e1
    exact call_list_of pins s σ0 H _ us Q I r ⟨p, vs, rfl, .inl (SqL.of s1), (h.newL hσ q).2⟩
  · rename_i ys e1
    obtain ⟨p, vs, rfl, s1, q⟩ := hσ.ro ra e1
    exact call_list_of pins s σ0 H _ us Q I r ⟨p, vs, rfl, .inl s1, (h.newL hσ q).2⟩
  · rename_i ys e1
    obtain ⟨p, vs, rfl, s1, q⟩ := hσ.tup ra e1
    exact call_list_of pins s σ0 H _ us Q I r ⟨p, vs, rfl, .inr s1, (h.newL hσ q).2⟩
  · rename_i ks ys e1
    obtain ⟨p, vs, rfl, s1, l, q⟩ := hσ.dic ra e1
    refine call_list_dK hc pins s σ0 H _ us Q I r ⟨p, _, rfl, s1, ?_⟩
    have e : ((ks.zip vs).map fun kv => kV kv.1) = ks.map kV := by
      have : ((ks.zip vs).map fun kv => kV kv.1) = ((ks.zip vs).map (·.1)).map kV := by rw [List.map_map]; rfl
      rw [this, List.map_fst_zip (by omega)]
    rw [e]
    exact (h.newL hσ (Reps.ofKeys ks)).2
  · rename_i ys e1
    obtain ⟨p, vs, rfl, s1, q⟩ := hσ.lst ra e1
    exact call_tuple_of pins s σ0 H _ us Q I r ⟨p, vs, rfl, .inl ⟨SqL.of s1, (h.newT hσ q).2⟩⟩
  · rename_i ys e1
    obtain ⟨p, vs, rfl, s1, q⟩ := hσ.ro ra e1
    exact call_tuple_of pins s σ0 H _ us Q I r ⟨p, vs, rfl, .inl ⟨s1, (h.newT hσ q).2⟩⟩
  · rename_i ys e1
    have ra' := ra
    obtain ⟨p, vs, rfl, s1, q⟩ := hσ.tup ra e1
    rw [view_tup e1] at ra'
    exact call_tuple_of pins s σ0 H _ us Q I r ⟨p, vs, rfl, .inr ⟨s1, h.here hσ ra'⟩⟩
  · rename_i i e1
    have := ra.int e1; subst x
    exact call_int1 pins s σ0 H _ us Q I r (.inl ⟨i, rfl, h.here hσ (by simp only [Rep])⟩)
  · rename_i k e1
    have := ra.bl e1; subst x
    exact call_int1 pins s σ0 H _ us Q I r (.inr ⟨k, rfl, h.here hσ (by simp only [Rep])⟩)
  · rename_i i e1
    have := ra.int e1; subst x
    split at h
    · rename_i hl
      exact call_str_int pins s σ0 H _ us Q I r ⟨i, rfl, hl, h.here hσ (by simp only [Rep])⟩
    · exact False.elim h
  · split at h
    · rename_i hl
      exact call_repr pl sy pins s σ0 H _ us Q I r ⟨W, σ, a, x, rfl, hσ, ra, hl, h.here hσ (by simp only [Rep])⟩
    · exact False.elim h
  · rename_i ys e1
    split at h
    · rename_i bs hb
      obtain ⟨p, vs, rfl, s1, q⟩ := hσ.lst ra e1
      rw [q.bls hb] at s1
      exact cr_all hc pins s σ0 H _ us Q I r ⟨p, bs, rfl, SqL.of s1, h.here hσ (by simp only [Rep])⟩
    · exact False.elim h
  · rename_i ys e1
    split at h
    · rename_i bs hb
      obtain ⟨p, vs, rfl, s1, q⟩ := hσ.lst ra e1
      rw [q.bls hb] at s1
      exact cr_any hc pins s σ0 H _ us Q I r ⟨p, bs, rfl, SqL.of s1, h.here hσ (by simp only [Rep])⟩
    · exact False.elim h
  · rename_i ys e1
    split at h
    · rename_i bs hb
      obtain ⟨p, vs, rfl, s1, q⟩ := hσ.lst ra e1
      rw [q.ints hb] at s1
      exact cr_sum hc pins s σ0 H _ us Q I r ⟨p, bs, rfl, SqL.of s1, h.here hσ (by simp only [Rep])⟩
    · exact False.elim h
  · rename_i ys e1
    split at h
    · rename_i ss hb
      obtain ⟨p, vs, rfl, s1, q⟩ := hσ.lst ra e1
      rw [q.strs hb] at s1
      exact call_sortedL pins s σ0 H _ us Q I r ⟨p, ss, rfl, SqL.of s1, (h.newL hσ (Reps.ofStrs _)).2⟩
    · exact False.elim h
  · rename_i ks ys e1
    split at h
    · rename_i ss hb
      obtain ⟨p, vs, rfl, s1, l, q⟩ := hσ.dic ra e1
      refine call_sortedDk hc pins s σ0 H _ us Q I r ⟨p, _, ss, rfl, s1, ?_, (h.newL hσ (Reps.ofStrs _)).2⟩
      rw [List.map_fst_zip (by omega), strs_keys hb]
    · exact False.elim h
  · rename_i ss e1
    obtain ⟨p, rfl, s1⟩ := hσ.set ra e1
    exact call_sortedS pl pins s σ0 H _ us Q I r ⟨p, ss, rfl, s1, (h.newL hσ (Reps.ofStrs _)).2⟩
  · rename_i ys e1
    split at h
    · rename_i ss hb
      split at h
      · rename_i hl
        obtain ⟨p, vs, rfl, s1, q⟩ := hσ.lst ra e1
        rw [q.strs hb] at s1
        refine call_set pl pins s σ0 H _ us Q I r ⟨p, ss, rfl, SqL.of s1, hl, fun p hp => h _ _ _ (hσ.leAdd hp) (hσ.add hp) ?_⟩
        simp only [Rep]
        exact ⟨p, rfl, upd_same⟩
      · exact False.elim h
    · exact False.elim h
  · rename_i ys e1
    split at h
    · rename_i kvs hb
      obtain ⟨p, vs, rfl, s1, q⟩ := hσ.lst ra e1
      obtain ⟨ps, us', e2, e3, e4⟩ := pairs_reps hσ.sub q hb
      subst e2
      obtain ⟨f1, f2, f3⟩ := (e4.merge (a := []) (b := []) .nil).parts
      refine call_dictP hc pins s σ0 H _ us Q I r ⟨p, ps, us', rfl, SqL.of s1, e3, ?_⟩
      rw [f1]
      exact h.newD hσ f3 f2
    · exact False.elim h
  · exact False.elim h
end
end Iv

set_option Elab.async false
set_option linter.all false
set_option maxHeartbeats 2000000
/-! isinstance, methods, stores -/
namespace Iv
open PySem PySem.Spec L2
def Ty.name : Ty → String
  | .str => "str" | .tup => "tuple" | .int => "int" | .bool => "bool" | .list => "list" | .dict => "dict"
def tyN : D → Option String
  | .non => some "NoneType" | .bl _ => some "bool" | .int _ => some "int" | .str _ => some "str" | .tup _ => some "tuple" | .lst _ => some "list" | .ro _ => some "list" | .dic _ _ => some "dict" | _ => none
theorem tyN_kit {d : D} {n : String} (h : tyN d = some n) (t : Ty) : kitB n t.name = some (isTy t d) := by
  cases d <;> simp only [tyN, Option.some.injEq, reduceCtorEq] at h <;> subst h <;> cases t <;> simp only [isTy, Ty.name] <;> decide +kernel
theorem kitAny_tys {K : PySem.W.Frag} {d : D} {n : String} (h : tyN d = some n) : ∀ ts : List Ty, PySem.W.kitAny K (.type n) (ts.map fun t => Value.type t.name) = some (ts.any fun t => isTy t d)
  | [] => rfl
  | t :: ts => by
    refine kitAny_cons (kit_ty (tyN_kit h t)) (fun e => ?_) (fun e => ?_)
    · rw [List.any_cons, e, Bool.false_or]; exact kitAny_tys h ts
    · rw [List.any_cons, e, Bool.true_or]
section
variable {X : Cx} {ea : Exa} {Wx : WX} {st0 : L2.St}
theorem tyX_seqL {K : PySem.W.Frag} {H : Hp} {a : Addr} {vs : List V} (h : SqL K H a vs) : TyX K H (.ref a) (.type "list") := by
  rcases h with (h | ⟨o, h⟩) | ⟨o, _, _, h, c, _⟩
  · exact .base (.lst h)
  · exact .base (.frz h)
  · exact .kList h c
theorem tyX_seqT {K : PySem.W.Frag} {H : Hp} {a : Addr} {vs : List V} (h : SqT K H a vs) : TyX K H (.ref a) (.type "tuple") := by
  rcases h with (h | ⟨o, h⟩) | ⟨o, _, _, h, c, _⟩
  · exact .base (.tup h)
  · exact .fTuple h
  · exact .kTuple h c
theorem ty_of {P : Program} {w : World} {K : PySem.W.Frag} {W : Wd} {σ : Store} {H : Hp} {a : D} {v : V} {n : String} (hσ : Rel P w K W σ H) (r : Rep P w K W a v) (h : tyN (view σ a) = some n) : TyX K H v (.type n) := by
  obtain ⟨e, he⟩ : ∃ e, view σ a = e := ⟨_, rfl⟩
  rw [he] at h
  cases e with
  | non => cases h; have := r.non he; subst this; exact .base .non
  | bl b => cases h; have := r.bl he; subst this; exact .base (.bl b)
  | int b => cases h; have := r.int he; subst this; exact .base (.int b)
  | str b => cases h; have := r.str he; subst this; exact .base (.str b)
  | tup xs => cases h; obtain ⟨p, vs, rfl, s, q⟩ := hσ.tup r he; exact tyX_seqT s
  | lst xs => cases h; obtain ⟨p, vs, rfl, s, q⟩ := hσ.lst r he; exact .base (.lst s)
  | ro xs => cases h; obtain ⟨p, vs, rfl, s, q⟩ := hσ.ro r he; exact tyX_seqL s
  | dic ks xs => cases h; obtain ⟨p, vs, rfl, s, l, q⟩ := hσ.dic r he; exact .base (.dK s)
  | _ => cases h
theorem isiD_ok {ts : List Ty} {x : D} {σ : Store} {Q : VK} {W : Wd} (h : Post X.prog X.w X.K ea Wx st0 W (isiD ts x σ) Q) : ∃ n, tyN (view σ x) = some n ∧ isiD ts x σ = .ok (.bl (ts.any fun t => isTy t (view σ x))) σ := by
  unfold isiD at h ⊢
  cases e : view σ x with
  | set _ => rw [e] at h; exact False.elim h
  | ref _ => rw [e] at h; exact False.elim h
  | _ => exact ⟨_, rfl, rfl⟩
/-- isinstance(x, T) and isinstance(x, (T1, ..)) -/
theorem call_is1 (t : Ty) : CallR X (.builtin "isinstance") (fun xs H Q => ∃ W σ a x, xs = [x, .ty t.name] ∧ Rel X.prog X.w X.K W σ H ∧ Rep X.prog X.w X.K W a x ∧ Post X.prog X.w X.K ea Wx st0 W (isiD [t] a σ) Q) := by
  intro pins s σ0 H xs us Q I r h
  obtain ⟨W, σ, a, x, rfl, hσ, ra, h⟩ := h
  obtain ⟨n, hn, e⟩ := isiD_ok h
  rw [e] at h
  refine call_isi pins s σ0 H _ us Q I r ⟨x, _, _, _, _, rfl, .ty _, ty_of hσ ra hn, kit_ty (tyN_kit hn t), ?_⟩
  have := h.here hσ (v := .bl (isTy t (view σ a))) (by simp only [Rep, List.any_cons, List.any_nil, Bool.or_false])
  exact this
theorem cls_pair : ∀ ts : List Ty, Paired ClsV (ts.map fun t => V.ty t.name) (ts.map fun t => Value.type t.name)
  | [] => .nil
  | t :: ts => .cons (.ty _) (cls_pair ts)
theorem call_isN (ts : List Ty) : CallR X (.builtin "isinstance") (fun xs H Q => ∃ W σ a x tp, xs = [x, .ref tp] ∧ H tp = some (.tup (ts.map fun t => V.ty t.name)) ∧ Rel X.prog X.w X.K W σ H ∧ Rep X.prog X.w X.K W a x ∧ Post X.prog X.w X.K ea Wx st0 W (isiD ts a σ) Q) := by
  intro pins s σ0 H xs us Q I r h
  obtain ⟨W, σ, a, x, tp, rfl, hT, hσ, ra, h⟩ := h
  obtain ⟨n, hn, e⟩ := isiD_ok h
  rw [e] at h
  refine call_isiT pins s σ0 H _ us Q I r ⟨x, tp, _, _, _, _, rfl, hT, cls_pair ts, ty_of hσ ra hn, kitAny_tys hn ts, h.here hσ (by simp only [Rep])⟩
/-! methods -/
def Me.id : Me → String
  | .append => "list.append" | .pop => "list.pop" | .extend => "list.extend" | .get => "dict.get" | .join => "str.join"
def Me.T : Me → String
  | .append => "list" | .pop => "list" | .extend => "list" | .get => "dict" | .join => "str"
def Me.name : Me → Str
  | .append => "append" | .pop => "pop" | .extend => "extend" | .get => "get" | .join => "join"
def rMe (X : Cx) (ea : Exa) (Wx : WX) (st0 : L2.St) (m : Me) : V → List V → Hp → VK → Prop := fun x xs H Q => ∃ W σ o ds, Rel X.prog X.w X.K W σ H ∧ Rep X.prog X.w X.K W o x ∧ Reps X.prog X.w X.K W ds xs ∧ Post X.prog X.w X.K ea Wx st0 W (meD m o ds σ) Q
theorem one_reps {P : Program} {w : World} {K : PySem.W.Frag} {W : Wd} {d : D} {xs : List V} (r : Reps P w K W [d] xs) : ∃ x, xs = [x] ∧ Rep P w K W d x := by
  match xs, r with
  | [], r => have := r.length; simp at this
  | _ :: _ :: _, r => have := r.length; simp at this
  | [x], r => exact ⟨x, rfl, (Reps.cons_iff.mp r).1⟩
theorem two_reps {P : Program} {w : World} {K : PySem.W.Frag} {W : Wd} {d e : D} {xs : List V} (r : Reps P w K W [d, e] xs) : ∃ x y, xs = [x, y] ∧ Rep P w K W d x ∧ Rep P w K W e y := by
  match xs, r with
  | [], r => have := r.length; simp at this
  | [_], r => have := r.length; simp at this
  | _ :: _ :: _ :: _, r => have := r.length; simp at this
  | [x, y], r => exact ⟨x, y, rfl, (Reps.cons_iff.mp r).1, (Reps.cons_iff.mp (Reps.cons_iff.mp r).2).1⟩
theorem zero_reps {P : Program} {w : World} {K : PySem.W.Frag} {W : Wd} {xs : List V} (r : Reps P w K W [] xs) : xs = [] := Reps.nil_iff.mp r
theorem get_value {P : Program} {w : World} {K : PySem.W.Frag} {W : Wd} {k : Key} {ks : List Key} {xs : List D} {vs : List V} {d : D} {v : V} (l : ks.length = vs.length) (r : Reps P w K W xs vs) (rd : Rep P w K W d v) : Rep P w K W ((look ks xs k).getD d) ((valV (ks.zip vs) k).getD v) := by
  rcases look_zip k l r with ⟨h1, h2⟩ | ⟨d', v', h1, h2, h3⟩
  · rw [h1, h2]; exact rd
  · rw [h1, h2]; exact h3
theorem mt_all (pl : Pl X) (m : Me) : MtR X m.id (rMe X ea Wx st0 m) := by
  intro pins s σ0 H x xs v us Q I rx rxs h
  obtain ⟨W, σ, o, ds, hσ, ro, rs, h⟩ := h
  have hu : X.A.units + 1 < cLine := by have := pl.units; omega
  unfold meD at h
  split at h
  · -- append
    rename_i n d
    obtain ⟨y, rfl, rd⟩ := one_reps rs
    simp only [Rep] at ro
    obtain ⟨_, rfl⟩ := ro
    split at h
    · rename_i zs hz
      split at h
      · rename_i hl
        obtain ⟨vs, hv, q⟩ := hσ.cell n _ hz
        refine mt_append pins s σ0 H _ _ v us Q I rx rxs ⟨W.μ n, vs, y, rfl, rfl, hv, by rw [← lim_eq, ← q.length]; exact hl, h W _ _ (Le.refl W) (hσ.put hz (by simp) ⟨_, upd_same, q.append (Reps.one rd)⟩ (by simp)) (by simp only [Rep])⟩
      · exact False.elim h
    · exact False.elim h
  · rename_i n
    have := zero_reps rs; subst this
    simp only [Rep] at ro
    obtain ⟨_, rfl⟩ := ro
    split at h
    · rename_i zs hz
      split at h
      · rename_i d hd
        obtain ⟨vs, hv, q⟩ := hσ.cell n _ hz
        obtain ⟨y, hy, ry⟩ := q.get hd
        rw [q.length] at hy
        exact mt_pop pins s σ0 H _ _ v us Q I rx rxs ⟨W.μ n, vs, y, rfl, rfl, hv, hy, h W _ _ (Le.refl W) (hσ.put hz (by simp) ⟨_, upd_same, q.dropLast⟩ (by simp)) ry⟩
      · exact False.elim h
    · exact False.elim h
  · rename_i n d
    obtain ⟨y, rfl, rd⟩ := one_reps rs
    simp only [Rep] at ro
    obtain ⟨_, rfl⟩ := ro
    split at h
    · rename_i zs ys hz hy
      split at h
      · rename_i hl
        obtain ⟨vs, hv, q⟩ := hσ.cell n _ hz
        obtain ⟨p, us', rfl, hp, q2⟩ := hσ.lst rd hy
        exact mt_extend pins s σ0 H _ _ v us Q I rx rxs ⟨W.μ n, p, vs, us', rfl, rfl, hv, hp, by rw [← lim_eq, ← q.length, ← q2.length]; exact hl, h W _ _ (Le.refl W) (hσ.put hz (by simp) ⟨_, upd_same, q.append q2⟩ (by simp)) (by simp only [Rep])⟩
      · exact False.elim h
    · exact False.elim h
  · rename_i k
    obtain ⟨y, rfl, rd⟩ := one_reps rs
    split at h
    · rename_i ks zs key e1 e2
      obtain ⟨p, vs, rfl, s1, l, q⟩ := hσ.dic ro e1
      have := Rep.key rd e2; subst this
      cases rx
      obtain ⟨u, rfl, ru⟩ := vals1 rxs
      exact d_get1 hu I (DGet.k s1) ru fun w' s' I' rw' => ⟨_, H, I', rw', h.here hσ (get_value l q (by simp only [Rep]))⟩
    · exact False.elim h
  · rename_i k d
    obtain ⟨y, z, rfl, rd, rz⟩ := two_reps rs
    split at h
    · rename_i ks zs key e1 e2
      obtain ⟨p, vs, rfl, s1, l, q⟩ := hσ.dic ro e1
      have := Rep.key rd e2; subst this
      cases rx
      obtain ⟨u, u2, rfl, ru, ru2⟩ := vals2 rxs
      exact d_get2 hu I (DGet.k s1) ru ru2 fun w' s' I' rw' => ⟨_, H, I', rw', h.here hσ (get_value l q rz)⟩
    · exact False.elim h
  · rename_i z d
    obtain ⟨y, rfl, rd⟩ := one_reps rs
    simp only [Rep] at ro
    subst x
    split at h
    · rename_i ys e1
      split at h
      · rename_i ss hs
        split at h
        · rename_i hl
          obtain ⟨p, vs, rfl, s1, q⟩ := hσ.lst rd e1
          rw [q.strs hs] at s1
          exact mt_join pins s σ0 H _ _ v us Q I rx rxs ⟨z, p, ss, rfl, rfl, .inl (SqL.of s1), hl, h.here hσ (by simp only [Rep])⟩
        · exact False.elim h
      · exact False.elim h
    · exact False.elim h
  · exact False.elim h
theorem meOk_ty {P : Program} {w : World} {K : PySem.W.Frag} {W : Wd} {σ : Store} {H : Hp} {a : D} {v : V} {m : Me} (hσ : Rel P w K W σ H) (r : Rep P w K W a v) (h : meOk m (view σ a) = true) : tyV K m.T v H := by
  obtain ⟨e, he⟩ : ∃ e, view σ a = e := ⟨_, rfl⟩
  rw [he] at h
  cases e <;> cases m <;> simp only [meOk, Bool.false_eq_true] at h
  all_goals first
    | (obtain ⟨p, vs, rfl, s, q⟩ := hσ.lst r he; exact .inl ⟨rfl, vs, SqL.of s⟩)
    | (obtain ⟨p, vs, rfl, s, l, q⟩ := hσ.dic r he; exact .inr (.inr (.inl ⟨rfl, .inl ⟨_, s⟩⟩)))
    | (have := r.str he; subst this; exact rfl)
/-! stores -/
def rPut (X : Cx) : V → V → V → Hp → (Hp → Prop) → Prop := fun o i v H Q => ∃ W σ a k d, Rel X.prog X.w X.K W σ H ∧ Rep X.prog X.w X.K W a o ∧ Rep X.prog X.w X.K W k i ∧ Rep X.prog X.w X.K W d v ∧
  ∃ σ', putAt a k d σ = some σ' ∧ ∀ H', Rel X.prog X.w X.K W σ' H' → Q H'
theorem put_all (pl : Pl X) : PSet X (rPut X) := by
  intro pins s σ0 H o i v ov iv u Q I ro ri rv h
  obtain ⟨W, σ, a, k, d, hσ, ra, rk, rd, σ', e, h⟩ := h
  have hu : X.A.units + 1 < cLine := by have := pl.units; omega
  unfold putAt at e
  split at e
  · rename_i n
    simp only [Rep] at ra
    obtain ⟨_, rfl⟩ := ra
    split at e
    · rename_i xs hz
      split at e
      · rename_i ix
        simp only [Rep] at rk
        subst i
        split at e
        · rename_i j hj
          cases e
          obtain ⟨vs, hv, q⟩ := hσ.cell n _ hz
          exact set_list pins s σ0 H _ _ v ov iv u Q I ro ri rv ⟨W.μ n, vs, ix, j, rfl, rfl, hv, by rw [← q.length]; exact hj, h _ (hσ.put hz (by simp) ⟨_, upd_same, q.set rd j⟩ (by simp))⟩
        · cases e
      · cases e
    · rename_i ks xs hz
      split at e
      · rename_i key hk
        split at e
        · rename_i hl
          cases e
          obtain ⟨vs, hv, l, q⟩ := hσ.cell n _ hz
          have := Rep.key rk hk; subst this
          cases ro
          have hkr := (KR.zip l q).put (k := key) rd
          obtain ⟨f1, f2, f3⟩ := hkr.parts
          refine d_setItem hu I (DPut.k hv (by rw [List.length_zip, ← lim_eq]; omega)) ri rv fun s' I' => ⟨_, I', h _ (hσ.put hz (by simp) ⟨_, ?_, f2, f3⟩ (by simp))⟩
          rw [upd_same, ← f1]
        · cases e
      · cases e
    · cases e
  · cases e
end
end Iv

set_option Elab.async false
set_option linter.all false
/-! the text against the mini-AST -/
namespace Iv
open PySem PySem.Spec L2
mutual
def dEq : D → D → Bool
  | .non, .non => true
  | .bl a, .bl b => a == b
  | .int a, .int b => decide (a = b)
  | .str a, .str b => decide (a = b)
  | .tup a, .tup b => dEqs a b
  | .ro a, .ro b => dEqs a b
  | _, _ => false
def dEqs : List D → List D → Bool
  | [], [] => true
  | a :: as, b :: bs => dEq a b && dEqs as bs
  | _, _ => false
end
mutual
theorem dEq_eq : ∀ {a b : D}, dEq a b = true → a = b
  | .non, b, h => by cases b <;> simp only [dEq, Bool.false_eq_true] at h; rfl
  | .bl x, b, h => by cases b <;> simp only [dEq, Bool.false_eq_true, beq_iff_eq] at h; rw [h]
  | .int x, b, h => by cases b <;> simp only [dEq, Bool.false_eq_true, decide_eq_true_eq] at h; rw [h]
  | .str x, b, h => by cases b <;> simp only [dEq, Bool.false_eq_true, decide_eq_true_eq] at h; rw [h]
  | .tup x, b, h => by cases b <;> simp only [dEq, Bool.false_eq_true] at h; rw [dEqs_eq h]
  | .ro x, b, h => by cases b <;> simp only [dEq, Bool.false_eq_true] at h; rw [dEqs_eq h]
  | .lst x, b, h => by cases b <;> simp only [dEq, Bool.false_eq_true] at h
  | .dic _ _, b, h => by cases b <;> simp only [dEq, Bool.false_eq_true] at h
  | .set _, b, h => by cases b <;> simp only [dEq, Bool.false_eq_true] at h
  | .ref _, b, h => by cases b <;> simp only [dEq, Bool.false_eq_true] at h
theorem dEqs_eq : ∀ {a b : List D}, dEqs a b = true → a = b
  | [], b, h => by cases b <;> simp only [dEqs, Bool.false_eq_true] at h; rfl
  | x :: xs, b, h => by
    cases b with
    | nil => simp only [dEqs, Bool.false_eq_true] at h
    | cons y ys =>
      simp only [dEqs, Bool.and_eq_true] at h
      rw [dEq_eq h.1, dEqs_eq h.2]
end
/-- how a def may be called: so many positional arguments, these keywords, these defaults behind them, in this order -/
structure Shp where
  np : Nat
  ks : List Str
  ds : List D
  pm : List Nat
/-- the global names: defs (with their number), data -/
structure Sg where
  fns : List (Str × Nat × List Shp)
  glo : List (Str × D)
def visC (sc : Scope) (x : Str) : Bool := match sc.names.lookup x with
  | some .local => true
  | some .cell => true
  | some .free => true
  | _ => false
def locC (sc : Scope) (x : Str) : Bool := match sc.names.lookup x with
  | some .local => true
  | some .cell => true
  | _ => false
def gloC (sc : Scope) (x : Str) : Bool := match sc.names.lookup x with
  | some .globalImplicit => true
  | _ => false
def nameOk (x : Str) : Bool := !(x == ("__debug__" : Str)) && !(x == ("__classdict__" : Str))
def Bi.name : Bi → Str
  | .len => "len" | .list => "list" | .tuple => "tuple" | .int => "int" | .str => "str" | .repr => "repr" | .all => "all" | .any => "any" | .sum => "sum" | .sorted => "sorted" | .set => "set" | .dict => "dict"
/-- the built-in names that a text may use -/
def bltNames : List Str := ["len", "list", "tuple", "int", "str", "repr", "all", "any", "sum", "sorted", "set", "dict", "isinstance", "range", "bool"]
def Ty.nm : Ty → Str
  | .str => "str" | .tup => "tuple" | .int => "int" | .bool => "bool" | .list => "list" | .dict => "dict"
/-- no slice, no star -/
def plainIx : Expr → Bool
  | .Slice .. => false
  | _ => true
def noStar : List Expr → Bool
  | [] => true
  | .Starred _ _ :: _ => false
  | _ :: r => noStar r
def ownP (N : List Str) (own : List Nat) : List (Str × Nat) := own.map fun i => (N.getD i "", i)
def baseOk : Expr → Bool
  | .Call (.Name x _) [] [] _ => !(x == ("super" : Str))
  | _ => true
def tyNames (sc : Scope) : List Expr → List Ty → Bool
  | [], [] => true
  | .Name x _ :: es, t :: ts => decide (x = t.nm) && gloC sc x && tyNames sc es ts
  | _, _ => false
def tgIn (own : List Nat) : Tg → Bool
  | .nm i => decide (i ∈ own)
  | .tup is => is.all fun i => decide (i ∈ own)
def chkTs (N : List Str) (sc : Scope) : List Expr → List Nat → Bool
  | [], [] => true
  | .Name x _ :: es, i :: is => decide (N[i]? = some x) && locC sc x && chkTs N sc es is
  | _, _ => false
/-- targets: a name; a tuple of names -/
def chkT (N : List Str) (sc : Scope) : Expr → Tg → Bool
  | .Name x _, .nm i => decide (N[i]? = some x) && locC sc x
  | .Tuple es _ _, .tup is => chkTs N sc es is
  | _, _ => false
def isMinus1 : Option Expr → Bool
  | some (.UnaryOp .USub (.Constant (.int 1) _ _) _) => true
  | _ => false
section
variable (g : Sg) (N : List Str)
mutual
def chkE : Nat → Scope → Expr → Ex → Bool
  | 0, _, _, _ => false
  | _ + 1, sc, .Name x _, .loc i => decide (N[i]? = some x) && visC sc x && nameOk x
  | _ + 1, sc, .Name x _, .glo y d => decide (x = y) && gloC sc x && nameOk x && (match g.glo.lookup x with
    | some e => dEq e d
    | none => false)
  | _ + 1, _, .Constant .none _ _, .non => true
  | _ + 1, _, .Constant (.bool b) _ _, .bl c => b == c
  | _ + 1, _, .Constant (.int b) _ _, .int c => decide (b = c)
  | _ + 1, _, .Constant (.str b) _ _, .str c => decide (b = c)
  | n + 1, sc, .BinOp a op b _, .bin o a' b' => decide (op = o.py) && chkE n sc a a' && chkE n sc b b'
  | n + 1, sc, .UnaryOp .USub a _, .neg a' => chkE n sc a a'
  | n + 1, sc, .UnaryOp .Not a _, .not a' => chkE n sc a a'
  | n + 1, sc, .Compare a [op] [b] _, .cmp o a' b' => decide (op = o.py) && !behindInMarks op b && chkE n sc a a' && chkE n sc b b'
  | n + 1, sc, .Compare a [op, op2] [b, c] _, .chain o o2 a' b' c' => decide (op = o.py) && decide (op2 = o2.py) && !lastMarks [op, op2] [b, c] && chkE n sc a a' && chkE n sc b b' && chkE n sc c c'
  | n + 1, sc, .BoolOp .And (a :: b :: r) p, .and a' b' => chkE n sc a a' && chkE n sc (.BoolOp .And (b :: r) p) b'
  | n + 1, sc, .BoolOp .Or (a :: b :: r) p, .or a' b' => chkE n sc a a' && chkE n sc (.BoolOp .Or (b :: r) p) b'
  | n + 1, sc, .BoolOp _ [a] _, e => chkE n sc a e
  | n + 1, sc, .IfExp c a b _, .ite c' a' b' => chkE n sc c c' && chkE n sc a a' && chkE n sc b b'
  | n + 1, sc, .Tuple es _ _, .tup es' => chkA n sc es es'
  | n + 1, sc, .List es _, .lst _ es' => chkA n sc es es'
  | n + 1, sc, .Dict ks vs _, .dic _ kvs => chkD n sc ks vs kvs && decide (ks.length ≤ 15)
  | n + 1, sc, .Subscript a (.Slice lo hi none _) _, .slice _ a' lo' hi' => chkE n sc a a' && chkO n sc lo lo' && chkO n sc hi hi'
  | n + 1, sc, .Subscript a (.Slice none none st _) _, .rev _ a' => isMinus1 st && chkE n sc a a'
  | n + 1, sc, .Subscript a i _, .idx a' i' => plainIx i && chkE n sc a a' && chkE n sc i i'
  | n + 1, sc, .Call (.Name x _) es ks _, .call f es' ks' dv pm => gloC sc x && nameOk x && noStar es && chkA n sc es es' && chkK n sc ks ks' && (match g.fns.lookup x with
    | some (i, shs) => decide (f = i) && shs.any fun sh => decide (sh.np = es.length) && decide (ks.map (·.arg) = sh.ks.map some) && dEqs sh.ds dv && decide (sh.pm = pm)
    | none => false)
  | n + 1, sc, .Call (.Name x _) [e] [] _, .bi b _ e' => decide (x = b.name) && gloC sc x && noStar [e] && chkE n sc e e'
  | n + 1, sc, .Call (.Name x _) [e, .Name y _] [] _, .isi e' [t] => decide (x = ("isinstance" : Str)) && gloC sc x && noStar [e] && decide (y = t.nm) && gloC sc y && chkE n sc e e'
  | n + 1, sc, .Call (.Name x _) [e, .Tuple ts _ _] [] _, .isi e' tys => decide (x = ("isinstance" : Str)) && gloC sc x && noStar [e] && tyNames sc ts tys && decide (tys.length ≤ 100) && chkE n sc e e'
  | n + 1, sc, .Call (.Attribute o m apos) es [] pos, .me m' o' es' => decide (m = m'.name) && baseOk o && (apos.endLine == pos.line) && noStar es && decide (es.length < 30) && chkE n sc o o' && chkA n sc es es'
  | n + 1, sc, .ListComp elt [⟨tg, iter, ifs, 0⟩] scope _, .comp _ own t k its c elt' => blkC N sc scope (ownP N own) && chkI n sc iter k its && chkT N scope tg t && tgIn own t && chkIf n (relS scope sc) ifs c && chkE n (relS scope sc) elt elt'
  | _ + 1, _, _, _ => false
def chkO : Nat → Scope → Option Expr → Ex → Bool
  | 0, _, _, _ => false
  | _ + 1, _, none, .nop => true
  | n + 1, sc, some e, e' => chkE n sc e e'
  | _ + 1, _, _, _ => false
def chkIf : Nat → Scope → List Expr → Ex → Bool
  | 0, _, _, _ => false
  | _ + 1, _, [], .bl true => true
  | n + 1, sc, [e], e' => chkE n sc e e'
  | _ + 1, _, _, _ => false
def chkA : Nat → Scope → List Expr → List Ex → Bool
  | 0, _, _, _ => false
  | _ + 1, _, [], [] => true
  | n + 1, sc, .Starred e _ :: es, .star e' :: es' => chkE n sc e e' && chkA n sc es es'
  | n + 1, sc, e :: es, e' :: es' => noStar [e] && !e'.isStar && chkE n sc e e' && chkA n sc es es'
  | _ + 1, _, _, _ => false
def chkK : Nat → Scope → List Keyword → List Ex → Bool
  | 0, _, _, _ => false
  | _ + 1, _, [], [] => true
  | n + 1, sc, k :: ks, e' :: es' => !e'.isStar && chkE n sc k.value e' && chkK n sc ks es'
  | _ + 1, _, _, _ => false
def chkD : Nat → Scope → List (Option Expr) → List Expr → List Ex → Bool
  | 0, _, _, _, _ => false
  | _ + 1, _, [], [], [] => true
  | n + 1, sc, some k :: ks, v :: vs, k' :: v' :: r => !k'.isStar && !v'.isStar && chkE n sc k k' && chkE n sc v v' && chkD n sc ks vs r
  | _ + 1, _, _, _, _ => false
def chkI : Nat → Scope → Expr → IK → List Ex → Bool
  | 0, _, _, _, _ => false
  | n + 1, sc, .Call (.Name x _) [a] [] _, .rng, [a'] => decide (x = ("range" : Str)) && gloC sc x && noStar [a] && !a'.isStar && chkE n sc a a'
  | n + 1, sc, .Call (.Name x _) [a, b] [] _, .rng2, [a', b'] => decide (x = ("range" : Str)) && gloC sc x && noStar [a, b] && !a'.isStar && !b'.isStar && chkE n sc a a' && chkE n sc b b'
  | n + 1, sc, e, .on, [e'] => !e'.isStar && (match e with
    | .Set .. => false
    | _ => true) && chkE n sc e e'
  | _ + 1, _, _, _, _ => false
end
end
end Iv

set_option Elab.async false
set_option linter.all false
set_option maxHeartbeats 2000000
/-! adequacy, the parts -/
namespace Iv
open PySem PySem.Spec L2

/-! ### defs -/
structure FnG (P : Program) (w : World) (K : PySem.W.Frag) (mg : Str → Option Value) (base : Heap) (k : Nat) (f : Addr) (fd : FuncData) (ps : List Str) (sp : Sp) : Prop where
  len : ∀ vs H Q E, sp vs H Q E → vs.length = ps.length
  run : ∀ (A : Around) (outer : List PySem.Env) (s : Shared) (H : Hp) (args : Args) (us : List Value) (vs : List V) (Q : VK) (E : XK), Room k A → A.guards = some [] → Env0 P w K mg base A outer s H → BindsTo s fd args (ps.zip us) → Vals vs us → sp vs H Q E →
    codeAny (model P w) A (.call (.ref f) args) (CR (CX P w) outer P w H s Q E) s
/-- what a def's number promises -/
def spC (P : Program) (w : World) (K : PySem.W.Frag) (ea : Exa) (Φ : CallSem) (np i : Nat) : Sp := fun vs H Q E => vs.length = np ∧ ∃ W σ ds, Rel P w K W σ H ∧ Reps P w K W ds vs ∧ Post P w K ea (fun c d _ H => E c d H) [] W (Φ i ds σ) Q
def permL {α : Type} (xs : List α) (pm : List Nat) : Option (List α) := pm.mapM fun i => xs[i]?
structure ShOk (P : Program) (w : World) (K : PySem.W.Frag) (fd : FuncData) (ps : List Str) (sh : Shp) : Prop where
  ok : ∃ (dv : List V) (du : List Value), Vals dv du ∧ (∀ W, Reps P w K W sh.ds dv) ∧ ∀ (s : Shared) (us ws : List Value), K.In s.heap → us.length = sh.np → ws.length = sh.ks.length →
    ∃ vs, permL (us ++ ws ++ du) sh.pm = some vs ∧ BindsTo s fd ⟨us, sh.ks.zip ws⟩ (ps.zip vs)
/-- the place where code runs -/
structure Pc (X : Cx) (g : Sg) (N : List Str) (Φ : CallSem) (ea : Exa) (k : Nat) (Wx : WX) (sc : Scope) : Prop where
  pl : Pl X
  sy : Sys X
  hN : X.N = N
  nd : N.Nodup
  hsc : X.env.scope = sc
  kind : sc.kind = .function
  room : Room k X.A
  calls : ∀ x i shs, g.fns.lookup x = some (i, shs) → ∃ f fd ps np, X.mg x = some (.ref f) ∧ PySem.W.keepIn X.K (.ref f) = true ∧ FnG X.prog X.w X.K X.mg X.base k f fd ps (spC X.prog X.w X.K ea Φ np i) ∧ ∀ sh ∈ shs, sh.pm.length = np ∧ ps.length = np ∧ ShOk X.prog X.w X.K fd ps sh
  glo : ∀ x d, g.glo.lookup x = some d → ∃ v u, X.mg x = some u ∧ RelV v u ∧ ∀ W, Rep X.prog X.w X.K W d v
  blt : ∀ x ∈ bltNames, X.mg x = none
  tk : Takes X Wx
section
variable {X : Cx} {g : Sg} {N : List Str} {Φ : CallSem} {ea : Exa} {k : Nat} {Wx : WX} {sc : Scope}
theorem Pc.gl (C : Pc X g N Φ ea k Wx sc) {x : Str} (h : gloC sc x = true) : Gl X x := by
  unfold gloC at h
  split at h
  · show X.env.scope.names.lookup x = _
    rw [C.hsc]; assumption
  · cases h
theorem Pc.vis (C : Pc X g N Φ ea k Wx sc) {x : Str} (h : visC sc x = true) : Vis X.env.scope x := by
  unfold visC at h
  unfold Vis
  rw [C.hsc]
  split at h
  · exact .inl (by assumption)
  · exact .inr (.inl (by assumption))
  · exact .inr (.inr (by assumption))
  · cases h
theorem locC_or {sc : Scope} {x : Str} (h : locC sc x = true) : sc.names.lookup x = some .local ∨ sc.names.lookup x = some .cell := by
  unfold locC at h
  split at h
  · exact .inl (by assumption)
  · exact .inr (by assumption)
  · cases h
theorem nameOk_dbg {x : Str} (h : nameOk x = true) : (x == ("__debug__" : Str)) = false ∧ (x == ("__classdict__" : Str)) = false := by
  unfold nameOk at h
  simp only [Bool.and_eq_true, Bool.not_eq_true'] at h
  exact h
/-- a comprehension's block -/
theorem Pc.blk (C : Pc X g N Φ ea k Wx sc) {s : Shared} {H : Hp} {scope : Scope} {cl : List (Str × Addr)} {L : Addr} {fp : List Addr} (hk : scope.kind = .function) :
    Pc (X.blk s H scope (compEnvC scope cl L X.env) fp) g N Φ ea k (fun _ _ _ _ => False) (relS scope sc) := by
  have e : (compEnvC scope cl L X.env).scope = relS scope sc := by rw [← C.hsc]; rfl
  refine ⟨⟨C.pl.calm, C.pl.units, C.pl.guards⟩, ⟨C.sy.at_⟩, C.hN, C.nd, e, hk, C.room, C.calls, C.glo, C.blt, fun u s' h => ?_⟩
  obtain ⟨a, B, sI, pins, σ, H, cls, d, e, I, nb, up, sky, na, os, ag, w⟩ := h
  exact w.elim
/-- .. its stores -/
theorem blk_loc {s : Shared} {H : Hp} {scope : Scope} {cl : List (Str × Addr)} {L : Addr} {fp : List Addr} {x : Str} (h : locC scope x = true) :
    L2.Loc (X.blk s H scope (compEnvC scope cl L X.env) fp).env.scope x ∧ ((X.blk s H scope (compEnvC scope cl L X.env) fp).fn x = true ∨ (X.blk s H scope (compEnvC scope cl L X.env) fp).env.scope.names.lookup x = some .local) := by
  rcases locC_or h with h | h
  · have := lookup_relS_keep (sc := X.env.scope) (by decide) h
    exact ⟨.inl this, .inr this⟩
  · have := lookup_relS_keep (sc := X.env.scope) (by decide) h
    refine ⟨.inr this, .inl ?_⟩
    show (scope.names.lookup x == some NameKind.cell) = true
    rw [h]; rfl
/-! ### targets -/
/-- behind a store to own slots nothing else has changed -/
def SameW (t : Tg) (st st' : L2.St) : Prop := ∀ own, tgIn own t = true → wipe st' own = wipe st own
theorem wipe_get {st : L2.St} {j : Nat} : ∀ {own : List Nat}, (wipe st own)[j]? = if j ∈ own ∧ j < st.length then some none else st[j]?
  | [] => by simp [wipe]
  | v :: vs => by
    unfold wipe
    rw [List.getElem?_set, wipe_get (own := vs), wipe_length]
    by_cases h1 : v = j
    · subst h1
      by_cases h2 : v < st.length
      · simp [h2]
      · simp [h2]
    · have h3 : ¬ j = v := fun e => h1 e.symm
      simp [h1, h3]
theorem wipe_set {st : L2.St} {i : Nat} {x : Option V} {own : List Nat} (h : i ∈ own) : wipe (st.set i x) own = wipe st own := by
  apply List.ext_getElem?
  intro j
  rw [wipe_get, wipe_get, List.length_set, List.getElem?_set]
  by_cases e : i = j
  · subst e
    by_cases h2 : i < st.length
    · simp [h, h2]
    · simp [h2]
  · simp [e]
def gT (t : Tg) (P : Program) (w : World) (K : PySem.W.Frag) : TG := fun v st H Q => ∃ W ρ σ d, EnvR P w K W ρ st ∧ Rel P w K W σ H ∧ Rep P w K W d v ∧ ∃ ρ', tgD t d ρ = some ρ' ∧ ∀ st', EnvR P w K W ρ' st' → SameW t st st' → Q st' H
def Stores (X : Cx) (N : List Str) (sc : Scope) : Prop := ∀ x, locC sc x = true → L2.Loc X.env.scope x ∧ (X.fn x = true ∨ X.env.scope.names.lookup x = some .local)
theorem _root_.L2.PG.imp {X : Cx} {e : Expr} {t t' : TG} (h : PG X e t) (i : ∀ v st H Q, t' v st H Q → t v st H Q) : PG X e t' := ⟨fun pins s σ H v u Q I r q => h.run pins s σ H v u Q I r (i _ _ _ _ q)⟩
theorem _root_.L2.PGs.imp {X : Cx} {e : List Expr} {t t' : TGs} (h : PGs X e t) (i : ∀ v st H Q, t' v st H Q → t v st H Q) : PGs X e t' := ⟨fun pins s σ H v u Q I r q => h.run pins s σ H v u Q I r (i _ _ _ _ q)⟩
def gTs (is : List Nat) (P : Program) (w : World) (K : PySem.W.Frag) : TGs := fun vs st H Q => ∃ W ρ σ ds, EnvR P w K W ρ st ∧ Rel P w K W σ H ∧ Reps P w K W ds vs ∧ ∃ ρ', setAll is ds ρ = some ρ' ∧ ∀ st', EnvR P w K W ρ' st' → SameW (.tup is) st st' → Q st' H
theorem pgs_all (hN : X.N = N) (nd : N.Nodup) (hs : Stores X N sc) : ∀ {es : List Expr} {is : List Nat}, chkTs N sc es is = true → PGs X es (gTs is X.prog X.w X.K) ∧ (assignEach es X.env).length = is.length ∧ (assignEach es X.env).findIdx? (·.1) = none
  | [], is, h => by
    cases is with
    | cons i is => unfold chkTs at h; cases h
    | nil =>
      refine ⟨pgs_nil.imp ?_, rfl, rfl⟩
      rintro vs st H Q ⟨W, ρ, σ, ds, hρ, hσ, r, ρ', e, h⟩
      cases ds with
      | cons d ds => cases e
      | nil =>
        cases e
        exact ⟨Reps.nil_iff.mp r, h st hρ fun _ _ => rfl⟩
  | e :: es, is, h => by
    unfold chkTs at h
    split at h
    · rename_i eq; cases eq
    · rename_i x pos es' i is' eq
      cases eq
      simp only [Bool.and_eq_true, decide_eq_true_eq] at h
      obtain ⟨⟨h1, h2⟩, h3⟩ := h
      obtain ⟨ih, l, f⟩ := pgs_all hN nd hs h3
      obtain ⟨b1, b2⟩ := hs x h2
      have hg := pg_name (X := X) (pos := pos) (hN ▸ nd) (by rw [hN]; exact h1) b1 b2
      refine ⟨(pgs_cons hg ih rfl).imp ?_, congrArg (· + 1) l, ?_⟩
      · rintro vs st H Q ⟨W, ρ, σ, ds, hρ, hσ, r, ρ', e, h⟩
        cases ds with
        | nil => cases e
        | cons d ds =>
          cases vs with
          | nil => have := r.length; simp at this
          | cons v vs =>
            obtain ⟨r1, r2⟩ := Reps.cons_iff.mp r
            refine ⟨v, vs, rfl, W, ρ.set i (some d), σ, ds, hρ.set r1 i, hσ, r2, ρ', e, fun st' hr hs => h st' hr fun own ho => ?_⟩
            have ho : ((i :: is').all fun i => decide (i ∈ own)) = true := ho
            rw [List.all_cons, Bool.and_eq_true] at ho
            rw [hs own ho.2, wipe_set (of_decide_eq_true ho.1)]
      · show List.findIdx? _ ((false, assign (.Name x pos) X.env) :: assignEach es X.env) = none
        rw [List.findIdx?_cons, f]; rfl
    · cases h
theorem pg_all (hc : X.calm = true) (hN : X.N = N) (nd : N.Nodup) (hs : Stores X N sc) {e : Expr} {t : Tg} (h : chkT N sc e t = true) : PG X e (gT t X.prog X.w X.K) := by
  unfold chkT at h
  split at h
  · rename_i x pos i
    simp only [Bool.and_eq_true, decide_eq_true_eq] at h
    obtain ⟨h1, h2⟩ := h
    obtain ⟨b1, b2⟩ := hs x h2
    refine (pg_name (X := X) (pos := pos) (hN ▸ nd) (by rw [hN]; exact h1) b1 b2).imp ?_
    rintro v st H Q ⟨W, ρ, σ, d, hρ, hσ, r, ρ', e, h⟩
    cases e
    exact h _ (hρ.set r i) fun own ho => wipe_set (of_decide_eq_true (p := i ∈ own) ho)
  · rename_i es x1 pos is
    obtain ⟨p1, p2, p3⟩ := pgs_all hN nd hs h
    refine (pg_tup hc p1 p2 p3).imp ?_
    rintro v st H Q ⟨W, ρ, σ, d, hρ, hσ, r, ρ', e, h⟩
    unfold tgD at e
    cases d with
    | tup ds =>
      have len : ∀ {is : List Nat} {ds : List D} {ρ ρ' : Env}, setAll is ds ρ = some ρ' → ds.length = is.length := by
        intro is
        induction is with
        | nil => intro ds ρ ρ' e; cases ds <;> first | rfl | cases e
        | cons i is ih => intro ds ρ ρ' e; cases ds with
          | nil => cases e
          | cons d ds => exact congrArg (· + 1) (ih e)
      simp only [Rep] at r
      obtain ⟨a, vs, rfl, s, q⟩ := r
      exact ⟨a, vs, rfl, sqT_ext hσ.sub s, by rw [← q.length]; exact len e, W, ρ, σ, ds, hρ, hσ, q, ρ', e, h⟩
    | _ => cases e
  · cases h
end
end Iv

set_option Elab.async false
set_option linter.all false
set_option maxHeartbeats 4000000
/-! adequacy, expressions: the forms -/
namespace Iv
open PySem PySem.Spec L2
section
variable {X : Cx}
theorem _root_.L2.PE.impS {e : Expr} {t : St → TE} {t' : TE} (h : ∀ st0, PE X e (t st0)) (i : ∀ st H Q, t' st H Q → t st st H Q) : PE X e t' := ⟨fun pins s σ H Q I q => (h σ).run pins s σ H Q I (i _ _ _ q)⟩
theorem _root_.L2.PE.imp {e : Expr} {t t' : TE} (h : PE X e t) (i : ∀ st H Q, t' st H Q → t st H Q) : PE X e t' := ⟨fun pins s σ H Q I q => h.run pins s σ H Q I (i _ _ _ q)⟩
theorem _root_.L2.PT.impS {e : Expr} {t : St → TT} {t' : TT} (h : ∀ st0, PT X e (t st0)) (i : ∀ st H Q, t' st H Q → t st st H Q) : PT X e t' := ⟨fun pins s σ H Q I q => (h σ).run pins s σ H Q I (i _ _ _ q)⟩
theorem _root_.L2.PT.imp {e : Expr} {t t' : TT} (h : PT X e t) (i : ∀ st H Q, t' st H Q → t st H Q) : PT X e t' := ⟨fun pins s σ H Q I q => h.run pins s σ H Q I (i _ _ _ q)⟩
theorem _root_.L2.PW.imp {e : Expr} {t t' : TT} (h : PW X e t) (i : ∀ st H Q, t' st H Q → t st H Q) : PW X e t' := ⟨fun wh pins s σ H Q I q => h.run wh pins s σ H Q I (i _ _ _ q)⟩
theorem _root_.L2.PA.imp {e : List Expr} {t t' : TA} (h : PA X e t) (i : ∀ st H Q, t' st H Q → t st H Q) : PA X e t' := ⟨fun pos pins s σ H Q I q => h.run pos pins s σ H Q I (i _ _ _ q)⟩
theorem _root_.L2.PK.imp {e : List Keyword} {t t' : TA} (h : PK X e t) (i : ∀ st H Q, t' st H Q → t st H Q) : PK X e t' := ⟨fun pos pins s σ H Q I q => h.run pos pins s σ H Q I (i _ _ _ q)⟩
theorem _root_.L2.PO.imp {e : Option Expr} {t t' : TO} (h : PO X e t) (i : ∀ st H Q, t' st H Q → t st H Q) : PO X e t' := ⟨fun pins s σ H Q I q => h.run pins s σ H Q I (i _ _ _ q)⟩
theorem _root_.L2.PTs.imp {e : List Expr} {t t' : TT} (h : PTs X e t) (i : ∀ st H Q, t' st H Q → t st H Q) : PTs X e t' := ⟨fun pins s σ H Q I q => h.run pins s σ H Q I (i _ _ _ q)⟩
end
section
variable {P : Program} {w : World} {K : PySem.W.Frag} {ea : Exa} {Wx : WX} {st : St} {W W1 : Wd} {ρ : Env} {σ : Store} {H : Hp}
def tO (P : Program) (w : World) (K : PySem.W.Frag) (ea : Exa) (Wx : WX) (f : Env → Store → Res D) : TO := fun st H Q => ∃ W ρ σ, EnvR P w K W ρ st ∧ Rel P w K W σ H ∧ match f ρ σ with
  | .ok d σ' => ∃ o, optI d = some o ∧ ∀ W' H', Le W W' → Rel P w K W' σ' H' → Q o H'
  | .exc c d σ' => ∀ W' H cls dx, Le W W' → Rel P w K W' σ' H → ExcR P w K ea W' c d cls dx H → Wx cls dx st H
  | .bad => False
theorem tO.bind {f : Env → Store → Res D} {k : D → Store → Res D} {Q : VK} {T : Option Int → Hp → Prop} (hρ : EnvR P w K W ρ st) (hσ : Rel P w K W σ H)
    (h : Post P w K ea Wx st W ((f ρ σ).bind fun d σ1 => if (optI d).isSome then k d σ1 else .bad) Q)
    (c : ∀ d o σ1 W1 H1, Le W W1 → Rel P w K W1 σ1 H1 → optI d = some o → Post P w K ea Wx st W1 (k d σ1) Q → T o H1) : tO P w K ea Wx f st H T := by
  refine ⟨W, ρ, σ, hρ, hσ, ?_⟩
  cases e : f ρ σ with
  | ok d σ1 =>
    rw [e] at h
    have h : Post P w K ea Wx st W (if (optI d).isSome then k d σ1 else .bad) Q := h
    cases q : optI d with
    | none => rw [q] at h; exact False.elim h
    | some o =>
      rw [q] at h
      have h : Post P w K ea Wx st W (k d σ1) Q := h
      exact ⟨o, q, fun W1 H1 le r => c d o σ1 W1 H1 le r q (Post.mono le h)⟩
  | exc c d σ1 => rw [e] at h; exact h
  | bad => rw [e] at h; exact h
/-- a test, then the rest -/
theorem tT.bind {f : Env → Store → Res D} {k1 k2 : Store → Res D} {Q : VK} {T : Bool → Hp → Prop} (hρ : EnvR P w K W ρ st) (hσ : Rel P w K W σ H)
    (h : Post P w K ea Wx st W ((f ρ σ).bind fun d σ1 => match truthD (view σ1 d) with
      | some true => k1 σ1
      | some false => k2 σ1
      | none => .bad) Q)
    (c : ∀ b σ1 W1 H1, Le W W1 → Rel P w K W1 σ1 H1 → Post P w K ea Wx st W1 (if b = true then k1 σ1 else k2 σ1) Q → T b H1) : tT P w K ea Wx f st H T := by
  refine ⟨W, ρ, σ, hρ, hσ, ?_⟩
  cases e : f ρ σ with
  | ok d σ1 =>
    rw [e] at h
    have h : Post P w K ea Wx st W (match truthD (view σ1 d) with
      | some true => k1 σ1
      | some false => k2 σ1
      | none => .bad) Q := h
    cases q : truthD (view σ1 d) with
    | none => rw [q] at h; exact False.elim h
    | some b =>
      rw [q] at h
      refine ⟨b, q, fun W1 H1 le r => c b σ1 W1 H1 le r (Post.mono le ?_)⟩
      cases b <;> exact h
  | exc c d σ1 => rw [e] at h; exact h
  | bad => rw [e] at h; exact h
/-- a test from a test -/
def TPost (P : Program) (w : World) (K : PySem.W.Frag) (ea : Exa) (Wx : WX) (st : St) (W : Wd) (r : Res D) (Q : Bool → Hp → Prop) : Prop := match r with
  | .ok d σ' => ∃ b, truthD (view σ' d) = some b ∧ ∀ W' H, Le W W' → Rel P w K W' σ' H → Q b H
  | .exc c d σ' => ∀ W' H cls dx, Le W W' → Rel P w K W' σ' H → ExcR P w K ea W' c d cls dx H → Wx cls dx st H
  | .bad => False
theorem tT_iff {f : Env → Store → Res D} {Q : Bool → Hp → Prop} : tT P w K ea Wx f st H Q ↔ ∃ W ρ σ, EnvR P w K W ρ st ∧ Rel P w K W σ H ∧ TPost P w K ea Wx st W (f ρ σ) Q := Iff.rfl
theorem TPost.mono {r : Res D} {Q : Bool → Hp → Prop} (le : Le W W1) (h : TPost P w K ea Wx st W r Q) : TPost P w K ea Wx st W1 r Q := by
  cases r with
  | ok d σ => obtain ⟨b, e, h⟩ := h; exact ⟨b, e, fun W' H l => h W' H (le.trans l)⟩
  | exc c d σ => exact fun W' H cls dx l => h W' H cls dx (le.trans l)
  | bad => exact h
theorem TPost.bindE {f : Env → Store → Res D} {k : D → Store → Res D} {Q : Bool → Hp → Prop} {T : VK} (hρ : EnvR P w K W ρ st) (hσ : Rel P w K W σ H) (h : TPost P w K ea Wx st W ((f ρ σ).bind k) Q)
    (c : ∀ d σ1 W1 v H1, Le W W1 → Rel P w K W1 σ1 H1 → Rep P w K W1 d v → TPost P w K ea Wx st W1 (k d σ1) Q → T v H1) : tE P w K ea Wx f st H T := by
  refine ⟨W, ρ, σ, hρ, hσ, ?_⟩
  cases e : f ρ σ with
  | ok d σ1 => rw [e] at h; exact fun W1 v H1 le r q => c d σ1 W1 v H1 le r q (TPost.mono le h)
  | exc c d σ1 => rw [e] at h; exact h
  | bad => rw [e] at h; exact h
theorem TPost.bindT {f : Env → Store → Res D} {k1 k2 : D → Store → Res D} {Q : Bool → Hp → Prop} {T : Bool → Hp → Prop} (hρ : EnvR P w K W ρ st) (hσ : Rel P w K W σ H)
    (h : TPost P w K ea Wx st W ((f ρ σ).bind fun d σ1 => match truthD (view σ1 d) with
      | some true => k1 d σ1
      | some false => k2 d σ1
      | none => .bad) Q)
    (c : ∀ d b σ1 W1 H1, truthD (view σ1 d) = some b → Le W W1 → Rel P w K W1 σ1 H1 → TPost P w K ea Wx st W1 (if b = true then k1 d σ1 else k2 d σ1) Q → T b H1) : tT P w K ea Wx f st H T := by
  refine ⟨W, ρ, σ, hρ, hσ, ?_⟩
  cases e : f ρ σ with
  | ok d σ1 =>
    rw [e] at h
    have h : TPost P w K ea Wx st W (match truthD (view σ1 d) with
      | some true => k1 d σ1
      | some false => k2 d σ1
      | none => .bad) Q := h
    cases q : truthD (view σ1 d) with
    | none => rw [q] at h; exact False.elim h
    | some b =>
      rw [q] at h
      refine ⟨b, q, fun W1 H1 le r => c d b σ1 W1 H1 q le r (TPost.mono le ?_)⟩
      cases b <;> exact h
  | exc c d σ1 => rw [e] at h; exact h
  | bad => rw [e] at h; exact h
theorem TPost.here {d : D} {b : Bool} {Q : Bool → Hp → Prop} (h : TPost P w K ea Wx st W (.ok d σ) Q) (hσ : Rel P w K W σ H) (e : truthD (view σ d) = some b) : Q b H := by
  obtain ⟨c, e', h⟩ := h
  rw [e] at e'
  cases e'
  exact h W H (Le.refl W) hσ
/-- a test's reading, as the value's truth -/
theorem tT_truth {f : Env → Store → Res D} {Q : Bool → Hp → Prop} (h : tT P w K ea Wx f st H Q) : tE P w K ea Wx f st H fun x H' => ∃ k, TruV K x H' k ∧ Q k H' := by
  obtain ⟨W, ρ, σ, hρ, hσ, h⟩ := h
  refine ⟨W, ρ, σ, hρ, hσ, ?_⟩
  cases e : f ρ σ with
  | ok d σ1 =>
    rw [e] at h
    obtain ⟨b, q, h⟩ := h
    exact fun W1 v H1 le r rd => ⟨b, r.tru rd rfl q, h W1 H1 le r⟩
  | exc c d σ1 => rw [e] at h; exact h
  | bad => rw [e] at h; exact h
theorem cmpD_bl {op : COp} {a b d : D} {σ σ' : Store} (h : cmpD op a b σ = .ok d σ') : ∃ k, d = .bl k ∧ σ' = σ := by
  unfold cmpD at h
  repeat' split at h
  all_goals first
    | (injection h with h1 h2; exact ⟨_, h1.symm, h2.symm⟩)
    | cases h
theorem cmpD_exc {op : COp} {a b d : D} {c : Nat} {σ σ' : Store} (h : cmpD op a b σ = .exc c d σ') : False := by
  unfold cmpD at h
  repeat' split at h
  all_goals cases h
/-- a comparison's outcome, as a test -/
theorem tpost_cmp {op : COp} {a b : D} {Q : Bool → Hp → Prop} (h : TPost P w K ea Wx st W (cmpD op a b σ) Q) : Post P w K ea Wx st W (cmpD op a b σ) fun x H' => ∃ k, x = .bl k ∧ Q k H' := by
  cases e : cmpD op a b σ with
  | ok d σ1 =>
    obtain ⟨k, rfl, rfl⟩ := cmpD_bl e
    rw [e] at h
    obtain ⟨b, q, h⟩ := h
    intro W' v H' le r rd
    simp only [Rep] at rd
    have q : some k = some b := q
    cases q
    exact ⟨k, rd, h W' H' le r⟩
  | exc c d σ1 => exact (cmpD_exc e).elim
  | bad => rw [e] at h; exact h
end
end Iv

set_option Elab.async false
set_option linter.all false
set_option maxHeartbeats 4000000
/-! adequacy: argument lists, calls -/
namespace Iv
open PySem PySem.Spec L2
/-! ### lists picked -/
theorem permL_cons {α : Type} {xs : List α} {i : Nat} {pm : List Nat} : permL xs (i :: pm) = (xs[i]?).bind fun x => (permL xs pm).bind fun r => some (x :: r) := by
  unfold permL
  rw [List.mapM_cons]
  rfl
theorem permL_vals {xs : List V} {us : List Value} (r : Vals xs us) : ∀ {pm : List Nat} {vs : List V}, permL xs pm = some vs → ∃ ws, permL us pm = some ws ∧ Vals vs ws
  | [], vs, h => by cases h; exact ⟨[], rfl, .nil⟩
  | i :: pm, vs, h => by
    rw [permL_cons, Option.bind_eq_some_iff] at h
    obtain ⟨x, h1, h⟩ := h
    rw [Option.bind_eq_some_iff] at h
    obtain ⟨t, h2, h⟩ := h
    cases h
    obtain ⟨u, h3, h4⟩ := r.get h1
    obtain ⟨ws, h5, h6⟩ := permL_vals r h2
    exact ⟨u :: ws, by rw [permL_cons, h3, h5]; rfl, .cons h4 h6⟩
theorem permD_reps {P : Program} {w : World} {K : PySem.W.Frag} {W : Wd} {xs : List D} {us : List V} (r : Reps P w K W xs us) : ∀ {pm : List Nat} {vs : List D}, permD xs pm = some vs → ∃ ws, permL us pm = some ws ∧ Reps P w K W vs ws
  | [], vs, h => by cases h; exact ⟨[], rfl, Reps.nil⟩
  | i :: pm, vs, h => by
    have h : permL xs (i :: pm) = some vs := h
    rw [permL_cons, Option.bind_eq_some_iff] at h
    obtain ⟨x, h1, h⟩ := h
    rw [Option.bind_eq_some_iff] at h
    obtain ⟨t, h2, h⟩ := h
    cases h
    obtain ⟨u, h3, h4⟩ := r.get h1
    obtain ⟨ws, h5, h6⟩ := permD_reps r (pm := pm) h2
    exact ⟨u :: ws, by rw [permL_cons, h3, h5]; rfl, Reps.cons h4 h6⟩
theorem permL_length {α : Type} {xs : List α} : ∀ {pm : List Nat} {vs : List α}, permL xs pm = some vs → vs.length = pm.length
  | [], vs, h => by cases h; rfl
  | i :: pm, vs, h => by
    rw [permL_cons, Option.bind_eq_some_iff] at h
    obtain ⟨x, h1, h⟩ := h
    rw [Option.bind_eq_some_iff] at h
    obtain ⟨t, h2, h⟩ := h
    cases h
    exact congrArg (· + 1) (permL_length h2)
section
variable {X : Cx} {g : Sg} {N : List Str} {Φ : CallSem} {ea : Exa} {k : Nat} {Wx : WX} {sc : Scope}
/-- an own def is called -/
theorem run_call (C : Pc X g N Φ ea k Wx sc) {pins : List (Addr × Obj)} {st : L2.St} {H : Hp} {s : Shared} {Q : VK} {f : Addr} {fd : FuncData} {ps : List Str} {np i : Nat} {sh : Shp} {us ws : List Value} {vs zs : List V} {W : Wd} {σ : Store} {xs ys : List D}
    (F : FnG X.prog X.w X.K X.mg X.base k f fd ps (spC X.prog X.w X.K ea Φ np i)) (hp : sh.pm.length = np ∧ ps.length = np ∧ ShOk X.prog X.w X.K fd ps sh) (I : Inv X pins st H s) (rv : Vals vs us) (rz : Vals zs ws) (l1 : us.length = sh.np) (l2 : ws.length = sh.ks.length)
    (hσ : Rel X.prog X.w X.K W σ H) (rx : Reps X.prog X.w X.K W xs vs) (ry : Reps X.prog X.w X.K W ys zs)
    (h : Post X.prog X.w X.K ea Wx st W (match permD (xs ++ ys ++ sh.ds) sh.pm with
      | some ds => Φ i ds σ
      | none => .bad) Q) : wpAny (model X.prog X.w) X.A (call (.ref f) us (sh.ks.zip ws)) (EP X pins st Q) X.xe s := by
  obtain ⟨hp1, hp2, ⟨dv, du, rd, rdd, hb⟩⟩ := hp
  obtain ⟨bs, e1, hb⟩ := hb s us ws I.kIn l1 l2
  cases e : permD (xs ++ ys ++ sh.ds) sh.pm with
  | none => rw [e] at h; exact False.elim h
  | some ds =>
    rw [e] at h
    have h : Post X.prog X.w X.K ea Wx st W (Φ i ds σ) Q := h
    obtain ⟨cs, e2, rc⟩ := permD_reps ((rx.append ry).append (rdd W)) e
    obtain ⟨bs', e3, rb⟩ := permL_vals ((rv.append rz).append rd) e2
    rw [e1] at e3
    cases e3
    have hl : cs.length = np := by rw [← hp1]; exact permL_length e2
    refine wpAny_call (codeAny_mono (F.run X.A X.stack s H ⟨us, sh.ks.zip ws⟩ bs cs Q (fun c d H => Wx c d st H) C.room C.pl.guards I.env0 hb rb ⟨hl, W, σ, ds, hσ, rc, ?_⟩) fun r s' hq => ?_)
    · cases q : Φ i ds σ with
      | ok d σ' => rw [q] at h; exact h
      | exc c d σ' => rw [q] at h; exact h
      | bad => rw [q] at h; exact h
    · cases r with
      | error e => exact C.tk e s' (XE.of_call I (fun _ _ _ h => h) hq)
      | ok fl =>
        cases fl with
        | ret u => exact I.after hq
        | next => exact False.elim hq
        | brk => exact False.elim hq
        | cont => exact False.elim hq
/-! ### what a list of arguments looks like -/
theorem starEach_ns {e : Expr} {es : List Expr} {env : PySem.Env} (h : noStar [e] = true) : starEach (e :: es) env = (false, eval e env) :: starEach es env := by
  cases e <;> first | rfl | cases h
theorem noStar_cons {e : Expr} {es : List Expr} (h : noStar (e :: es) = true) : noStar [e] = true ∧ noStar es = true := by
  cases e <;> first | exact ⟨rfl, h⟩ | cases h
theorem plain_ns : ∀ {es : List Expr} {env : PySem.Env} {pos : Pos}, noStar es = true → (backTo pos (starEach es env)).any (·.1) = false ∧ (backTo pos (starEach es env)).all (fun x => !x.1) = true
  | [], _, _, _ => ⟨rfl, rfl⟩
  | e :: es, env, pos, h => by
    obtain ⟨h1, h2⟩ := noStar_cons h
    obtain ⟨i1, i2⟩ := plain_ns (env := env) (pos := pos) h2
    rw [starEach_ns h1]
    unfold backTo at *
    rw [List.map_cons, List.any_cons, List.all_cons, i1, i2]
    exact ⟨rfl, rfl⟩
theorem kw_shape : ∀ {kws : List Keyword} {ks : List Str} {env : PySem.Env} {pos : Pos}, kws.map (·.arg) = ks.map some → (backToKw pos (keywordEach kws env)).all (·.1.isSome) = true ∧ (backToKw pos (keywordEach kws env)).filterMap (·.1) = ks ∧ (backToKw pos (keywordEach kws env)).any (·.1.isNone) = false
  | [], ks, _, _, h => by
    cases ks with
    | nil => exact ⟨rfl, rfl, rfl⟩
    | cons _ _ => cases h
  | ⟨a, v, p⟩ :: kws, ks, env, pos, h => by
    cases ks with
    | nil => cases h
    | cons x ks =>
      rw [List.map_cons, List.map_cons, List.cons.injEq] at h
      obtain ⟨h1, h2⟩ := h
      have h1 : a = some x := h1
      subst h1
      obtain ⟨i1, i2, i3⟩ := kw_shape (env := env) (pos := pos) h2
      unfold backToKw at *
      refine ⟨?_, ?_, ?_⟩
      · show List.all (_ :: List.map _ (keywordEach kws env)) _ = true
        rw [List.all_cons, i1]; rfl
      · show List.filterMap _ (_ :: List.map _ (keywordEach kws env)) = _
        rw [List.filterMap_cons]
        show x :: List.filterMap _ (List.map _ (keywordEach kws env)) = _
        rw [i2]
      · show List.any (_ :: List.map _ (keywordEach kws env)) _ = false
        rw [List.any_cons, i3]; rfl
theorem bn_len {f : Nat} (b : Bi) : b.name ∈ bltNames := by cases b <;> decide +kernel
theorem boot_bi (b : Bi) : bootBuiltins b.name = some b.val := by cases b <;> first | rfl | decide +kernel | kernel_rfl
theorem boot_ty (t : Ty) : bootBuiltins t.nm = some (.type t.name) ∧ t.nm ≠ "__name__" ∧ (t.nm == ("__debug__" : Str)) = false ∧ t.nm ∈ bltNames := by
  cases t <;> exact ⟨by first | rfl | decide +kernel | kernel_rfl, by decide +kernel, by decide +kernel, by decide +kernel⟩
theorem bi_dbg (b : Bi) : b.name ≠ "__name__" ∧ (b.name == ("__debug__" : Str)) = false := by cases b <;> exact ⟨by decide +kernel, by decide +kernel⟩
/-- a built-in function of one argument -/
theorem pe_bi (C : Pc X g N Φ ea k Wx sc) {b : Bi} {r : List V → Hp → VK → Prop} {e : Expr} {te : TE} {p pos : Pos} (hr : CallR X b.val r) (hg : gloC sc b.name = true) (he : PE X e te) (hs : noStar [e] = true) : PE X (.Call (.Name b.name p) [e] [] pos) (tCB r (tCons te tNil)) := by
  have hm : X.mg b.name = none := C.blt _ (bn_len (f := 0) b)
  have ha : PA X [e] (tCons te tNil) := pa_cons he pa_nil (starEach_ns hs)
  have hv := boot_bi b
  obtain ⟨d1, d2⟩ := bi_dbg b
  cases b <;> first
    | exact pe_callB hr (C.gl hg) hm hv ha d1 d2 (starEach_ns hs) rfl
    | exact pe_callTy hr (C.gl hg) hm hv ha d1 d2 (starEach_ns hs) rfl
theorem pe_ty (C : Pc X g N Φ ea k Wx sc) {t : Ty} {pos : Pos} (hg : gloC sc t.nm = true) : PE X (.Name t.nm pos) (tC (.ty t.name)) := by
  obtain ⟨h1, h2, h3, h4⟩ := boot_ty t
  exact pe_bltn (C.gl hg) (C.blt _ h4) h1 rfl h2 h3
theorem pa_tys (C : Pc X g N Φ ea k Wx sc) : ∀ {es : List Expr} {ts : List Ty}, tyNames sc es ts = true → PA X es (fun _ H Q => Q (ts.map fun t => V.ty t.name) H)
  | [], [], _ => pa_nil
  | [], _ :: _, h => by cases h
  | e :: es, [], h => by cases e <;> cases h
  | e :: es, t :: ts, h => by
    cases e with
    | Name x pos =>
      unfold tyNames at h
      simp only [Bool.and_eq_true, decide_eq_true_eq] at h
      obtain ⟨⟨h1, h2⟩, h3⟩ := h
      subst h1
      exact pa_cons (pe_ty C h2) (pa_tys C h3) rfl
    | _ => cases h
/-- isinstance -/
theorem pe_is1 (C : Pc X g N Φ ea k Wx sc) {e : Expr} {te : TE} {t : Ty} {p q pos : Pos} {st0 : L2.St} (hg : gloC sc "isinstance" = true) (hy : gloC sc t.nm = true) (hs : noStar [e] = true) (he : PE X e te) :
    PE X (.Call (.Name "isinstance" p) [e, .Name t.nm q] [] pos) (fun σ H Q => te σ H fun x H1 => ∃ W s a, Rel X.prog X.w X.K W s H1 ∧ Rep X.prog X.w X.K W a x ∧ Post X.prog X.w X.K ea Wx st0 W (isiD [t] a s) Q) := by
  have hm : X.mg "isinstance" = none := C.blt _ (by decide +kernel)
  have ha : PA X [e, .Name t.nm q] (tCons te (tCons (tC (.ty t.name)) tNil)) := pa_cons he (pa_cons (pe_ty C hy) pa_nil rfl) (starEach_ns hs)
  refine (pe_callB (call_is1 (ea := ea) (Wx := Wx) (st0 := st0) t) (C.gl hg) hm (by first | rfl | kernel_rfl) ha (by decide +kernel) (by decide +kernel) (starEach_ns hs) rfl).imp fun st H Q h => ?_
  refine (?_ : te st H _)
  have : (fun x H1 => ∃ W s a, Rel X.prog X.w X.K W s H1 ∧ Rep X.prog X.w X.K W a x ∧ Post X.prog X.w X.K ea Wx st0 W (isiD [t] a s) Q) = fun x H1 => (tCons (tC (.ty t.name)) tNil) st H1 fun xs H2 => ∃ W σ a x', x :: xs = [x', .ty t.name] ∧ Rel X.prog X.w X.K W σ H2 ∧ Rep X.prog X.w X.K W a x' ∧ Post X.prog X.w X.K ea Wx st0 W (isiD [t] a σ) Q := by
    funext x H1
    show _ = ∃ W σ a x', [x, V.ty t.name] = [x', .ty t.name] ∧ Rel X.prog X.w X.K W σ H1 ∧ Rep X.prog X.w X.K W a x' ∧ Post X.prog X.w X.K ea Wx st0 W (isiD [t] a σ) Q
    apply propext
    constructor
    · rintro ⟨W, s, a, h1, h2, h3⟩
      exact ⟨W, s, a, x, rfl, h1, h2, h3⟩
    · rintro ⟨W, s, a, x', e, h1, h2, h3⟩
      cases e
      exact ⟨W, s, a, h1, h2, h3⟩
  rw [this] at h
  exact h
end
end Iv

set_option Elab.async false
set_option linter.all false
set_option maxHeartbeats 4000000
/-! adequacy: the expressions, form by form -/
namespace Iv
open PySem PySem.Spec L2
section
variable {X : Cx} {g : Sg} {N : List Str} {Φ : CallSem} {ea : Exa} {k : Nat} {Wx : WX} {sc : Scope} {pos p2 : Pos}
abbrev Te (X : Cx) (Φ : CallSem) (ea : Exa) (Wx : WX) (e : Ex) : TE := tE X.prog X.w X.K ea Wx (ev Φ e)
abbrev Tt (X : Cx) (Φ : CallSem) (ea : Exa) (Wx : WX) (e : Ex) : TT := tT X.prog X.w X.K ea Wx (ev Φ e)
abbrev Ta (X : Cx) (Φ : CallSem) (ea : Exa) (Wx : WX) (e : List Ex) : TA := tA X.prog X.w X.K ea Wx (evs Φ e)
abbrev To (X : Cx) (Φ : CallSem) (ea : Exa) (Wx : WX) (e : Ex) : TO := tO X.prog X.w X.K ea Wx (ev Φ e)
variable {a b c : Expr} {a' b' c' : Ex}
theorem ad_loc (C : Pc X g N Φ ea k Wx sc) {x : Str} {i : Nat} (h : (decide (N[i]? = some x) && visC sc x && nameOk x) = true) : PE X (.Name x pos) (Te X Φ ea Wx (.loc i)) := by
  simp only [Bool.and_eq_true, decide_eq_true_eq] at h
  obtain ⟨⟨h1, h2⟩, h3⟩ := h
  obtain ⟨d1, d2⟩ := nameOk_dbg h3
  refine (pe_var (by rw [C.hN]; exact h1) (C.vis h2) d1 d2).imp ?_
  rintro st H Q ⟨W, ρ, σ, hρ, hσ, h⟩
  unfold ev at h
  split at h
  · rename_i d hd
    obtain ⟨v, h1, h2⟩ := hρ.2 i d hd
    exact ⟨v, h1, h.here hσ h2⟩
  · exact False.elim h
theorem ad_glo (C : Pc X g N Φ ea k Wx sc) {x y : Str} {d : D} (h : (decide (x = y) && gloC sc x && nameOk x && (match g.glo.lookup x with
    | some e => dEq e d
    | none => false)) = true) : PE X (.Name x pos) (Te X Φ ea Wx (.glo y d)) := by
  simp only [Bool.and_eq_true, decide_eq_true_eq] at h
  obtain ⟨⟨⟨h1, h2⟩, h3⟩, h4⟩ := h
  split at h4
  · rename_i e he
    have := dEq_eq h4
    subst this
    obtain ⟨v, u, g1, g2, g3⟩ := C.glo x e he
    refine (pe_glob (C.gl h2) g1 g2 (nameOk_dbg h3).1).imp ?_
    rintro st H Q ⟨W, ρ, σ, hρ, hσ, h⟩
    unfold ev at h
    exact h.here hσ (g3 W)
  · cases h4
theorem ad_non {j : Nat} : PE X (.Constant .none j pos) (Te X Φ ea Wx .non) := pe_non.imp fun st H Q ⟨W, ρ, σ, hρ, hσ, h⟩ => by unfold ev at h; exact h.here hσ (by simp only [Rep])
theorem ad_bl {j : Nat} {v : Bool} : PE X (.Constant (.bool v) j pos) (Te X Φ ea Wx (.bl v)) := pe_bl.imp fun st H Q ⟨W, ρ, σ, hρ, hσ, h⟩ => by unfold ev at h; exact h.here hσ (by simp only [Rep])
theorem ad_int {j : Nat} {v : Int} : PE X (.Constant (.int v) j pos) (Te X Φ ea Wx (.int v)) := pe_int.imp fun st H Q ⟨W, ρ, σ, hρ, hσ, h⟩ => by unfold ev at h; exact h.here hσ (by simp only [Rep])
theorem ad_str {j : Nat} {v : Str} : PE X (.Constant (.str v) j pos) (Te X Φ ea Wx (.str v)) := pe_str.imp fun st H Q ⟨W, ρ, σ, hρ, hσ, h⟩ => by unfold ev at h; exact h.here hσ (by simp only [Rep])
theorem ad_bin (C : Pc X g N Φ ea k Wx sc) {o : BOp} (ha : PE X a (Te X Φ ea Wx a')) (hb : PE X b (Te X Φ ea Wx b')) : PE X (.BinOp a o.py b pos) (Te X Φ ea Wx (.bin o a' b')) := by
  refine PE.impS (fun st0 => pe_op (op_bin (ea := ea) (Wx := Wx) (st0 := st0) o) ha hb) ?_
  rintro st H Q ⟨W, ρ, σ, hρ, hσ, h⟩
  unfold ev at h
  exact tE.bind hρ hσ h fun x σ1 W1 v H1 le1 hσ1 r1 h1 => tE.bind (hρ.mono le1) hσ1 h1 fun y σ2 W2 u H2 le2 hσ2 r2 h2 => ⟨W2, σ2, x, y, hσ2, r1.mono le2, r2, h2⟩
theorem ad_neg (ha : PE X a (Te X Φ ea Wx a')) : PE X (.UnaryOp .USub a pos) (Te X Φ ea Wx (.neg a')) := by
  refine (pe_un un_neg ha).imp ?_
  rintro st H Q ⟨W, ρ, σ, hρ, hσ, h⟩
  unfold ev at h
  refine tE.bind hρ hσ h fun x σ1 W1 v H1 le1 hσ1 r1 h1 => ?_
  cases x with
  | int i =>
    simp only [Rep] at r1
    exact ⟨i, r1, h1.here hσ1 (by simp only [Rep])⟩
  | _ => exact False.elim h1
theorem ad_cmp (C : Pc X g N Φ ea k Wx sc) {o : COp} (hm : behindInMarks o.py b = false) (ha : PE X a (Te X Φ ea Wx a')) (hb : PE X b (Te X Φ ea Wx b')) : PE X (.Compare a [o.py] [b] pos) (Te X Φ ea Wx (.cmp o a' b')) ∧ PT X (.Compare a [o.py] [b] pos) (Tt X Φ ea Wx (.cmp o a' b')) := by
  constructor
  · refine PE.impS (fun st0 => pe_cmpR (op_cmp (ea := ea) (Wx := Wx) (st0 := st0) C.pl o) ha hb hm) ?_
    rintro st H Q ⟨W, ρ, σ, hρ, hσ, h⟩
    unfold ev at h
    exact tE.bind hρ hσ h fun x σ1 W1 v H1 le1 hσ1 r1 h1 => tE.bind (hρ.mono le1) hσ1 h1 fun y σ2 W2 u H2 le2 hσ2 r2 h2 => ⟨W2, σ2, x, y, hσ2, r1.mono le2, r2, h2⟩
  · refine PT.impS (fun st0 => pt_cmpR (op_cmp (ea := ea) (Wx := Wx) (st0 := st0) C.pl o) ha hb hm) ?_
    rintro st H Q ⟨W, ρ, σ, hρ, hσ, h⟩
    have h : TPost X.prog X.w X.K ea Wx st W (ev Φ (.cmp o a' b') ρ σ) Q := h
    unfold ev at h
    exact TPost.bindE hρ hσ h fun x σ1 W1 v H1 le1 hσ1 r1 h1 => TPost.bindE (hρ.mono le1) hσ1 h1 fun y σ2 W2 u H2 le2 hσ2 r2 h2 => ⟨W2, σ2, x, y, hσ2, r1.mono le2, r2, tpost_cmp h2⟩
theorem chain_post {o : COp} {x y : D} {W : Wd} {σ : Store} {H : Hp} {st : L2.St} {kk : D → Store → Res D} {Q : VK} (hσ : Rel X.prog X.w X.K W σ H) (h : Post X.prog X.w X.K ea Wx st W ((cmpD o x y σ).bind kk) Q) :
    Post X.prog X.w X.K ea Wx st W (cmpD o x y σ) fun z H3 => ∃ b, z = .bl b ∧ ∃ W3, Le W W3 ∧ Rel X.prog X.w X.K W3 σ H3 ∧ Post X.prog X.w X.K ea Wx st W3 (kk (.bl b) σ) Q := by
  cases e : cmpD o x y σ with
  | ok d σ1 =>
    obtain ⟨b, rfl, rfl⟩ := cmpD_bl e
    rw [e] at h
    intro W' v H' le r rd
    simp only [Rep] at rd
    exact ⟨b, rd, W', le, r, Post.mono le h⟩
  | exc c d σ1 => exact (cmpD_exc e).elim
  | bad => rw [e] at h; exact h
theorem chain_tpost {o : COp} {x y : D} {W : Wd} {σ : Store} {H : Hp} {st : L2.St} {kk : D → Store → Res D} {Q : Bool → Hp → Prop} (hσ : Rel X.prog X.w X.K W σ H) (h : TPost X.prog X.w X.K ea Wx st W ((cmpD o x y σ).bind kk) Q) :
    Post X.prog X.w X.K ea Wx st W (cmpD o x y σ) fun z H3 => ∃ b, z = .bl b ∧ ∃ W3, Le W W3 ∧ Rel X.prog X.w X.K W3 σ H3 ∧ TPost X.prog X.w X.K ea Wx st W3 (kk (.bl b) σ) Q := by
  cases e : cmpD o x y σ with
  | ok d σ1 =>
    obtain ⟨b, rfl, rfl⟩ := cmpD_bl e
    rw [e] at h
    intro W' v H' le r rd
    simp only [Rep] at rd
    exact ⟨b, rd, W', le, r, TPost.mono le h⟩
  | exc c d σ1 => exact (cmpD_exc e).elim
  | bad => rw [e] at h; exact h
theorem post_mono {W : Wd} {st : L2.St} {r : Res D} {Q Q' : VK} (h : Post X.prog X.w X.K ea Wx st W r Q) (i : ∀ v H, Q v H → Q' v H) : Post X.prog X.w X.K ea Wx st W r Q' := by
  cases r with
  | ok d σ => exact fun W' v H l r rd => i _ _ (h W' v H l r rd)
  | exc c d σ => exact h
  | bad => exact h
theorem ad_chain (C : Pc X g N Φ ea k Wx sc) {o o2 : COp} (hm : lastMarks [o.py, o2.py] [b, c] = false) (ha : PE X a (Te X Φ ea Wx a')) (hb : PE X b (Te X Φ ea Wx b')) (hc : PE X c (Te X Φ ea Wx c')) :
    PE X (.Compare a [o.py, o2.py] [b, c] pos) (Te X Φ ea Wx (.chain o o2 a' b' c')) ∧ PT X (.Compare a [o.py, o2.py] [b, c] pos) (Tt X Φ ea Wx (.chain o o2 a' b' c')) := by
  constructor
  · refine PE.impS (fun st0 => pe_chain (op_cmp (ea := ea) (Wx := Wx) (st0 := st0) C.pl o) (op_cmp (ea := ea) (Wx := Wx) (st0 := st0) C.pl o2) ha hb hc hm) ?_
    rintro st H Q ⟨W, ρ, σ, hρ, hσ, h⟩
    unfold ev at h
    refine tE.bind hρ hσ h fun x σ1 W1 v H1 le1 hσ1 r1 h1 => tE.bind (hρ.mono le1) hσ1 h1 fun y σ2 W2 u H2 le2 hσ2 r2 h2 => ⟨W2, σ2, x, y, hσ2, r1.mono le2, r2, post_mono (chain_post hσ2 h2) ?_⟩
    rintro z H3 ⟨b, rfl, W3, le3, hσ3, h3⟩
    refine ⟨b, rfl, ?_⟩
    cases b with
    | true => exact tE.bind ((hρ.mono le1).mono (le2.trans le3)) hσ3 h3 fun y' σ4 W4 u' H4 le4 hσ4 r4 h4 => ⟨W4, σ4, y, y', hσ4, r2.mono (le3.trans le4), r4, h4⟩
    | false => exact h3.here hσ3 (by simp only [Rep])
  · refine PT.impS (fun st0 => pt_chain (op_cmp (ea := ea) (Wx := Wx) (st0 := st0) C.pl o) (op_cmp (ea := ea) (Wx := Wx) (st0 := st0) C.pl o2) ha hb hc hm) ?_
    rintro st H Q ⟨W, ρ, σ, hρ, hσ, h⟩
    have h : TPost X.prog X.w X.K ea Wx st W (ev Φ (.chain o o2 a' b' c') ρ σ) Q := h
    unfold ev at h
    refine TPost.bindE hρ hσ h fun x σ1 W1 v H1 le1 hσ1 r1 h1 => TPost.bindE (hρ.mono le1) hσ1 h1 fun y σ2 W2 u H2 le2 hσ2 r2 h2 => ⟨W2, σ2, x, y, hσ2, r1.mono le2, r2, post_mono (chain_tpost hσ2 h2) ?_⟩
    rintro z H3 ⟨b, rfl, W3, le3, hσ3, h3⟩
    refine ⟨b, rfl, ?_⟩
    cases b with
    | true => exact TPost.bindE ((hρ.mono le1).mono (le2.trans le3)) hσ3 h3 fun y' σ4 W4 u' H4 le4 hσ4 r4 h4 => ⟨W4, σ4, y, y', hσ4, r2.mono (le3.trans le4), r4, tpost_cmp h4⟩
    | false => exact ⟨false, rfl, h3.here hσ3 rfl⟩
/-! and, or, not, if -/
theorem ad_not (ha : PE X a (Te X Φ ea Wx a')) (ht : PT X a (Tt X Φ ea Wx a')) : PE X (.UnaryOp .Not a pos) (Te X Φ ea Wx (.not a')) ∧ PT X (.UnaryOp .Not a pos) (Tt X Φ ea Wx (.not a')) := by
  constructor
  · refine ⟨fun pins s st H Q I q => ?_⟩
    obtain ⟨W, ρ, σ, hρ, hσ, h⟩ := q
    unfold ev at h
    refine PyProof.Rows.UnaryOp_ (thn (ha.run pins s st H (fun v H1 => ∃ b, TruV X.K v H1 b ∧ Q (.bl (!b)) H1) I ?_) fun v s1 ⟨x, H1, I1, r1, b, t1, q1⟩ => PyProof.Rows.not_of (thn (tru_ok pins s1 st H1 x v _ I1 r1 ⟨b, t1, q1⟩) fun c s2 ⟨H2, I2, q2⟩ => ⟨.bl (!c), H2, I2, rfl, q2⟩))
    · exact tE.bind hρ hσ h fun x σ1 W1 v H1 le1 hσ1 r1 h1 => by
        split at h1
        · rename_i b hb
          exact ⟨b, hσ1.tru r1 rfl hb, h1.here hσ1 (by simp only [Rep])⟩
        · exact False.elim h1
  · refine (pt_not ht).imp ?_
    rintro st H Q ⟨W, ρ, σ, hρ, hσ, h⟩
    have h : TPost X.prog X.w X.K ea Wx st W (ev Φ (.not a') ρ σ) Q := h
    unfold ev at h
    refine ⟨W, ρ, σ, hρ, hσ, ?_⟩
    cases e : ev Φ a' ρ σ with
    | ok d σ1 =>
      rw [e] at h
      have h : TPost X.prog X.w X.K ea Wx st W (match truthD (view σ1 d) with
        | some b => .ok (.bl (!b)) σ1
        | none => .bad) Q := h
      cases q : truthD (view σ1 d) with
      | none => rw [q] at h; exact False.elim h
      | some b =>
        rw [q] at h
        exact ⟨b, q, fun W1 H1 le r => (TPost.mono le h).here r rfl⟩
    | exc c d σ1 => rw [e] at h; exact h
    | bad => rw [e] at h; exact h
theorem ad_and {r : List Expr} (ha : PE X a (Te X Φ ea Wx a')) (hb : PE X (.BoolOp .And (b :: r) pos) (Te X Φ ea Wx b')) : PE X (.BoolOp .And (a :: b :: r) pos) (Te X Φ ea Wx (.and a' b')) := by
  refine ⟨fun pins s st H Q I q => ?_⟩
  obtain ⟨W, ρ, σ, hρ, hσ, h⟩ := q
  unfold ev at h
  refine PyProof.Rows.BoolOp_and (thn (ha.run pins s st H (fun v H1 => ∃ t, TruV X.K v H1 t ∧ if t = true then Te X Φ ea Wx b' st H1 Q else Q v H1) I ?_) fun v s1 ⟨x, H1, I1, r1, t, t1, q1⟩ => thn (tru_ok pins s1 st H1 x v (fun c H2 => if c = true then Te X Φ ea Wx b' st H2 Q else Q x H2) I1 r1 ⟨t, t1, q1⟩) fun c s2 ⟨H2, I2, q2⟩ => ?_)
  · exact tE.bind hρ hσ h fun x σ1 W1 v H1 le1 hσ1 r1 h1 => by
      split at h1
      · rename_i hb
        exact ⟨true, hσ1.tru r1 rfl hb, ⟨W1, ρ, σ1, hρ.mono le1, hσ1, h1⟩⟩
      · rename_i hb
        exact ⟨false, hσ1.tru r1 rfl hb, h1.here hσ1 r1⟩
      · exact False.elim h1
  · cases c with
    | true => exact hb.run pins s2 st H2 Q I2 q2
    | false => exact ⟨x, H2, I2, r1, q2⟩
theorem ad_or {r : List Expr} (ha : PE X a (Te X Φ ea Wx a')) (hb : PE X (.BoolOp .Or (b :: r) pos) (Te X Φ ea Wx b')) : PE X (.BoolOp .Or (a :: b :: r) pos) (Te X Φ ea Wx (.or a' b')) := by
  refine ⟨fun pins s st H Q I q => ?_⟩
  obtain ⟨W, ρ, σ, hρ, hσ, h⟩ := q
  unfold ev at h
  refine PyProof.Rows.BoolOp_or (thn (ha.run pins s st H (fun v H1 => ∃ t, TruV X.K v H1 t ∧ if t = true then Q v H1 else Te X Φ ea Wx b' st H1 Q) I ?_) fun v s1 ⟨x, H1, I1, r1, t, t1, q1⟩ => thn (tru_ok pins s1 st H1 x v (fun c H2 => if c = true then Q x H2 else Te X Φ ea Wx b' st H2 Q) I1 r1 ⟨t, t1, q1⟩) fun c s2 ⟨H2, I2, q2⟩ => ?_)
  · exact tE.bind hρ hσ h fun x σ1 W1 v H1 le1 hσ1 r1 h1 => by
      split at h1
      · rename_i hb
        exact ⟨true, hσ1.tru r1 rfl hb, h1.here hσ1 r1⟩
      · rename_i hb
        exact ⟨false, hσ1.tru r1 rfl hb, ⟨W1, ρ, σ1, hρ.mono le1, hσ1, h1⟩⟩
      · exact False.elim h1
  · cases c with
    | true => exact ⟨x, H2, I2, r1, q2⟩
    | false => exact hb.run pins s2 st H2 Q I2 q2
theorem adw_and {r : List Expr} (ha : PT X a (Tt X Φ ea Wx a')) (hb : PW X (.BoolOp .And (b :: r) pos) (Tt X Φ ea Wx b')) : PW X (.BoolOp .And (a :: b :: r) pos) (Tt X Φ ea Wx (.and a' b')) := by
  refine (pw_and ha hb).imp ?_
  rintro st H Q ⟨W, ρ, σ, hρ, hσ, h⟩
  have h : TPost X.prog X.w X.K ea Wx st W (ev Φ (.and a' b') ρ σ) Q := h
  unfold ev at h
  refine TPost.bindT (k1 := fun _ σ1 => ev Φ b' ρ σ1) (k2 := fun x σ1 => .ok x σ1) hρ hσ h fun d b σ1 W1 H1 hb le1 hσ1 h1 => ?_
  cases b with
  | true => exact ⟨W1, ρ, σ1, hρ.mono le1, hσ1, h1⟩
  | false => exact h1.here hσ1 hb
theorem adw_or {r : List Expr} (ha : PT X a (Tt X Φ ea Wx a')) (hb : PW X (.BoolOp .Or (b :: r) pos) (Tt X Φ ea Wx b')) : PW X (.BoolOp .Or (a :: b :: r) pos) (Tt X Φ ea Wx (.or a' b')) := by
  refine (pw_or ha hb).imp ?_
  rintro st H Q ⟨W, ρ, σ, hρ, hσ, h⟩
  have h : TPost X.prog X.w X.K ea Wx st W (ev Φ (.or a' b') ρ σ) Q := h
  unfold ev at h
  refine TPost.bindT (k1 := fun x σ1 => .ok x σ1) (k2 := fun _ σ1 => ev Φ b' ρ σ1) hρ hσ h fun d b σ1 W1 H1 hb le1 hσ1 h1 => ?_
  cases b with
  | true => exact h1.here hσ1 hb
  | false => exact ⟨W1, ρ, σ1, hρ.mono le1, hσ1, h1⟩
theorem ad_ite (ht : PT X c (Tt X Φ ea Wx c')) (ha : PE X a (Te X Φ ea Wx a')) (hb : PE X b (Te X Φ ea Wx b')) : PE X (.IfExp c a b pos) (Te X Φ ea Wx (.ite c' a' b')) := by
  refine (pe_ifExp ht ha hb).imp ?_
  rintro st H Q ⟨W, ρ, σ, hρ, hσ, h⟩
  unfold ev at h
  refine tT.bind (k1 := fun σ1 => ev Φ a' ρ σ1) (k2 := fun σ1 => ev Φ b' ρ σ1) hρ hσ h fun b σ1 W1 H1 le1 hσ1 h1 => ?_
  cases b <;> exact ⟨W1, ρ, σ1, hρ.mono le1, hσ1, h1⟩
theorem adt_ite (ht : PT X c (Tt X Φ ea Wx c')) (ha : PT X a (Tt X Φ ea Wx a')) (hb : PT X b (Tt X Φ ea Wx b')) : PT X (.IfExp c a b pos) (Tt X Φ ea Wx (.ite c' a' b')) := by
  refine ⟨fun pins s st H Q I q => ?_⟩
  obtain ⟨W, ρ, σ, hρ, hσ, h⟩ := q
  have h : TPost X.prog X.w X.K ea Wx st W (ev Φ (.ite c' a' b') ρ σ) Q := h
  unfold ev at h
  refine PyProof.Rows.isTrue_IfExp (thn (ht.run pins s st H (fun t H1 => if t = true then Tt X Φ ea Wx a' st H1 Q else Tt X Φ ea Wx b' st H1 Q) I ?_) fun t s1 ⟨H1, I1, q1⟩ => ?_)
  · refine TPost.bindT (k1 := fun _ σ1 => ev Φ a' ρ σ1) (k2 := fun _ σ1 => ev Φ b' ρ σ1) hρ hσ h fun d b σ1 W1 H1 hb le1 hσ1 h1 => ?_
    cases b <;> exact ⟨W1, ρ, σ1, hρ.mono le1, hσ1, h1⟩
  · cases t with
    | true => exact ha.run pins s1 st H1 Q I1 q1
    | false => exact hb.run pins s1 st H1 Q I1 q1
/-- any other form, as a test -/
theorem adt_plain {e : Expr} {e' : Ex} (he : PE X e (Te X Φ ea Wx e')) (h : ∀ whole, isTrue e X.env whole = (do let v ← whole; standAt e.pos; holding [v] (truthy v))) : PT X e (Tt X Φ ea Wx e') := (pt_truth he h).imp fun st H Q q => tT_truth q
end
end Iv

set_option Elab.async false
set_option linter.all false
set_option maxHeartbeats 4000000
/-! adequacy: displays, subscripts, calls -/
namespace Iv
open PySem PySem.Spec L2
section
variable {X : Cx} {g : Sg} {N : List Str} {Φ : CallSem} {ea : Exa} {k : Nat} {Wx : WX} {sc : Scope} {pos p2 : Pos}
variable {a b c : Expr} {a' b' c' : Ex} {es : List Expr} {es' : List Ex}
/-! argument lists -/
theorem ada_nil : PA X [] (Ta X Φ ea Wx []) := pa_nil.imp fun st H Q ⟨W, ρ, σ, hρ, hσ, h⟩ => by
  unfold evs at h
  exact h W [] H (Le.refl W) hσ Reps.nil
theorem evs_cons {e : Ex} {r : List Ex} {ρ : Env} {σ : Store} (hs : e.isStar = false) : evs Φ (e :: r) ρ σ = (ev Φ e ρ σ).bind fun x σ1 => (evs Φ r ρ σ1).bind fun ds σ2 => .ok (x :: ds) σ2 := by
  rw [evs]
  congr 1
  funext x σ1
  rw [hs]
  rfl
theorem posts_cons {W : Wd} {st : L2.St} {r : Res (List D)} {v : V} {d : D} {Q : List V → Hp → Prop} (rd : Rep X.prog X.w X.K W d v) (h : Posts X.prog X.w X.K ea Wx st W (r.bind fun ds σ2 => .ok (d :: ds) σ2) Q) : Posts X.prog X.w X.K ea Wx st W r fun vs H => Q (v :: vs) H := by
  cases r with
  | ok ds σ => exact fun W' vs H le r q => h W' (v :: vs) H le r (Reps.cons (rd.mono le) q)
  | exc c d σ => exact h
  | bad => exact h
theorem posts_app {W : Wd} {st : L2.St} {r : Res (List D)} {vs : List V} {ds : List D} {Q : List V → Hp → Prop} (rd : Reps X.prog X.w X.K W ds vs) (h : Posts X.prog X.w X.K ea Wx st W (r.bind fun es σ2 => .ok (ds ++ es) σ2) Q) : Posts X.prog X.w X.K ea Wx st W r fun us H => Q (vs ++ us) H := by
  cases r with
  | ok es σ => exact fun W' us H le r q => h W' (vs ++ us) H le r ((rd.mono le).append q)
  | exc c d σ => exact h
  | bad => exact h
theorem ada_cons (hn : noStar [a] = true) (hs : a'.isStar = false) (ha : PE X a (Te X Φ ea Wx a')) (hr : PA X es (Ta X Φ ea Wx es')) : PA X (a :: es) (Ta X Φ ea Wx (a' :: es')) := by
  refine (pa_cons ha hr (starEach_ns hn)).imp ?_
  rintro st H Q ⟨W, ρ, σ, hρ, hσ, h⟩
  rw [evs_cons hs] at h
  exact tE.bindA hρ hσ h fun x σ1 W1 v H1 le1 hσ1 r1 h1 => ⟨W1, ρ, σ1, hρ.mono le1, hσ1, posts_cons r1 h1⟩
theorem ada_star (ha : PE X a (Te X Φ ea Wx a')) (hr : PA X es (Ta X Φ ea Wx es')) : PA X (.Starred a pos :: es) (Ta X Φ ea Wx (.star a' :: es')) := by
  refine (StX.pa_star ha hr).imp ?_
  rintro st H Q ⟨W, ρ, σ, hρ, hσ, h⟩
  rw [evs] at h
  have h : Posts X.prog X.w X.K ea Wx st W ((ev Φ a' ρ σ).bind fun x σ1 => match splice true x σ1 with
    | some xs => (evs Φ es' ρ σ1).bind fun ds σ2 => .ok (xs ++ ds) σ2
    | none => .bad) Q := by rw [ev] at h; exact h
  refine tE.bindA hρ hσ h fun x σ1 W1 v H1 le1 hσ1 r1 h1 => ?_
  unfold splice at h1
  dsimp only at h1
  split at h1
  · rename_i xs e
    split at e
    · rename_i ys hy
      cases e
      obtain ⟨p, vs, rfl, s1, q⟩ := hσ1.lst r1 hy
      exact ⟨p, vs, rfl, .inr (SqL.of s1), W1, ρ, σ1, hρ.mono le1, hσ1, posts_app q h1⟩
    · rename_i ys hy
      cases e
      obtain ⟨p, vs, rfl, s1, q⟩ := hσ1.tup r1 hy
      exact ⟨p, vs, rfl, .inl s1, W1, ρ, σ1, hρ.mono le1, hσ1, posts_app q h1⟩
    · cases e
  · exact False.elim h1
/-! keywords -/
theorem adk_nil : PK X [] (Ta X Φ ea Wx []) := pk_nil.imp fun st H Q ⟨W, ρ, σ, hρ, hσ, h⟩ => by
  unfold evs at h
  exact h W [] H (Le.refl W) hσ Reps.nil
theorem adk_cons {kw : Keyword} {ks : List Keyword} (hs : a'.isStar = false) (ha : PE X kw.value (Te X Φ ea Wx a')) (hr : PK X ks (Ta X Φ ea Wx es')) : PK X (kw :: ks) (Ta X Φ ea Wx (a' :: es')) := by
  obtain ⟨nm, v, kp⟩ := kw
  refine (pk_cons ha hr).imp ?_
  rintro st H Q ⟨W, ρ, σ, hρ, hσ, h⟩
  rw [evs_cons hs] at h
  exact tE.bindA hρ hσ h fun x σ1 W1 v H1 le1 hσ1 r1 h1 => ⟨W1, ρ, σ1, hρ.mono le1, hσ1, posts_cons r1 h1⟩
/-! displays -/
theorem ad_tup {j : Nat} (h : PA X es (Ta X Φ ea Wx es')) : PE X (.Tuple es j pos) (Te X Φ ea Wx (.tup es')) := by
  refine (pe_tup h).imp ?_
  rintro st H Q ⟨W, ρ, σ, hρ, hσ, h⟩
  unfold ev at h
  exact tA.bind hρ hσ h fun ds σ1 W1 vs H1 le1 hσ1 r1 h1 => h1.newT hσ1 r1
theorem ad_lst {mu : Bool} (h : PA X es (Ta X Φ ea Wx es')) : PE X (.List es pos) (Te X Φ ea Wx (.lst mu es')) := by
  refine (pe_lst h).imp ?_
  rintro st H Q ⟨W, ρ, σ, hρ, hσ, h⟩
  unfold ev at h
  exact tA.bind hρ hσ h fun ds σ1 W1 vs H1 le1 hσ1 r1 h1 => h1.newL hσ1 r1
/-! subscripts -/
theorem ad_idx (C : Pc X g N Φ ea k Wx sc) (hp : plainIx b = true) (ha : PE X a (Te X Φ ea Wx a')) (hb : PE X b (Te X Φ ea Wx b')) : PE X (.Subscript a b pos) (Te X Φ ea Wx (.idx a' b')) := by
  refine PE.impS (fun st0 => pe_ix (ix_all (ea := ea) (Wx := Wx) (st0 := st0) C.pl) ha hb ?_) ?_
  · intro o i
    cases b <;> first | rfl | cases hp
  rintro st H Q ⟨W, ρ, σ, hρ, hσ, h⟩
  unfold ev at h
  exact tE.bind hρ hσ h fun x σ1 W1 v H1 le1 hσ1 r1 h1 => tE.bind (hρ.mono le1) hσ1 h1 fun y σ2 W2 u H2 le2 hσ2 r2 h2 => ⟨W2, σ2, x, y, hσ2, r1.mono le2, r2, h2⟩
theorem ad_slice {mu : Bool} {lo hi : Option Expr} {lo' hi' : Ex} (ha : PE X a (Te X Φ ea Wx a')) (hl : PO X lo (To X Φ ea Wx lo')) (hh : PO X hi (To X Φ ea Wx hi')) : PE X (.Subscript a (.Slice lo hi none p2) pos) (Te X Φ ea Wx (.slice mu a' lo' hi')) := by
  refine PE.impS (fun st0 => pe_slice (sl_all (ea := ea) (Wx := Wx) (st0 := st0) (mu := mu)) ha hl hh) ?_
  rintro st H Q ⟨W, ρ, σ, hρ, hσ, h⟩
  unfold ev at h
  exact tE.bind hρ hσ h fun x σ1 W1 v H1 le1 hσ1 r1 h1 =>
    tO.bind (k := fun l σ2 => (ev Φ hi' ρ σ2).bind fun h σ3 => if (optI h).isSome then sliceD mu x l h σ3 else .bad) (hρ.mono le1) hσ1 h1 fun l lo σ2 W2 H2 le2 hσ2 e2 h2 =>
    tO.bind (k := fun h σ3 => sliceD mu x l h σ3) ((hρ.mono le1).mono le2) hσ2 h2 fun u hi σ3 W3 H3 le3 hσ3 e3 h3 => ⟨W3, σ3, x, l, u, hσ3, (r1.mono le2).mono le3, e2, e3, h3⟩
theorem ado_none : PO X none (To X Φ ea Wx .nop) := po_none.imp fun st H Q ⟨W, ρ, σ, hρ, hσ, h⟩ => by
  unfold ev at h
  obtain ⟨o, e, h⟩ := h
  cases e
  exact h W H (Le.refl W) hσ
/-- a part that is written: an int -/
theorem ado_some (ha : PE X a (Te X Φ ea Wx a')) : PO X (some a) (fun st H Q => ∃ W ρ σ, EnvR X.prog X.w X.K W ρ st ∧ Rel X.prog X.w X.K W σ H ∧ match ev Φ a' ρ σ with
    | .ok d σ' => ∃ i, d = .int i ∧ ∀ W' H', Le W W' → Rel X.prog X.w X.K W' σ' H' → Q (some i) H'
    | .exc c d σ' => ∀ W' H cls dx, Le W W' → Rel X.prog X.w X.K W' σ' H → ExcR X.prog X.w X.K ea W' c d cls dx H → Wx cls dx st H
    | .bad => False) := (po_some ha).imp fun st H Q ⟨W, ρ, σ, hρ, hσ, h⟩ => by
  refine ⟨W, ρ, σ, hρ, hσ, ?_⟩
  cases e : ev Φ a' ρ σ with
  | ok d σ1 =>
    rw [e] at h
    obtain ⟨i, rfl, h⟩ := h
    intro W' v H' le r rd
    simp only [Rep] at rd
    exact ⟨i, rd, h W' H' le r⟩
  | exc c d σ1 => rw [e] at h; exact h
  | bad => rw [e] at h; exact h
theorem ad_rev {mu : Bool} {j : Nat} {p1 p3 : Pos} (ha : PE X a (Te X Φ ea Wx a')) : PE X (.Subscript a (.Slice none none (some (.UnaryOp .USub (.Constant (.int 1) j p1) p2)) p3) pos) (Te X Φ ea Wx (.rev mu a')) := by
  refine (pe_revL ha).imp ?_
  rintro st H Q ⟨W, ρ, σ, hρ, hσ, h⟩
  unfold ev at h
  refine tE.bind hρ hσ h fun x σ1 W1 v H1 le1 hσ1 r1 h1 => ?_
  unfold revD at h1
  split at h1
  · rename_i xs e
    obtain ⟨p, vs, rfl, s1, q⟩ := hσ1.lst r1 e
    exact ⟨p, vs, rfl, SqL.of s1, (h1.newL hσ1 q.reverse).2⟩
  · rename_i xs e
    obtain ⟨p, vs, rfl, s1, q⟩ := hσ1.ro r1 e
    exact ⟨p, vs, rfl, s1, (h1.newL hσ1 q.reverse).2⟩
  · exact False.elim h1
/-! calls -/
theorem ad_bi (C : Pc X g N Φ ea k Wx sc) {b : Bi} {mu : Bool} {p : Pos} (hg : gloC sc b.name = true) (hs : noStar [a] = true) (ha : PE X a (Te X Φ ea Wx a')) : PE X (.Call (.Name b.name p) [a] [] pos) (Te X Φ ea Wx (.bi b mu a')) := by
  refine PE.impS (fun st0 => pe_bi C (call_bi (ea := ea) (Wx := Wx) (st0 := st0) C.pl C.sy b mu) hg ha hs) ?_
  rintro st H Q ⟨W, ρ, σ, hρ, hσ, h⟩
  unfold ev at h
  exact tE.bind hρ hσ h fun x σ1 W1 v H1 le1 hσ1 r1 h1 => ⟨W1, σ1, x, v, rfl, hσ1, r1, h1⟩
theorem ad_is1 (C : Pc X g N Φ ea k Wx sc) {t : Ty} {p q : Pos} (hg : gloC sc "isinstance" = true) (hy : gloC sc t.nm = true) (hs : noStar [a] = true) (ha : PE X a (Te X Φ ea Wx a')) : PE X (.Call (.Name "isinstance" p) [a, .Name t.nm q] [] pos) (Te X Φ ea Wx (.isi a' [t])) := by
  refine PE.impS (fun st0 => pe_is1 C (st0 := st0) (Wx := Wx) (ea := ea) hg hy hs ha) ?_
  rintro st H Q ⟨W, ρ, σ, hρ, hσ, h⟩
  unfold ev at h
  exact tE.bind hρ hσ h fun x σ1 W1 v H1 le1 hσ1 r1 h1 => ⟨W1, σ1, x, hσ1, r1, h1⟩
theorem ad_isN (C : Pc X g N Φ ea k Wx sc) {ts : List Expr} {tys : List Ty} {p q : Pos} {j : Nat} (hg : gloC sc "isinstance" = true) (hy : tyNames sc ts tys = true) (hs : noStar [a] = true) (hl : tys.length ≤ lim) (ha : PE X a (Te X Φ ea Wx a')) : PE X (.Call (.Name "isinstance" p) [a, .Tuple ts j q] [] pos) (Te X Φ ea Wx (.isi a' tys)) := by
  have hm : X.mg "isinstance" = none := C.blt _ (by decide +kernel)
  have hA : PA X [a, .Tuple ts j q] (tCons (Te X Φ ea Wx a') (tCons (tTup fun _ H Q => Q (tys.map fun t => V.ty t.name) H) tNil)) := pa_cons ha (pa_cons (pe_tup (pa_tys C hy)) pa_nil rfl) (starEach_ns hs)
  refine PE.impS (fun st0 => pe_callB (call_isN (ea := ea) (Wx := Wx) (st0 := st0) tys) (C.gl hg) hm (by first | rfl | kernel_rfl) hA (by decide +kernel) (by decide +kernel) (starEach_ns hs) rfl) ?_
  rintro st H Q ⟨W, ρ, σ, hρ, hσ, h⟩
  unfold ev at h
  refine tE.bind hρ hσ h fun x σ1 W1 v H1 le1 hσ1 r1 h1 => ⟨by rw [List.length_map, ← lim_eq]; exact hl, fun tp htp => ?_⟩
  exact ⟨W1.add tp (.tup (tys.map fun t => V.ty t.name)), σ1, x, v, tp, rfl, upd_same, hσ1.add htp, r1.mono (hσ1.leAdd htp), Post.mono (hσ1.leAdd htp) h1⟩
theorem evs_len : ∀ {es' : List Ex} {ρ : Env} {σ σ' : Store} {ds : List D}, (es'.all fun e => !e.isStar) = true → evs Φ es' ρ σ = .ok ds σ' → ds.length = es'.length
  | [], _, _, _, _, _, h => by unfold evs at h; cases h; rfl
  | e :: r, ρ, σ, σ', ds, hs, h => by
    rw [List.all_cons, Bool.and_eq_true, Bool.not_eq_true'] at hs
    rw [evs_cons hs.1] at h
    cases q : ev Φ e ρ σ with
    | ok x σ1 =>
      rw [q] at h
      have h : ((evs Φ r ρ σ1).bind fun ds σ2 => Res.ok (x :: ds) σ2) = .ok ds σ' := h
      cases q2 : evs Φ r ρ σ1 with
      | ok y σ2 =>
        rw [q2] at h
        cases h
        exact congrArg (· + 1) (evs_len hs.2 q2)
      | exc _ _ _ => rw [q2] at h; cases h
      | bad => rw [q2] at h; cases h
    | exc _ _ _ => rw [q] at h; cases h
    | bad => rw [q] at h; cases h
/-- as tA.bind, the outcome seen -/
theorem tA_bindE {f : Env → Store → Res (List D)} {kk : List D → Store → Res D} {Q : VK} {T : List V → Hp → Prop} {st : L2.St} {W : Wd} {ρ : Env} {σ : Store} {H : Hp} (hρ : EnvR X.prog X.w X.K W ρ st) (hσ : Rel X.prog X.w X.K W σ H) (h : Post X.prog X.w X.K ea Wx st W ((f ρ σ).bind kk) Q)
    (c : ∀ ds σ1 W1 vs H1, f ρ σ = .ok ds σ1 → Le W W1 → Rel X.prog X.w X.K W1 σ1 H1 → Reps X.prog X.w X.K W1 ds vs → Post X.prog X.w X.K ea Wx st W1 (kk ds σ1) Q → T vs H1) : tA X.prog X.w X.K ea Wx f st H T := by
  refine ⟨W, ρ, σ, hρ, hσ, ?_⟩
  cases e : f ρ σ with
  | ok d σ1 => rw [e] at h; exact fun W1 v H1 le r q => c d σ1 W1 v H1 e le r q (Post.mono le h)
  | exc c d σ1 => rw [e] at h; exact h
  | bad => rw [e] at h; exact h
theorem ad_call (C : Pc X g N Φ ea k Wx sc) {x : Str} {p : Pos} {ks : List Keyword} {ks' : List Ex} {f : Nat} {dv : List D} {pm : List Nat} {shs : List Shp} {sh : Shp} (hg : gloC sc x = true) (hn : nameOk x = true) (hs : noStar es = true) (ha : PA X es (Ta X Φ ea Wx es')) (hk : PK X ks (Ta X Φ ea Wx ks'))
    (la : es.length = es'.length ∧ (es'.all fun e => !e.isStar) = true) (lk : ks.length = ks'.length ∧ (ks'.all fun e => !e.isStar) = true)
    (hf : g.fns.lookup x = some (f, shs)) (hm : sh ∈ shs) (h1 : sh.np = es.length) (h2 : ks.map (·.arg) = sh.ks.map some) (h3 : sh.ds = dv) (h4 : sh.pm = pm) : PE X (.Call (.Name x p) es ks pos) (Te X Φ ea Wx (.call f es' ks' dv pm)) := by
  subst h3 h4
  obtain ⟨ad, fd, ps, np, hmg, hkp, F, hsh⟩ := C.calls x f shs hf
  obtain ⟨k1, k2, k3⟩ := kw_shape (env := X.env) (pos := pos) h2
  obtain ⟨s1, s2⟩ := plain_ns (env := X.env) (pos := pos) hs
  refine ⟨fun pins s st H Q I q => ?_⟩
  obtain ⟨W, ρ, σ, hρ, hσ, h⟩ := q
  unfold ev at h
  refine wpAny_Call_Name_kw (ld_glob I (C.gl hg) hmg ?_ (nameOk_dbg hn).1)
  have hh := tA_bindE (T := fun vs H1 => vs.length = es.length ∧ Ta X Φ ea Wx ks' st H1 fun zs H2 => zs.length = ks.length ∧ ∃ W2 σ2 xs ys, Rel X.prog X.w X.K W2 σ2 H2 ∧ Reps X.prog X.w X.K W2 xs vs ∧ Reps X.prog X.w X.K W2 ys zs ∧
      Post X.prog X.w X.K ea Wx st W2 (match permD (xs ++ ys ++ sh.ds) sh.pm with
        | some ds => Φ f ds σ2
        | none => .bad) Q) hρ hσ h fun xs σ1 W1 vs H1 e1 le1 hσ1 r1 h1 => ⟨by rw [← r1.length, evs_len la.2 e1, la.1], tA_bindE (hρ.mono le1) hσ1 h1 fun ys σ2 W2 zs H2 e2 le2 hσ2 r2 h2 => ⟨by rw [← r2.length, evs_len lk.2 e2, lk.1], W2, σ2, xs, ys, hσ2, r1.mono le2, r2, h2⟩⟩
  have lks : ks.length = sh.ks.length := by have := congrArg List.length h2; simpa using this
  have go : ∀ {us ws : List Value} {vs zs : List V} {H2 : Hp} {s2 : Shared}, Inv X pins st H2 s2 → Vals vs us → Vals zs ws → vs.length = es.length → (zs.length = ks.length ∧ ∃ W2 σ2 xs ys, Rel X.prog X.w X.K W2 σ2 H2 ∧ Reps X.prog X.w X.K W2 xs vs ∧ Reps X.prog X.w X.K W2 ys zs ∧
      Post X.prog X.w X.K ea Wx st W2 (match permD (xs ++ ys ++ sh.ds) sh.pm with
        | some ds => Φ f ds σ2
        | none => .bad) Q) → wpAny (model X.prog X.w) X.A (call (.ref ad) us (sh.ks.zip ws)) (EP X pins st Q) X.xe s2 := fun I2 r1 r2 l1 ⟨l2, W2, σ2, xs, ys, hσ2, q1, q2, hp⟩ =>
    run_call C F (hsh sh hm) I2 r1 r2 (by rw [← r1.length, l1, h1]) (by rw [← r2.length, l2, lks]) hσ2 q1 q2 hp
  cases es with
  | nil =>
    refine PySem.W.callWith_KW0 (h₀ := X.base) I.ok.mod.kin hkp k1 ?_ (by rw [k3]; rfl)
    obtain ⟨W', ρ', σ', hρ', hσ', hp⟩ := hh
    have := ha.run pos pins s st H _ I ⟨W', ρ', σ', hρ', hσ', hp⟩
    -- no argument: nothing is evaluated
    have hA := hp
    cases e' : es' with
    | cons _ _ => rw [e'] at la; simp at la
    | nil =>
      subst e'
      unfold evs at hA
      obtain ⟨l, hk2⟩ := hA W' [] H (Le.refl W') hσ' Reps.nil
      refine thn (hk.run pos pins s st H _ I hk2) fun ws s2 ⟨zs, H2, I2, rz, q2⟩ => ⟨I2.kIn, ?_⟩
      rw [k2]
      exact go I2 .nil rz l q2
  | cons e es =>
    obtain ⟨n1, n2⟩ := noStar_cons hs
    refine PySem.W.callWith_KW (h₀ := X.base) I.ok.mod.kin hkp k1 (thn (ha.run pos pins s st H _ I hh) fun us s1 ⟨vs, H1, I1, r1, l1, q1⟩ => ?_) (by rw [s1, k3]; rfl) (starEach_ns n1)
    refine thn (hk.run pos pins s1 st H1 _ I1 q1) fun ws s2 ⟨zs, H2, I2, rz, q2⟩ => ⟨I2.kIn, ?_⟩
    rw [k2]
    exact go I2 r1 rz l1 q2
/-! methods -/
theorem base_ok {o : Expr} {m : Str} {env : PySem.Env} (h : baseOk o = true) : attributeBase o m env (eval o env) = eval o env := by
  unfold attributeBase
  cases o with
  | Call fn args kws p =>
    cases fn with
    | Name x q =>
      cases args with
      | cons _ _ => rfl
      | nil =>
        cases kws with
        | cons _ _ => rfl
        | nil =>
          have h : (!(x == ("super" : Str))) = true := h
          have hx : (x != ("super" : Str)) = true := h
          simp only [hx, Bool.true_or, if_true]
    | _ => rfl
  | _ => rfl
theorem me_pa (m : Me) : PlainAttrs m.T ∧ Slot m.T m.name m.id ∧ typeOf (.builtin m.id) = pure (.type "method_descriptor") := by
  cases m
  · exact ⟨F.plainAttrs_list, F.slot_list_append, F.type_list_append⟩
  · exact ⟨F.plainAttrs_list, F.slot_list_pop, F.type_list_pop⟩
  · exact ⟨F.plainAttrs_list, F.slot_list_extend, F.type_list_extend⟩
  · exact ⟨F.plainAttrs_dict, F.slot_dict_get, F.type_dict_get⟩
  · exact ⟨F.plainAttrs_str, F.slot_str_join, F.type_str_join⟩
theorem ad_me (C : Pc X g N Φ ea k Wx sc) {m : Me} {apos : Pos} (hb : baseOk a = true) (hl : (apos.endLine == pos.line) = true) (hs : noStar es = true) (h30 : es.length < 30) (la : es.length = es'.length) (ha : PE X a (Te X Φ ea Wx a')) (he : PA X es (Ta X Φ ea Wx es')) :
    PE X (.Call (.Attribute a m.name apos) es [] pos) (Te X Φ ea Wx (.me m a' es')) := by
  obtain ⟨m1, m2, m3⟩ := me_pa m
  cases es with
  | nil =>
    refine PE.impS (fun st0 => pe_bm0 m1 m2 m3 (mt_all (ea := ea) (Wx := Wx) (st0 := st0) C.pl m) ha (base_ok hb) hl) ?_
    rintro st H Q ⟨W, ρ, σ, hρ, hσ, h⟩
    unfold ev at h
    refine tE.bind hρ hσ h fun x σ1 W1 v H1 le1 hσ1 r1 h1 => ?_
    split at h1
    · rename_i hok
      refine ⟨meOk_ty hσ1 r1 hok, ?_⟩
      cases es' with
      | cons _ _ => simp at la
      | nil =>
        unfold evs at h1
        exact ⟨W1, σ1, x, [], hσ1, r1, Reps.nil, h1⟩
    · exact False.elim h1
  | cons e es =>
    obtain ⟨n1, n2⟩ := noStar_cons hs
    obtain ⟨s1, s2⟩ := plain_ns (env := X.env) (pos := pos) hs
    refine PE.impS (fun st0 => pe_bm m1 m2 m3 (mt_all (ea := ea) (Wx := Wx) (st0 := st0) C.pl m) ha he (base_ok hb) ?_ hl (starEach_ns n1) (plain_ns n2).1) ?_
    · rw [s2]
      have : ((e :: es).length + ([] : List Keyword).length + (if ([] : List Keyword).isEmpty then 0 else 1)) = (e :: es).length := by simp
      rw [this, decide_eq_true h30]
      rfl
    rintro st H Q ⟨W, ρ, σ, hρ, hσ, h⟩
    unfold ev at h
    refine tE.bind hρ hσ h fun x σ1 W1 v H1 le1 hσ1 r1 h1 => ?_
    split at h1
    · rename_i hok
      exact ⟨meOk_ty hσ1 r1 hok, tA.bind (hρ.mono le1) hσ1 h1 fun ds σ2 W2 vs H2 le2 hσ2 r2 h2 => ⟨W2, σ2, x, ds, hσ2, r1.mono le2, r2, h2⟩⟩
    · exact False.elim h1
end
end Iv

set_option Elab.async false
set_option linter.all false
set_option maxHeartbeats 4000000
/-! adequacy: dict displays, what is walked, comprehensions -/
namespace Iv
open PySem PySem.Spec L2
section
variable {P : Program} {w : World} {K : PySem.W.Frag} {W : Wd} {σ : Store} {H : Hp}
/-- an object under the making is done -/
theorem Rel.fin {p : Addr} {o : HO} {R : List (Addr × HO)} (r : Rel P w K W σ H) (hR : W.R = (p, o) :: R) : ∃ W2, Le0 W W2 ∧ W2.R = R ∧ Rel P w K W2 σ H ∧ W2.F p = some o :=
  ⟨(W.free R).add p o, ⟨Nat.le_refl _, fun _ _ => rfl, fun a u e => by
    show upd W.F p o a = some u
    rw [upd_ne (ne_of_none e (r.res p o (by rw [hR]; exact List.mem_cons_self)).2.1)]; exact e⟩, rfl, r.done hR, upd_same⟩
theorem Rel.finC {p : Addr} {o : HO} {c : Cell} {R : List (Addr × HO)} (r : Rel P w K W σ H) (hR : W.R = (p, o) :: R) (hc : CellOk P w K W H p c) : ∃ W2, Le0 W W2 ∧ W2.R = R ∧ Rel P w K W2 (σ ++ [c]) H ∧ σ.length < W2.n ∧ W2.μ σ.length = p :=
  ⟨(W.free R).push p, (le0_R (W := W) (W' := W.free R) rfl rfl rfl).trans (lePush (W.free R) p).toLe0, rfl, r.doneC hR hc, by show σ.length < W.n + 1; rw [r.len]; exact Nat.lt_succ_self _, by
    show (if σ.length = W.n then p else W.μ σ.length) = p
    rw [if_pos r.len]⟩
theorem le0_rewr {W : Wd} {R : List (Addr × HO)} : Le0 W (W.free R) := le0_R rfl rfl rfl
/-- what is reserved is forgotten -/
theorem Rel.forget {x : Addr × HO} {R : List (Addr × HO)} (r : Rel P w K W σ H) (hR : W.R = x :: R) : Rel P w K (W.free R) σ H :=
  ⟨r.sub, r.len, fun n c e => (r.cell n c e).mono0 le0_rewr fun _ z => z, r.sep, r.inj, fun a o q => r.res a o (by rw [hR]; exact List.mem_cons_of_mem _ q), by
    have := r.one
    rw [hR, List.map_cons, List.nodup_cons] at this
    exact this.2⟩
theorem EnvR.mono0 {W1 : Wd} {ρ : Env} {st : L2.St} (le : Le0 W W1) (h : EnvR P w K W ρ st) : EnvR P w K W1 ρ st :=
  ⟨h.1, fun i d e => let ⟨v, a, b⟩ := h.2 i d e; ⟨v, a, b.mono0 le⟩⟩
theorem ExcR.mono0 {ea : Exa} {W1 : Wd} {c : Nat} {d : D} {cls : Value} {dx : Option Addr} (le : Le0 W W1) (h : ExcR P w K ea W c d cls dx H) : ExcR P w K ea W1 c d cls dx H := by
  obtain ⟨C, h1, h2, h3⟩ := h
  refine ⟨C, h1, h2, ?_⟩
  cases e : ea.fld c with
  | none => rw [e] at h3; exact h3
  | some f =>
    rw [e] at h3
    obtain ⟨a, v, g1, g2, g3⟩ := h3
    exact ⟨a, v, g1, g2, g3.mono0 le⟩
theorem EnvR.wiped {ρ : Env} {st : L2.St} (h : EnvR P w K W ρ st) : ∀ own : List Nat, EnvR P w K W (wipeE ρ own) (L2.wipe st own)
  | [] => h
  | v :: vs => by
    have ih := EnvR.wiped h vs
    refine ⟨by unfold wipeE L2.wipe; rw [List.length_set, List.length_set]; exact ih.1, fun i d e => ?_⟩
    unfold wipeE at e
    rcases get_set e with ⟨_, z⟩ | ⟨hi, e⟩
    · cases z
    · obtain ⟨u, h1, h2⟩ := ih.2 i d e
      refine ⟨u, ?_, h2⟩
      unfold L2.wipe
      rw [List.getElem?_set_ne (Ne.symm hi)]; exact h1
end
section
variable {X : Cx} {g : Sg} {N : List Str} {Φ : CallSem} {ea : Exa} {k : Nat} {Wx : WX} {sc : Scope} {pos p2 : Pos}
/-! dict displays -/
def trsOf (X : Cx) (Φ : CallSem) (ea : Exa) (Wx : WX) : List Ex → List (TE × TE)
  | k :: v :: r => (Te X Φ ea Wx k, Te X Φ ea Wx v) :: trsOf X Φ ea Wx r
  | _ => []
def flat : List (V × V) → List V
  | [] => []
  | p :: r => p.1 :: p.2 :: flat r
def evenP : List Ex → Bool
  | [] => true
  | k :: v :: r => !k.isStar && !v.isStar && evenP r
  | _ => false
theorem posts_mono {W : Wd} {st : L2.St} {r : Res (List D)} {Q Q' : List V → Hp → Prop} (h : Posts X.prog X.w X.K ea Wx st W r Q) (i : ∀ v H, Q v H → Q' v H) : Posts X.prog X.w X.K ea Wx st W r Q' := by
  cases r with
  | ok d σ => exact fun W' v H l r rd => i _ _ (h W' v H l r rd)
  | exc c d σ => exact h
  | bad => exact h
theorem tPairs_of : ∀ {kvs : List Ex} {st : L2.St} {W : Wd} {ρ : Env} {σ : Store} {H : Hp} {QQ : List (V × V) → Hp → Prop}, evenP kvs = true → EnvR X.prog X.w X.K W ρ st → Rel X.prog X.w X.K W σ H →
    Posts X.prog X.w X.K ea Wx st W (evs Φ kvs ρ σ) (fun vs H => ∀ ps, flat ps = vs → QQ ps H) → tPairs (trsOf X Φ ea Wx kvs) st H QQ
  | [], st, W, ρ, σ, H, QQ, _, hρ, hσ, h => by
    unfold evs at h
    exact h W [] H (Le.refl W) hσ Reps.nil [] rfl
  | [_], _, _, _, _, _, _, he, _, _, _ => by cases he
  | k :: v :: r, st, W, ρ, σ, H, QQ, he, hρ, hσ, h => by
    unfold evenP at he
    simp only [Bool.and_eq_true, Bool.not_eq_true'] at he
    obtain ⟨⟨e1, e2⟩, e3⟩ := he
    rw [evs_cons e1] at h
    refine tE.bindA hρ hσ h fun x σ1 W1 vx H1 le1 hσ1 r1 h1 => ?_
    have h1 := posts_cons r1 h1
    rw [evs_cons e2] at h1
    refine tE.bindA (hρ.mono le1) hσ1 h1 fun y σ2 W2 vy H2 le2 hσ2 r2 h2 => ?_
    have h2 := posts_cons r2 h2
    exact tPairs_of e3 ((hρ.mono le1).mono le2) hσ2 (posts_mono h2 fun vs H q ps e => q ((vx, vy) :: ps) (by rw [← e]; rfl))
theorem pairUp_reps {W : Wd} : ∀ {ds : List D} {ps : List (V × V)} {kd : List (Key × D)}, Reps X.prog X.w X.K W ds (flat ps) → pairUp ds = some kd → ∃ kv : List (Key × V), ps = kv.map (fun p => (kV p.1, p.2)) ∧ KR X.prog X.w X.K W kd kv
  | ds, [], kd, r, h => by
    have : ds = [] := by have := r.length; simpa [flat] using this
    subst this
    simp only [pairUp, Option.some.injEq] at h
    subst h
    exact ⟨[], rfl, .nil⟩
  | [], p :: ps, kd, r, h => by have := r.length; simp [flat] at this
  | [_], p :: ps, kd, r, h => by have := r.length; simp [flat] at this
  | d1 :: d2 :: ds, p :: ps, kd, r, h => by
    have r : Reps X.prog X.w X.K W (d1 :: d2 :: ds) (p.1 :: p.2 :: flat ps) := r
    obtain ⟨r1, r⟩ := Reps.cons_iff.mp r
    obtain ⟨r2, r⟩ := Reps.cons_iff.mp r
    unfold pairUp at h
    split at h
    · rename_i key hk
      rw [Option.map_eq_some_iff] at h
      obtain ⟨t, h, rfl⟩ := h
      obtain ⟨kv, e1, e2⟩ := pairUp_reps r h
      refine ⟨(key, p.2) :: kv, ?_, .cons ⟨rfl, r2⟩ e2⟩
      rw [e1, List.map_cons, ← r1.key hk]
    · cases h
theorem KR.length {P : Program} {w : World} {K : PySem.W.Frag} {W : Wd} {a : List (Key × D)} {b : List (Key × V)} (h : KR P w K W a b) : a.length = b.length := by
  induction h with
  | nil => rfl
  | cons _ _ ih => exact congrArg (· + 1) ih
/-- what a dict, a list under the making becomes -/
theorem Post.newD0 {mu : Bool} {ks : List Key} {xs : List D} {vs : List V} {Q : VK} {st : L2.St} {W W' : Wd} {σ : Store} {H : Hp} {p : Addr} {R : List (Addr × HO)} (h : Post X.prog X.w X.K ea Wx st W (Iv.newD mu ks xs σ) Q) (l0 : Le0 W W') (hR0 : W.R = R) (hσ : Rel X.prog X.w X.K W' σ H) (hR : W'.R = (p, .dK (ks.zip vs)) :: R) (r : Reps X.prog X.w X.K W' xs vs) (hl : ks.length = vs.length) : Q (.ref p) H := by
  unfold Iv.newD at h
  cases mu with
  | false =>
    obtain ⟨W2, l2, e2, r2, f2⟩ := hσ.fin hR
    refine h W2 _ _ ⟨l0.trans l2, by rw [e2, hR0]⟩ r2 ?_
    simp only [Rep]
    exact ⟨p, vs, rfl, f2, hl, r.mono0 l2⟩
  | true =>
    obtain ⟨W2, l2, e2, r2, f2, f3⟩ := hσ.finC (c := .dic ks xs) hR ⟨vs, (hσ.res p _ (by rw [hR]; exact List.mem_cons_self)).1, hl, r⟩
    refine h W2 _ _ ⟨l0.trans l2, by rw [e2, hR0]⟩ r2 ?_
    simp only [Rep]
    exact ⟨f2, by rw [f3]⟩
theorem Post.newL0 {mu : Bool} {xs : List D} {vs : List V} {Q : VK} {st : L2.St} {W W' : Wd} {σ : Store} {H : Hp} {p : Addr} {R : List (Addr × HO)} (h : Post X.prog X.w X.K ea Wx st W (Iv.newL mu xs σ) Q) (l0 : Le0 W W') (hR0 : W.R = R) (hσ : Rel X.prog X.w X.K W' σ H) (hR : W'.R = (p, .lst vs) :: R) (r : Reps X.prog X.w X.K W' xs vs) : Q (.ref p) H := by
  unfold Iv.newL at h
  split at h
  · cases mu with
    | false =>
      obtain ⟨W2, l2, e2, r2, f2⟩ := hσ.fin hR
      refine h W2 _ _ ⟨l0.trans l2, by rw [e2, hR0]⟩ r2 ?_
      simp only [Rep]
      exact ⟨p, vs, rfl, f2, r.mono0 l2⟩
    | true =>
      obtain ⟨W2, l2, e2, r2, f2, f3⟩ := hσ.finC (c := .lst xs) hR ⟨vs, (hσ.res p _ (by rw [hR]; exact List.mem_cons_self)).1, r⟩
      refine h W2 _ _ ⟨l0.trans l2, by rw [e2, hR0]⟩ r2 ?_
      simp only [Rep]
      exact ⟨f2, by rw [f3]⟩
  · exact False.elim h
theorem ad_dic {mu : Bool} {ks : List (Option Expr)} {vs : List Expr} {kvs : List Ex} (hp : PPs X pos ks vs (trsOf X Φ ea Wx kvs)) (hall : ks.all (·.isSome) = true) (hl : ks.length = vs.length) (h15 : ks.length ≤ 15) (he : evenP kvs = true) (h0 : ks = [] → kvs = []) :
    PE X (.Dict ks vs pos) (Te X Φ ea Wx (.dic mu kvs)) := by
  cases ks with
  | nil =>
    have := h0 rfl
    subst this
    cases vs with
    | cons _ _ => simp at hl
    | nil =>
      refine pe_dnewK.imp ?_
      rintro st H Q ⟨W, ρ, σ, hρ, hσ, h⟩
      unfold ev evs at h
      exact Post.newD (ks := []) (xs := []) (vs := []) h hσ Reps.nil rfl
  | cons k0 ks =>
    refine (pe_disp hp hall hl (by simp) h15).imp ?_
    rintro st H Q ⟨W, ρ, σ, hρ, hσ, h⟩ p hp
    unfold ev at h
    refine tPairs_of he (hρ.mono0 (le0_rewr (R := (p, .dK []) :: W.R))) (hσ.resv hp) ?_
    cases e : evs Φ kvs ρ σ with
    | ok ds σ1 =>
      rw [e] at h
      intro W' us H2 le r q ps hps
      have hR : W'.R = (p, .dK []) :: W.R := le.R
      refine ⟨(r.res p _ (by rw [hR]; exact List.mem_cons_self)).1, ?_⟩
      have h : Post X.prog X.w X.K ea Wx st W (match pairUp ds with
        | some kvs => if kvs.length ≤ 15 then newD mu ((mergeD [] kvs).map (·.1)) ((mergeD [] kvs).map (·.2)) σ1 else .bad
        | none => .bad) Q := h
      subst hps
      cases e2 : pairUp ds with
      | none => rw [e2] at h; exact False.elim h
      | some kd =>
        rw [e2] at h
        have h : Post X.prog X.w X.K ea Wx st W (if kd.length ≤ 15 then newD mu ((mergeD [] kd).map (·.1)) ((mergeD [] kd).map (·.2)) σ1 else .bad) Q := h
        split at h
        · rename_i h15'
          obtain ⟨kv, e3, e4⟩ := pairUp_reps q e2
          refine ⟨kv, e3, by rw [← e4.length]; exact h15', ?_⟩
          obtain ⟨f1, f2, f3⟩ := (e4.merge (a := []) (b := []) .nil).parts
          have l0 : Le0 W W' := (le0_rewr (W := W) (R := (p, .dK []) :: W.R)).trans le.toLe0
          refine Post.newD0 (W' := W'.free ((p, .dK (mergeK [] kv)) :: W.R)) (R := W.R) h (l0.trans le0_rewr) rfl (r.rewr hR) ?_ (f3.mono0 le0_rewr) f2
          rw [← f1]; rfl
        · exact False.elim h
    | exc c d σ1 =>
      rw [e] at h
      intro W' H2 cls dx le r q
      have hR : W'.R = (p, .dK []) :: W.R := le.R
      exact h (W'.free W.R) H2 cls dx ⟨((le0_rewr (W := W) (R := (p, .dK []) :: W.R)).trans le.toLe0).trans le0_rewr, rfl⟩ (r.forget hR) (q.mono0 le0_rewr)
    | bad => rw [e] at h; exact h
/-! what is walked -/
def ItOk (P : Program) (w : World) (K : PySem.W.Frag) (W : Wd) (xs : List D) (J : It) : Prop :=
  (∀ i H, (∀ a o, W.F a = some o → H a = some o) → xs.length ≤ i → J.stop i H) ∧ (∀ i H, (∀ a o, W.F a = some o → H a = some o) → i < xs.length → J.go i H) ∧
  (∀ i W1 σ1 H x H', Le0 W W1 → Rel P w K W1 σ1 H → i < xs.length → J.yld i H x H' → ∃ W2 d, Le W1 W2 ∧ Rel P w K W2 σ1 H' ∧ xs[i]? = some d ∧ Rep P w K W2 d x)
def tI (X : Cx) (Φ : CallSem) (ea : Exa) (Wx : WX) (kd : IK) (its : List Ex) : TI := fun st H R => ∃ W ρ σ, EnvR X.prog X.w X.K W ρ st ∧ Rel X.prog X.w X.K W σ H ∧ match evs Φ its ρ σ with
  | .ok ds σ' => ∃ xs, itemsOf σ' kd ds = some xs ∧ ∀ W' H' J, Le W W' → Rel X.prog X.w X.K W' σ' H' → ItOk X.prog X.w X.K W' xs J → R J H'
  | .exc c d σ' => ∀ W' H cls dx, Le W W' → Rel X.prog X.w X.K W' σ' H → ExcR X.prog X.w X.K ea W' c d cls dx H → Wx cls dx st H
  | .bad => False
theorem itok_get {P : Program} {w : World} {K : PySem.W.Frag} {W : Wd} {xs : List D} {vs : List V} (q : Reps P w K W xs vs) {i : Nat} (hi : i < xs.length) {x : V} (hx : vs[i]? = some x) : ∃ d, xs[i]? = some d ∧ Rep P w K W d x := by
  have hd : xs[i]? = some xs[i] := List.getElem?_eq_getElem hi
  obtain ⟨v, h1, h2⟩ := q.get hd
  rw [hx] at h1
  cases h1
  exact ⟨_, hd, h2⟩
theorem itok_list {P : Program} {w : World} {K : PySem.W.Frag} {W : Wd} {xs : List D} {vs : List V} {a : Addr} (s : SqL K W.F a vs) (q : Reps P w K W xs vs) : ItOk P w K W xs (Itl K a) := by
  have l := q.length
  refine ⟨fun i H sub hi => ⟨vs, sqL_ext sub s, by omega⟩, fun i H sub hi => ⟨vs, vs[i]'(by omega), sqL_ext sub s, List.getElem?_eq_getElem (by omega)⟩, fun i W1 σ1 H x H' le r hi y => ?_⟩
  obtain ⟨rfl, y⟩ := y
  obtain ⟨d, h1, h2⟩ := itok_get q hi (y vs (sqL_ext (fun a o e => r.sub a o (le.F a o e)) s))
  exact ⟨W1, d, Le.refl _, r, h1, h2.mono0 le⟩
theorem itok_tup {P : Program} {w : World} {K : PySem.W.Frag} {W : Wd} {xs : List D} {vs : List V} {a : Addr} (s : SqT K W.F a vs) (q : Reps P w K W xs vs) : ItOk P w K W xs (Itt K a) := by
  have l := q.length
  refine ⟨fun i H sub hi => ⟨vs, sqT_ext sub s, by omega⟩, fun i H sub hi => ⟨vs, vs[i]'(by omega), sqT_ext sub s, List.getElem?_eq_getElem (by omega)⟩, fun i W1 σ1 H x H' le r hi y => ?_⟩
  obtain ⟨rfl, y⟩ := y
  obtain ⟨d, h1, h2⟩ := itok_get q hi (y vs (sqT_ext (fun a o e => r.sub a o (le.F a o e)) s))
  exact ⟨W1, d, Le.refl _, r, h1, h2.mono0 le⟩
theorem itok_rng {P : Program} {w : World} {K : PySem.W.Frag} {W : Wd} {lo : Int} {n : Nat} : ItOk P w K W ((List.range n).map fun (i : Nat) => D.int (lo + (i : Int))) (Itr lo n) := by
  refine ⟨fun i H sub hi => by show n ≤ i; simpa using hi, fun i H sub hi => by show i < n; simpa using hi, fun i W1 σ1 H x H' le r hi y => ?_⟩
  obtain ⟨rfl, y⟩ := y
  refine ⟨W1, .int (lo + i), Le.refl _, r, ?_, ?_⟩
  · rw [List.getElem?_map, List.getElem?_range (by simpa using hi)]; rfl
  · simp only [Rep]; exact y
theorem itok_str {P : Program} {w : World} {K : PySem.W.Frag} {W : Wd} {x : Str} : ItOk P w K W (x.cps.toList.map fun c => D.str ⟨#[c]⟩) (Its x) := by
  refine ⟨fun i H sub hi => by show x.cps.size ≤ i; simpa using hi, fun i H sub hi => by show i < x.cps.size; simpa using hi, fun i W1 σ1 H v H' le r hi y => ?_⟩
  obtain ⟨rfl, c, hc, rfl⟩ := y
  refine ⟨W1, .str ⟨#[c]⟩, Le.refl _, r, ?_, by simp only [Rep]⟩
  rw [List.getElem?_map, Array.getElem?_toList, hc]; rfl
theorem pi_on {tg e : Expr} {e' : Ex} (hs : e'.isStar = false) (he : PE X e (Te X Φ ea Wx e')) : PI X tg e (tI X Φ ea Wx .on [e']) := by
  refine ⟨fun pins s st H R I q => ?_⟩
  obtain ⟨W, ρ, σ, hρ, hσ, h⟩ := q
  rw [evs_cons hs] at h
  cases e1 : ev Φ e' ρ σ with
  | ok d σ1 =>
    rw [e1] at h
    have h : ∃ xs, itemsOf σ1 .on [d] = some xs ∧ ∀ W' H' J, Le W W' → Rel X.prog X.w X.K W' σ1 H' → ItOk X.prog X.w X.K W' xs J → R J H' := by
      unfold evs at h; exact h
    obtain ⟨xs, hi, hq⟩ := h
    cases d with
    | lst ys =>
      cases hi
      refine (pi_list he).run pins s st H R I ⟨W, ρ, σ, hρ, hσ, ?_⟩
      rw [e1]
      intro W' v H' le r rd
      simp only [Rep] at rd
      obtain ⟨a, vs, rfl, s1, q⟩ := rd
      exact ⟨a, rfl, ⟨vs, SqL.of (r.sub _ _ s1)⟩, hq W' H' _ le r (itok_list (SqL.of s1) q)⟩
    | ro ys =>
      cases hi
      refine (pi_list he).run pins s st H R I ⟨W, ρ, σ, hρ, hσ, ?_⟩
      rw [e1]
      intro W' v H' le r rd
      simp only [Rep] at rd
      obtain ⟨a, vs, rfl, s1, q⟩ := rd
      exact ⟨a, rfl, ⟨vs, sqL_ext r.sub s1⟩, hq W' H' _ le r (itok_list s1 q)⟩
    | tup ys =>
      cases hi
      refine (pi_tup he).run pins s st H R I ⟨W, ρ, σ, hρ, hσ, ?_⟩
      rw [e1]
      intro W' v H' le r rd
      simp only [Rep] at rd
      obtain ⟨a, vs, rfl, s1, q⟩ := rd
      exact ⟨a, rfl, ⟨vs, sqT_ext r.sub s1⟩, hq W' H' _ le r (itok_tup s1 q)⟩
    | str x =>
      cases hi
      refine (pi_str he).run pins s st H R I ⟨W, ρ, σ, hρ, hσ, ?_⟩
      rw [e1]
      intro W' v H' le r rd
      simp only [Rep] at rd
      exact ⟨x, rd, hq W' H' _ le r itok_str⟩
    | _ => cases hi
  | exc c d σ1 =>
    rw [e1] at h
    exact (pi_list he).run pins s st H R I ⟨W, ρ, σ, hρ, hσ, by rw [e1]; exact h⟩
  | bad => rw [e1] at h; exact False.elim h
theorem itemsOf_rng {σ : Store} {ds xs : List D} (h : itemsOf σ .rng ds = some xs) : ∃ n : Int, ds = [.int n] ∧ (n < 2 ^ 62 ∧ -(2 ^ 62) ≤ n) ∧ xs = (List.range n.toNat).map fun (i : Nat) => D.int (i : Int) := by
  cases ds with
  | nil => cases h
  | cons d r =>
    cases r with
    | cons e r => cases d <;> cases h
    | nil =>
      cases d with
      | int n =>
        have h : (if n < 2 ^ 62 ∧ -(2 ^ 62) ≤ n then some ((List.range n.toNat).map fun (i : Nat) => D.int (i : Int)) else none) = some xs := h
        split at h
        · rename_i hb
          injection h with h
          exact ⟨n, rfl, hb, h.symm⟩
        · cases h
      | _ => cases h
theorem itemsOf_rng2 {σ : Store} {ds xs : List D} (h : itemsOf σ .rng2 ds = some xs) : ∃ a b : Int, ds = [.int a, .int b] ∧ (-(2 ^ 62) ≤ a ∧ a < 2 ^ 62 ∧ -(2 ^ 62) ≤ b ∧ b < 2 ^ 62) ∧ xs = (List.range (b - a).toNat).map fun (i : Nat) => D.int (a + (i : Int)) := by
  cases ds with
  | nil => cases h
  | cons d r =>
    cases r with
    | nil => cases d <;> cases h
    | cons e r =>
      cases r with
      | cons _ _ => cases d <;> cases e <;> cases h
      | nil =>
        cases d with
        | int a =>
          cases e with
          | int b =>
            have h : (if -(2 ^ 62) ≤ a ∧ a < 2 ^ 62 ∧ -(2 ^ 62) ≤ b ∧ b < 2 ^ 62 then some ((List.range (b - a).toNat).map fun (i : Nat) => D.int (a + (i : Int))) else none) = some xs := h
            split at h
            · rename_i hb
              injection h with h
              exact ⟨a, b, rfl, hb, h.symm⟩
            · cases h
          | _ => cases h
        | _ => cases e <;> cases h
theorem pi_rng (C : Pc X g N Φ ea k Wx sc) {tg a : Expr} {a' : Ex} {p : Pos} (hg : gloC sc "range" = true) (hn : noStar [a] = true) (hs : a'.isStar = false) (ha : PE X a (Te X Φ ea Wx a')) : PI X tg (.Call (.Name "range" p) [a] [] pos) (tI X Φ ea Wx .rng [a']) := by
  refine ⟨fun pins s st H R I q => (pi_range1 (C.gl hg) (C.blt _ (by decide +kernel)) (ada_cons hn hs ha ada_nil) (starEach_ns hn)).run pins s st H R I ?_⟩
  obtain ⟨W, ρ, σ, hρ, hσ, h⟩ := q
  refine ⟨W, ρ, σ, hρ, hσ, ?_⟩
  cases e1 : evs Φ [a'] ρ σ with
  | ok ds σ1 =>
    rw [e1] at h
    obtain ⟨xs, hi, h⟩ := h
    obtain ⟨n, rfl, hb, rfl⟩ := itemsOf_rng hi
    intro W' vs H' le r rd
    obtain ⟨v, rfl, rv⟩ := one_reps rd
    simp only [Rep] at rv
    subst rv
    refine ⟨n, rfl, hb.2, hb.1, h W' H' _ le r ?_⟩
    have := itok_rng (P := X.prog) (w := X.w) (K := X.K) (W := W') (lo := 0) (n := n.toNat)
    simpa only [Int.zero_add] using this
  | exc c d σ1 => rw [e1] at h; exact h
  | bad => rw [e1] at h; exact h
theorem pi_rng2 (C : Pc X g N Φ ea k Wx sc) {tg a b : Expr} {a' b' : Ex} {p : Pos} (hg : gloC sc "range" = true) (hn : noStar [a, b] = true) (hs : a'.isStar = false) (hs2 : b'.isStar = false) (ha : PE X a (Te X Φ ea Wx a')) (hb : PE X b (Te X Φ ea Wx b')) : PI X tg (.Call (.Name "range" p) [a, b] [] pos) (tI X Φ ea Wx .rng2 [a', b']) := by
  obtain ⟨n1, n2⟩ := noStar_cons hn
  have s2 : starEach [b] X.env = [(false, eval b X.env)] := starEach_ns n2
  refine ⟨fun pins s st H R I q => (pi_range2 (C.gl hg) (C.blt _ (by decide +kernel)) (ada_cons n1 hs ha (ada_cons n2 hs2 hb ada_nil)) (by rw [starEach_ns n1, s2]) s2).run pins s st H R I ?_⟩
  obtain ⟨W, ρ, σ, hρ, hσ, h⟩ := q
  refine ⟨W, ρ, σ, hρ, hσ, ?_⟩
  cases e1 : evs Φ [a', b'] ρ σ with
  | ok ds σ1 =>
    rw [e1] at h
    obtain ⟨xs, hi, h⟩ := h
    obtain ⟨lo, hi2, rfl, hb, rfl⟩ := itemsOf_rng2 hi
    intro W' vs H' le r rd
    obtain ⟨v, u, rfl, rv, ru⟩ := two_reps rd
    simp only [Rep] at rv ru
    subst rv ru
    exact ⟨lo, hi2, rfl, hb, h W' H' _ le r itok_rng⟩
  | exc c d σ1 => rw [e1] at h; exact h
  | bad => rw [e1] at h; exact h
end
end Iv

set_option Elab.async false
set_option linter.all false
set_option maxHeartbeats 8000000
set_option maxRecDepth 4000
/-! adequacy: comprehensions, all expressions -/
namespace Iv
open PySem PySem.Spec L2
section
variable {X : Cx} {g : Sg} {N : List Str} {Φ : CallSem} {ea : Exa} {k : Nat} {Wx : WX} {sc : Scope} {pos p2 : Pos}
abbrev W0 : WX := fun _ _ _ _ => False
theorem ownP_snd {N : List Str} (own : List Nat) : (ownP N own).map (·.2) = own := by
  unfold ownP
  rw [List.map_map]
  show own.map (fun i => i) = own
  simp
theorem wipe_twice {st : L2.St} {own : List Nat} : wipe (wipe st own) own = wipe st own := by
  apply List.ext_getElem?
  intro j
  rw [wipe_get, wipe_get, wipe_length]
  split <;> rfl
theorem le0_of_sub {P : Program} {w : World} {K : PySem.W.Frag} {W W1 : Wd} {σ : Store} {H : Hp} (l : Le0 W W1) (r : Rel P w K W1 σ H) : ∀ a o, W.F a = some o → H a = some o := fun a o e => r.sub a o (l.F a o e)
theorem ad_comp (C : Pc X g N Φ ea k Wx sc) {elt tg iter : Expr} {ifs : List Expr} {scope : Scope} {own : List Nat} {t : Tg} {kd : IK} {its : List Ex} {c' elt' : Ex} {mu : Bool} (hb : blkC N sc scope (ownP N own) = true) (hi : PI X tg iter (tI X Φ ea Wx kd its))
    (htg : chkT N scope tg t = true) (hin : tgIn own t = true)
    (ht : ∀ (s : Shared) (H : Hp) (L : Addr) (cl : List (Str × Addr)) (fp : List Addr), PTs (X.blk s H scope (compEnvC scope cl L X.env) fp) ifs (tT X.prog X.w X.K ea W0 (ev Φ c')))
    (he : ∀ (s : Shared) (H : Hp) (L : Addr) (cl : List (Str × Addr)) (fp : List Addr), PE (X.blk s H scope (compEnvC scope cl L X.env) fp) elt (tE X.prog X.w X.K ea W0 (ev Φ elt')))
    (hset : ∀ x, foldedSetIterable iter X.env x = pure x) {u : TE → Prop}
    (fin : (BlkOk X.N X.env.scope scope (ownP N own)) → (∀ (s : Shared) (H : Hp) (L : Addr) (cl : List (Str × Addr)) (fp : List Addr), PG (X.blk s H scope (compEnvC scope cl L X.env) fp) tg (gT t X.prog X.w X.K)) → u (tLc (tI X Φ ea Wx kd its) (gT t X.prog X.w X.K) (tT X.prog X.w X.K ea W0 (ev Φ c')) (tE X.prog X.w X.K ea W0 (ev Φ elt')) ((ownP N own).map (·.2)))) :
    u (tLc (tI X Φ ea Wx kd its) (gT t X.prog X.w X.K) (tT X.prog X.w X.K ea W0 (ev Φ c')) (tE X.prog X.w X.K ea W0 (ev Φ elt')) own) ∧
    ∀ st H Q, Te X Φ ea Wx (.comp mu own t kd its c' elt') st H Q → tLc (tI X Φ ea Wx kd its) (gT t X.prog X.w X.K) (tT X.prog X.w X.K ea W0 (ev Φ c')) (tE X.prog X.w X.K ea W0 (ev Φ elt')) own st H Q := by
  constructor
  · have hbo : BlkOk X.N X.env.scope scope (ownP N own) := by rw [C.hN, C.hsc]; exact blkOk_by hb
    have := fin hbo fun s H L cl fp => pg_all (X := X.blk s H scope (compEnvC scope cl L X.env) fp) C.pl.calm C.hN C.nd (fun x h => blk_loc h) htg
    rw [ownP_snd] at this
    exact this
  rintro st H Q ⟨W, ρ, σ, hρ, hσ, h⟩
  unfold ev at h
  refine ⟨W, ρ, σ, hρ, hσ, ?_⟩
  cases e1 : evs Φ its ρ σ with
  | bad => rw [e1] at h; exact h
  | exc c d σ1 => rw [e1] at h; exact h
  | ok ds σ1 =>
    rw [e1] at h
    have h : Post X.prog X.w X.K ea Wx st W (match itemsOf σ1 kd ds with
      | some xs => (compL t (ev Φ c') (ev Φ elt') (wipeE ρ own) xs [] σ1).bind fun ys σ2 => newL mu ys σ2
      | none => .bad) Q := h
    cases e2 : itemsOf σ1 kd ds with
    | none => rw [e2] at h; exact False.elim h
    | some xs =>
      rw [e2] at h
      have h : Post X.prog X.w X.K ea Wx st W ((compL t (ev Φ c') (ev Φ elt') (wipeE ρ own) xs [] σ1).bind fun ys σ2 => newL mu ys σ2) Q := h
      refine ⟨xs, e2, fun W' H1 J le hσ1 ⟨i1, i2, i3⟩ D hD => ?_⟩
      have h := Post.mono le h
      have hρ1 : EnvR X.prog X.w X.K W' (wipeE ρ own) (wipe st own) := (hρ.mono le).wiped own
      refine ⟨fun i m H => m = xs.length - i ∧ i ≤ xs.length ∧ ∃ Wc σc acc av, Le0 W' Wc ∧ Wc.R = (D, .lst av) :: W'.R ∧ Rel X.prog X.w X.K Wc σc H ∧ Reps X.prog X.w X.K Wc acc av ∧
        Post X.prog X.w X.K ea Wx st W' ((compL t (ev Φ c') (ev Φ elt') (wipeE ρ own) (xs.drop i) acc σc).bind fun ys σ2 => newL mu ys σ2) Q, ?_, ?_⟩
      · exact ⟨xs.length, by simp, Nat.zero_le _, W'.resv D (.lst []), σ1, [], [], le0_rewr, rfl, hσ1.resv hD, Reps.nil, by rw [List.drop_zero]; exact h⟩
      · rintro i m H2 ⟨rfl, hi, Wc, σc, acc, av, l0, hR, r2, ra, hp⟩
        by_cases hlt : i < xs.length
        · refine .inr ⟨i2 i H2 (le0_of_sub l0 r2) hlt, fun H' => i + 1 ≤ xs.length ∧ ∃ Wc σc acc av, Le0 W' Wc ∧ Wc.R = (D, .lst av) :: W'.R ∧ Rel X.prog X.w X.K Wc σc H' ∧ Reps X.prog X.w X.K Wc acc av ∧
            Post X.prog X.w X.K ea Wx st W' ((compL t (ev Φ c') (ev Φ elt') (wipeE ρ own) (xs.drop (i + 1)) acc σc).bind fun ys σ2 => newL mu ys σ2) Q, fun H' ⟨a1, a2⟩ => ⟨xs.length - (i + 1), by omega, rfl, a1, a2⟩, fun x H3 y => ?_⟩
          obtain ⟨Wd1, d, le3, r3, hd, rd⟩ := i3 i Wc σc H2 x H3 l0 r2 hlt y
          have edrop : xs.drop i = d :: xs.drop (i + 1) := by
            rw [List.drop_eq_getElem_cons hlt]
            rw [List.getElem?_eq_getElem hlt] at hd
            cases hd; rfl
          rw [edrop] at hp
          have l03 : Le0 W' Wd1 := l0.trans le3.toLe0
          cases e3 : tgD t d (wipeE ρ own) with
          | none => unfold compL at hp; rw [e3] at hp; exact False.elim hp
          | some ρ2 =>
            refine ⟨Wd1, wipeE ρ own, σc, d, hρ1.mono0 l03, r3, rd, ρ2, e3, fun st2 hρ2 hsame => ⟨(hsame own hin).trans wipe_twice, ?_⟩⟩
            refine ⟨Wd1, ρ2, σc, hρ2, r3, ?_⟩
            unfold compL at hp
            rw [e3] at hp
            dsimp only at hp
            cases e4 : ev Φ c' ρ2 σc with
            | bad => rw [e4] at hp; exact False.elim hp
            | exc _ _ _ => rw [e4] at hp; exact False.elim hp
            | ok b σ3 =>
              rw [e4] at hp
              dsimp only at hp
              cases e5 : truthD (view σ3 b) with
              | none => rw [e5] at hp; exact False.elim hp
              | some tr =>
                rw [e5] at hp
                refine ⟨tr, e5, fun W4 H4 le4 r4 => ?_⟩
                have hR4 : W4.R = (D, .lst av) :: W'.R := le4.R.trans (le3.R.trans hR)
                cases tr with
                | false =>
                  dsimp only at hp
                  dsimp only
                  rw [if_neg (by decide)]
                  exact ⟨hlt, W4, σ3, acc, av, l03.trans le4.toLe0, hR4, r4, (ra.mono le3).mono le4, hp⟩
                | true =>
                  dsimp only at hp
                  dsimp only
                  rw [if_pos rfl]
                  refine ⟨W4, ρ2, σ3, hρ2.mono le4, r4, ?_⟩
                  cases e6 : ev Φ elt' ρ2 σ3 with
                  | bad => rw [e6] at hp; exact False.elim hp
                  | exc _ _ _ => rw [e6] at hp; exact False.elim hp
                  | ok v σ4 =>
                    rw [e6] at hp
                    dsimp only at hp
                    intro W5 y5 H5 le5 r5 rv
                    have hR5 : W5.R = (D, .lst av) :: W'.R := le5.R.trans hR4
                    have ra5 : Reps X.prog X.w X.K W5 acc av := ((ra.mono le3).mono le4).mono le5
                    split at hp
                    · rename_i hl
                      refine ⟨av, (r5.res D _ (by rw [hR5]; exact List.mem_cons_self)).1, by rw [← ra5.length, ← lim_eq]; exact hl, hlt, ?_⟩
                      exact ⟨W5.free ((D, .lst (av ++ [y5])) :: W'.R), σ4, acc ++ [v], av ++ [y5], ((l03.trans le4.toLe0).trans le5.toLe0).trans le0_rewr, rfl, r5.rewr hR5, (ra5.append (Reps.one rv)).mono0 le0_rewr, hp⟩
                    · exact False.elim hp
        · have e : i = xs.length := by omega
          subst e
          rw [List.drop_length] at hp
          unfold compL at hp
          refine .inl ⟨i1 _ H2 (le0_of_sub l0 r2) (Nat.le_refl _), ?_⟩
          have hp : Post X.prog X.w X.K ea Wx st W' (newL mu acc σc) Q := hp
          exact hp.newL0 l0 rfl r2 hR ra
/-- a part of a slice that is written -/
theorem ado_any {a : Expr} {a' : Ex} (ha : PE X a (Te X Φ ea Wx a')) : PO X (some a) (To X Φ ea Wx a') := by
  refine ⟨fun pins s st H Q I q => ?_⟩
  obtain ⟨W, ρ, σ, hρ, hσ, h⟩ := q
  rw [evalPart_some]
  refine thn (ha.run pins s st H (fun v H1 => ∃ o, ((v = .non ∧ o = none) ∨ ∃ i, v = .int i ∧ o = some i) ∧ Q o H1) I ⟨W, ρ, σ, hρ, hσ, ?_⟩) fun u s1 ⟨x, H1, I1, r1, o, hx, q1⟩ => ?_
  · cases e : ev Φ a' ρ σ with
    | ok d σ1 =>
      rw [e] at h
      obtain ⟨o, e2, h⟩ := h
      intro W' v H' le r rd
      refine ⟨o, ?_, h W' H' le r⟩
      cases d with
      | non => cases e2; simp only [Rep] at rd; exact .inl ⟨rd, rfl⟩
      | int i => cases e2; simp only [Rep] at rd; exact .inr ⟨i, rd, rfl⟩
      | _ => cases e2
    | exc c d σ1 => rw [e] at h; exact h
    | bad => rw [e] at h; exact h
  · rcases hx with ⟨rfl, rfl⟩ | ⟨i, rfl, rfl⟩
    · cases r1
      exact ⟨none, H1, I1, .none, q1⟩
    · obtain ⟨t, rfl⟩ := r1
      exact ⟨some i, H1, I1, .int i t, q1⟩
end
end Iv

set_option Elab.async false
set_option linter.all false
set_option maxHeartbeats 16000000
set_option maxRecDepth 8000
/-! adequacy: all expressions -/
namespace Iv
open PySem PySem.Spec L2
structure AdE (g : Sg) (N : List Str) (Φ : CallSem) (ea : Exa) (k n : Nat) : Prop where
  fE : ∀ {X : Cx} {Wx : WX} {sc : Scope}, Pc X g N Φ ea k Wx sc → ∀ {a : Expr} {a' : Ex}, chkE g N n sc a a' = true → PE X a (Te X Φ ea Wx a') ∧ PT X a (Tt X Φ ea Wx a')
  fW : ∀ {X : Cx} {Wx : WX} {sc : Scope}, Pc X g N Φ ea k Wx sc → ∀ {op : BoolOp} {vs : List Expr} {p : Pos} {a' : Ex}, chkE g N n sc (.BoolOp op vs p) a' = true → PW X (.BoolOp op vs p) (Tt X Φ ea Wx a')
  fO : ∀ {X : Cx} {Wx : WX} {sc : Scope}, Pc X g N Φ ea k Wx sc → ∀ {a : Option Expr} {a' : Ex}, chkO g N n sc a a' = true → PO X a (To X Φ ea Wx a')
  fF : ∀ {X : Cx} {Wx : WX} {sc : Scope}, Pc X g N Φ ea k Wx sc → ∀ {a : List Expr} {a' : Ex}, chkIf g N n sc a a' = true → PTs X a (Tt X Φ ea Wx a')
  fA : ∀ {X : Cx} {Wx : WX} {sc : Scope}, Pc X g N Φ ea k Wx sc → ∀ {a : List Expr} {a' : List Ex}, chkA g N n sc a a' = true → PA X a (Ta X Φ ea Wx a') ∧ (noStar a = true → a.length = a'.length ∧ (a'.all fun e => !e.isStar) = true)
  fK : ∀ {X : Cx} {Wx : WX} {sc : Scope}, Pc X g N Φ ea k Wx sc → ∀ {a : List Keyword} {a' : List Ex}, chkK g N n sc a a' = true → PK X a (Ta X Φ ea Wx a') ∧ a.length = a'.length ∧ (a'.all fun e => !e.isStar) = true
  fD : ∀ {X : Cx} {Wx : WX} {sc : Scope}, Pc X g N Φ ea k Wx sc → ∀ {pos : Pos} {a : List (Option Expr)} {b : List Expr} {a' : List Ex}, chkD g N n sc a b a' = true → PPs X pos a b (trsOf X Φ ea Wx a') ∧ a.all (·.isSome) = true ∧ a.length = b.length ∧ evenP a' = true ∧ (a = [] → a' = [])
  fI : ∀ {X : Cx} {Wx : WX} {sc : Scope}, Pc X g N Φ ea k Wx sc → ∀ {tg a : Expr} {kd : IK} {a' : List Ex}, chkI g N n sc a kd a' = true → PI X tg a (tI X Φ ea Wx kd a') ∧ ∀ x, foldedSetIterable a X.env x = pure x
section
variable {X : Cx} {g : Sg} {N : List Str} {Φ : CallSem} {ea : Exa} {k : Nat} {Wx : WX} {sc : Scope} {n : Nat}
theorem adE0 : AdE g N Φ ea k 0 where
  fE := by intro X Wx sc _ a a' h; rw [chkE.eq_def] at h; cases h
  fW := by intro X Wx sc _ op vs p a' h; rw [chkE.eq_def] at h; cases h
  fO := by intro X Wx sc _ a a' h; rw [chkO.eq_def] at h; cases h
  fF := by intro X Wx sc _ a a' h; rw [chkIf.eq_def] at h; cases h
  fA := by intro X Wx sc _ a a' h; rw [chkA.eq_def] at h; cases h
  fK := by intro X Wx sc _ a a' h; rw [chkK.eq_def] at h; cases h
  fD := by intro X Wx sc _ pos a b a' h; rw [chkD.eq_def] at h; cases h
  fI := by intro X Wx sc _ tg a kd a' h; rw [chkI.eq_def] at h; cases h
theorem fold_pure {e : Expr} {env : PySem.Env} (h : (match e with
    | .Set .. => false
    | _ => true) = true) : ∀ x, foldedSetIterable e env x = pure x := by
  intro x
  cases e <;> first | rfl | cases h
theorem adA (ih : AdE g N Φ ea k n) (C : Pc X g N Φ ea k Wx sc) {a : List Expr} {a' : List Ex} (h : chkA g N (n + 1) sc a a' = true) : PA X a (Ta X Φ ea Wx a') ∧ (noStar a = true → a.length = a'.length ∧ (a'.all fun e => !e.isStar) = true) := by
  unfold chkA at h
  split at h
  · rename_i q; cases q
  · exact ⟨ada_nil, fun _ => ⟨rfl, rfl⟩⟩
  · rename_i m sc' e p es e' es' q
    cases q
    simp only [Bool.and_eq_true] at h
    exact ⟨ada_star (ih.fE C h.1).1 (ih.fA C h.2).1, fun z => by cases z⟩
  · rename_i m sc' e es e' es' hne q
    cases q
    simp only [Bool.and_eq_true, Bool.not_eq_true'] at h
    obtain ⟨⟨⟨h1, h2⟩, h3⟩, h4⟩ := h
    obtain ⟨i1, i2⟩ := ih.fA C h4
    refine ⟨ada_cons h1 h2 (ih.fE C h3).1 i1, fun z => ?_⟩
    obtain ⟨j1, j2⟩ := i2 (noStar_cons z).2
    exact ⟨congrArg (· + 1) j1, by rw [List.all_cons, j2, h2]; rfl⟩
  · cases h
theorem adK (ih : AdE g N Φ ea k n) (C : Pc X g N Φ ea k Wx sc) {a : List Keyword} {a' : List Ex} (h : chkK g N (n + 1) sc a a' = true) : PK X a (Ta X Φ ea Wx a') ∧ a.length = a'.length ∧ (a'.all fun e => !e.isStar) = true := by
  unfold chkK at h
  split at h
  · rename_i q; cases q
  · exact ⟨adk_nil, rfl, rfl⟩
  · rename_i m sc' e es e' es' q
    cases q
    simp only [Bool.and_eq_true, Bool.not_eq_true'] at h
    obtain ⟨⟨h1, h2⟩, h3⟩ := h
    obtain ⟨i1, i2, i3⟩ := ih.fK C h3
    exact ⟨adk_cons h1 (ih.fE C h2).1 i1, congrArg (· + 1) i2, by rw [List.all_cons, i3, h1]; rfl⟩
  · cases h
theorem adD (ih : AdE g N Φ ea k n) (C : Pc X g N Φ ea k Wx sc) {pos : Pos} {a : List (Option Expr)} {b : List Expr} {a' : List Ex} (h : chkD g N (n + 1) sc a b a' = true) : PPs X pos a b (trsOf X Φ ea Wx a') ∧ a.all (·.isSome) = true ∧ a.length = b.length ∧ evenP a' = true ∧ (a = [] → a' = []) := by
  unfold chkD at h
  split at h
  · rename_i q; cases q
  · exact ⟨pps_nil, rfl, rfl, rfl, fun _ => rfl⟩
  · rename_i m sc' e es v vs e' v' r q
    cases q
    simp only [Bool.and_eq_true, Bool.not_eq_true'] at h
    obtain ⟨⟨⟨⟨h1, h2⟩, h3⟩, h4⟩, h5⟩ := h
    obtain ⟨i1, i2, i3, i4, _⟩ := ih.fD C (pos := pos) h5
    refine ⟨pps_cons (ih.fE C h3).1 (ih.fE C h4).1 i1, by rw [List.all_cons, i2]; rfl, congrArg (· + 1) i3, by unfold evenP; rw [h1, h2, i4]; rfl, fun z => by cases z⟩
  · cases h
theorem adO (ih : AdE g N Φ ea k n) (C : Pc X g N Φ ea k Wx sc) {a : Option Expr} {a' : Ex} (h : chkO g N (n + 1) sc a a' = true) : PO X a (To X Φ ea Wx a') := by
  unfold chkO at h
  split at h
  · rename_i q; cases q
  · exact ado_none
  · rename_i m sc' e e' q
    cases q
    exact ado_any (ih.fE C h).1
  · cases h
theorem adF (ih : AdE g N Φ ea k n) (C : Pc X g N Φ ea k Wx sc) {a : List Expr} {a' : Ex} (h : chkIf g N (n + 1) sc a a' = true) : PTs X a (Tt X Φ ea Wx a') := by
  unfold chkIf at h
  split at h
  · rename_i q; cases q
  · refine pts_nil.imp ?_
    rintro st H Q ⟨W, ρ, σ, hρ, hσ, h⟩
    have h : TPost X.prog X.w X.K ea Wx st W (ev Φ (.bl true) ρ σ) Q := h
    unfold ev at h
    exact h.here hσ rfl
  · rename_i m sc' e e' q
    cases q
    exact pts_one (ih.fE C h).2
  · cases h
theorem adI (ih : AdE g N Φ ea k n) (C : Pc X g N Φ ea k Wx sc) {tg a : Expr} {kd : IK} {a' : List Ex} (h : chkI g N (n + 1) sc a kd a' = true) : PI X tg a (tI X Φ ea Wx kd a') ∧ ∀ x, foldedSetIterable a X.env x = pure x := by
  unfold chkI at h
  split at h
  · rename_i q; cases q
  · rename_i m sc' x p e pos e' q
    cases q
    simp only [Bool.and_eq_true, Bool.not_eq_true', decide_eq_true_eq] at h
    obtain ⟨⟨⟨⟨h1, h2⟩, h3⟩, h4⟩, h5⟩ := h
    subst h1
    exact ⟨pi_rng C h2 h3 h4 (ih.fE C h5).1, fun _ => rfl⟩
  · rename_i m sc' x p e f pos e' f' q
    cases q
    simp only [Bool.and_eq_true, Bool.not_eq_true', decide_eq_true_eq] at h
    obtain ⟨⟨⟨⟨⟨⟨h1, h2⟩, h3⟩, h4⟩, h5⟩, h6⟩, h7⟩ := h
    subst h1
    exact ⟨pi_rng2 C h2 h3 h4 h5 (ih.fE C h6).1 (ih.fE C h7).1, fun _ => rfl⟩
  · rename_i m sc' e e' q
    cases q
    simp only [Bool.and_eq_true, Bool.not_eq_true'] at h
    obtain ⟨⟨h1, h2⟩, h3⟩ := h
    exact ⟨pi_on h1 (ih.fE C h3).1, fold_pure h2⟩
  · cases h
theorem pl_of {a : Expr} {a' : Ex} (h : PE X a (Te X Φ ea Wx a')) (ht : ∀ whole, isTrue a X.env whole = (do let v ← whole; standAt a.pos; holding [v] (truthy v))) (hn : ∀ op vs p, a = .BoolOp op vs p → False) :
    PE X a (Te X Φ ea Wx a') ∧ PT X a (Tt X Φ ea Wx a') ∧ ∀ op vs p, a = .BoolOp op vs p → PW X a (Tt X Φ ea Wx a') := ⟨h, adt_plain h ht, fun op vs p e => (hn op vs p e).elim⟩
theorem minus1 {st : Option Expr} (h : isMinus1 st = true) : ∃ k p1 p2, st = some (.UnaryOp .USub (.Constant (.int 1) k p1) p2) := by
  unfold isMinus1 at h
  split at h
  · exact ⟨_, _, _, rfl⟩
  · cases h
theorem adE (ih : AdE g N Φ ea k n) (C : Pc X g N Φ ea k Wx sc) {a : Expr} {a' : Ex} (h : chkE g N (n + 1) sc a a' = true) : PE X a (Te X Φ ea Wx a') ∧ PT X a (Tt X Φ ea Wx a') ∧ ∀ op vs p, a = .BoolOp op vs p → PW X a (Tt X Φ ea Wx a') := by
  rw [chkE.eq_def] at h
  split at h
  · rename_i q; cases q
  all_goals (rename_i q0; try (injection q0 with q0; subst q0))
  · exact pl_of (ad_loc C h) (fun _ => rfl) (fun _ _ _ e => nomatch e)
  · exact pl_of (ad_glo C h) (fun _ => rfl) (fun _ _ _ e => nomatch e)
  · exact pl_of ad_non (fun _ => rfl) (fun _ _ _ e => nomatch e)
  · obtain rfl := beq_iff_eq.mp h
    exact pl_of ad_bl (fun _ => rfl) (fun _ _ _ e => nomatch e)
  · obtain rfl := of_decide_eq_true h
    exact pl_of ad_int (fun _ => rfl) (fun _ _ _ e => nomatch e)
  · obtain rfl := of_decide_eq_true h
    exact pl_of ad_str (fun _ => rfl) (fun _ _ _ e => nomatch e)
  · simp only [Bool.and_eq_true, decide_eq_true_eq] at h
    obtain ⟨⟨rfl, h1⟩, h2⟩ := h
    exact pl_of (ad_bin C (ih.fE C h1).1 (ih.fE C h2).1) (fun _ => rfl) (fun _ _ _ e => nomatch e)
  · exact pl_of (ad_neg (ih.fE C h).1) (fun _ => rfl) (fun _ _ _ e => nomatch e)
  · have := ad_not (pos := by assumption) (ih.fE C h).1 (ih.fE C h).2
    exact ⟨this.1, this.2, fun _ _ _ e => nomatch e⟩
  · simp only [Bool.and_eq_true, decide_eq_true_eq, Bool.not_eq_true'] at h
    obtain ⟨⟨⟨rfl, h1⟩, h2⟩, h3⟩ := h
    have := ad_cmp C (pos := by assumption) h1 (ih.fE C h2).1 (ih.fE C h3).1
    exact ⟨this.1, this.2, fun _ _ _ e => nomatch e⟩
  · simp only [Bool.and_eq_true, decide_eq_true_eq, Bool.not_eq_true'] at h
    obtain ⟨⟨⟨⟨⟨rfl, rfl⟩, h1⟩, h2⟩, h3⟩, h4⟩ := h
    have := ad_chain C (pos := by assumption) h1 (ih.fE C h2).1 (ih.fE C h3).1 (ih.fE C h4).1
    exact ⟨this.1, this.2, fun _ _ _ e => nomatch e⟩
  · simp only [Bool.and_eq_true] at h
    have hw := adw_and (ih.fE C h.1).2 (ih.fW C h.2)
    exact ⟨ad_and (ih.fE C h.1).1 (ih.fE C h.2).1, hw.pt, fun _ _ _ _ => hw⟩
  · simp only [Bool.and_eq_true] at h
    have hw := adw_or (ih.fE C h.1).2 (ih.fW C h.2)
    exact ⟨ad_or (ih.fE C h.1).1 (ih.fE C h.2).1, hw.pt, fun _ _ _ _ => hw⟩
  · rename_i op a0 p0
    cases op with
    | And => exact ⟨pe_one (ih.fE C h).1, (pw_and1 (ih.fE C h).2).pt, fun _ _ _ _ => pw_and1 (ih.fE C h).2⟩
    | Or => exact ⟨pe_one (ih.fE C h).1, (pw_or1 (ih.fE C h).2).pt, fun _ _ _ _ => pw_or1 (ih.fE C h).2⟩
  · simp only [Bool.and_eq_true] at h
    obtain ⟨⟨h1, h2⟩, h3⟩ := h
    exact ⟨ad_ite (ih.fE C h1).2 (ih.fE C h2).1 (ih.fE C h3).1, adt_ite (ih.fE C h1).2 (ih.fE C h2).2 (ih.fE C h3).2, fun _ _ _ e => nomatch e⟩
  · exact pl_of (ad_tup (ih.fA C h).1) (fun _ => rfl) (fun _ _ _ e => nomatch e)
  · exact pl_of (ad_lst (ih.fA C h).1) (fun _ => rfl) (fun _ _ _ e => nomatch e)
  · simp only [Bool.and_eq_true, decide_eq_true_eq] at h
    obtain ⟨i1, i2, i3, i4, i5⟩ := ih.fD C (pos := by assumption) h.1
    exact pl_of (ad_dic i1 i2 i3 h.2 i4 i5) (fun _ => rfl) (fun _ _ _ e => nomatch e)
  · simp only [Bool.and_eq_true] at h
    obtain ⟨⟨h1, h2⟩, h3⟩ := h
    exact pl_of (ad_slice (ih.fE C h1).1 (ih.fO C h2) (ih.fO C h3)) (fun _ => rfl) (fun _ _ _ e => nomatch e)
  · simp only [Bool.and_eq_true] at h
    obtain ⟨j, p1, p2, rfl⟩ := minus1 h.1
    exact pl_of (ad_rev (ih.fE C h.2).1) (fun _ => rfl) (fun _ _ _ e => nomatch e)
  · simp only [Bool.and_eq_true] at h
    obtain ⟨⟨h1, h2⟩, h3⟩ := h
    exact pl_of (ad_idx C h1 (ih.fE C h2).1 (ih.fE C h3).1) (fun _ => rfl) (fun _ _ _ e => nomatch e)
  · simp only [Bool.and_eq_true, decide_eq_true_eq] at h
    obtain ⟨⟨⟨⟨⟨h1, h2⟩, h3⟩, h4⟩, h5⟩, h6⟩ := h
    obtain ⟨i1, i2⟩ := ih.fA C h4
    obtain ⟨k1, k2⟩ := ih.fK C h5
    split at h6
    · rename_i j shs hl
      simp only [Bool.and_eq_true, decide_eq_true_eq, List.any_eq_true] at h6
      obtain ⟨rfl, sh, hm, ⟨⟨g1, g2⟩, g3⟩, g4⟩ := h6
      exact pl_of (ad_call C h1 h2 h3 i1 k1 (i2 h3) k2 hl hm g1 g2 (dEqs_eq g3) g4) (fun _ => rfl) (fun _ _ _ e => nomatch e)
    · cases h6
  · simp only [Bool.and_eq_true, decide_eq_true_eq] at h
    obtain ⟨⟨⟨rfl, h1⟩, h2⟩, h3⟩ := h
    exact pl_of (ad_bi C h1 h2 (ih.fE C h3).1) (fun _ => rfl) (fun _ _ _ e => nomatch e)
  · simp only [Bool.and_eq_true, decide_eq_true_eq] at h
    obtain ⟨⟨⟨⟨⟨rfl, h1⟩, h2⟩, rfl⟩, h4⟩, h3⟩ := h
    exact pl_of (ad_is1 C h1 h4 h2 (ih.fE C h3).1) (fun _ => rfl) (fun _ _ _ e => nomatch e)
  · simp only [Bool.and_eq_true, decide_eq_true_eq] at h
    obtain ⟨⟨⟨⟨⟨rfl, h1⟩, h2⟩, h4⟩, h5⟩, h3⟩ := h
    exact pl_of (ad_isN C h1 h4 h2 (Nat.le_trans h5 (by decide)) (ih.fE C h3).1) (fun _ => rfl) (fun _ _ _ e => nomatch e)
  · simp only [Bool.and_eq_true, decide_eq_true_eq] at h
    obtain ⟨⟨⟨⟨⟨⟨rfl, h1⟩, h2⟩, h3⟩, h4⟩, h5⟩, h6⟩ := h
    obtain ⟨i1, i2⟩ := ih.fA C h6
    exact pl_of (ad_me C h1 h2 h3 h4 (i2 h3).1 (ih.fE C h5).1 i1) (fun _ => rfl) (fun _ _ _ e => nomatch e)
  · rename_i elt tg iter ifs scope pos mu own t kd its c' elt'
    simp only [Bool.and_eq_true] at h
    obtain ⟨⟨⟨⟨⟨h1, h2⟩, h3⟩, h4⟩, h5⟩, h6⟩ := h
    obtain ⟨i1, i2⟩ := ih.fI C (tg := tg) h2
    have hk : ∀ {N : List Str} {sc scope : Scope} {own : List (Str × Nat)}, blkC N sc scope own = true → scope.kind = .function := fun h => (blkOk_by h).kind
    refine pl_of ?_ (fun _ => rfl) (fun _ _ _ e => nomatch e)
    have := ad_comp C h1 i1 h3 h4 (fun s H L cl fp => ih.fF (C.blk (hk h1)) h5) (fun s H L cl fp => (ih.fE (C.blk (hk h1)) h6).1) i2 (mu := mu) (u := fun te => PE X (.ListComp elt [⟨tg, iter, ifs, 0⟩] scope pos) te)
      fun ok hg => pe_lc C.pl.calm (by rw [C.hN]; exact C.nd) i1 ok hg (fun s H L cl fp => ih.fF (C.blk (hk h1)) h5) (fun s H L cl fp => (ih.fE (C.blk (hk h1)) h6).1) i2
    exact this.1.imp this.2
  · cases h
theorem adE_all : ∀ n, AdE g N Φ ea k n
  | 0 => adE0
  | n + 1 =>
    have ih := adE_all n
    { fE := fun C _ _ h => ⟨(adE ih C h).1, (adE ih C h).2.1⟩
      fW := fun C _ _ _ _ h => (adE ih C h).2.2 _ _ _ rfl
      fO := fun C _ _ h => adO ih C h
      fF := fun C _ _ h => adF ih C h
      fA := fun C _ _ h => adA ih C h
      fK := fun C _ _ h => adK ih C h
      fD := fun C _ _ _ _ h => adD ih C h
      fI := fun C _ _ _ _ h => adI ih C h }
end
end Iv

set_option Elab.async false
set_option linter.all false
set_option maxHeartbeats 4000000
/-! the statements against the mini-AST; side conditions of assignments -/
namespace Iv
open PySem PySem.Spec L2
def isSt : Expr → Bool
  | .Starred .. => true
  | _ => false
def swNames (sc : Scope) (ts : List Expr) : List Str := ts.filterMap fun
  | .Name id pos => if (sc.names.lookup id == some .local && pos.line == (Option.map (fun (x : Expr) => x.pos.line) ts.head?).getD 0) = true then some id else none
  | _ => none
/-- what swappedStores answers, where it surely answers -/
def swR (sc : Scope) (tg e : Expr) : Option (Option (List Str)) := match tg, e with
  | .Tuple ts _ _, .Tuple vs _ _ =>
    if (!(ts.length == 2 || ts.length == 3) || vs.length != ts.length) = true then some none
    else if vs.any isSt = true then some none
    else if ((swNames sc ts).length != ts.length || (swNames sc ts).eraseDups.length != (swNames sc ts).length) = true then some none
    else if vs.all (foldedForSure 8) = true then some none
    else if vs.all (constantsAlone 8) = true then none
    else some (some (swNames sc ts))
  | .List .., .Tuple .. => none
  | _, _ => some none
theorem swR_ok {sc : Scope} {tg e : Expr} {env : PySem.Env} {r : Option (List Str)} (hs : env.scope = sc) (hk : sc.kind = .function) (h : swR sc tg e = some r) : swappedStores [tg] e env = pure r := by
  have hb : (env.blockKind != ScopeKind.function) = false := by unfold Env.blockKind; rw [hs, hk]; rfl
  subst hs
  cases tg with
  | Tuple ts k1 p1 =>
    cases e with
    | Tuple vs k2 p2 =>
      unfold swappedStores
      dsimp only
      rw [hb, Bool.or_false]
      unfold swR at h
      dsimp only at h
      show (if (!(ts.length == 2 || ts.length == 3) || vs.length != ts.length) = true then (pure none : Sem (Option (List Str)))
        else if vs.any isSt = true then pure none
        else if ((swNames env.scope ts).length != ts.length || (swNames env.scope ts).eraseDups.length != (swNames env.scope ts).length) = true then pure none
        else if vs.all (foldedForSure 8) = true then pure none
        else if vs.all (constantsAlone 8) = true then (do unsupported "assign.tuple-of-constant-expressions:order-of-the-stores"; pure (some (swNames env.scope ts)))
        else pure (some (swNames env.scope ts))) = pure r
      split at h
      · rename_i c; cases h; rw [if_pos c]
      · rename_i c1
        rw [if_neg c1]
        split at h
        · rename_i c; cases h; rw [if_pos c]
        · rename_i c2
          rw [if_neg c2]
          split at h
          · rename_i c; cases h; rw [if_pos c]
          · rename_i c3
            rw [if_neg c3]
            split at h
            · rename_i c; cases h; rw [if_pos c]
            · rename_i c4
              rw [if_neg c4]
              split at h
              · cases h
              · rename_i c5
                cases h
                rw [if_neg c5]
    | _ => cases h; rfl
  | List ts p1 =>
    cases e with
    | Tuple vs k2 p2 => cases h
    | _ => cases h; rfl
  | _ => cases h; rfl
/-- does a comprehension's value go to the name by itself -/
def swB (sc : Scope) (tg e : Expr) : Bool := match e with
  | .ListComp _ _ s _ => (match tg with
    | .Name t pos => sc.names.lookup t == some .local && pos.line == e.pos.line && !(s.names.any fun (n, k) => n == t && (k == .local || k == .cell))
    | _ => false)
  | .SetComp .. => true
  | .DictComp .. => true
  | _ => false
theorem swB_ok {sc : Scope} {tg e : Expr} {env : PySem.Env} {l : Nat} (hs : env.scope = sc) (hk : sc.kind = .function) (h : swB sc tg e = false) : swapsWith e (some tg) l env = pure false := by
  have hb : (env.blockKind == ScopeKind.function) = true := by unfold Env.blockKind; rw [hs, hk]; rfl
  subst hs
  cases e with
  | ListComp el gs s p =>
    cases tg with
    | Name t pos =>
      unfold swapsWith
      dsimp only
      rw [hb, Bool.true_and]
      have h : (env.scope.names.lookup t == some NameKind.local && pos.line == p.line && !(s.names.any fun (n, k) => n == t && (k == .local || k == .cell))) = false := h
      have h2 : (env.kindOf t == some NameKind.local && pos.line == (Expr.ListComp el gs s p).pos.line && !(s.names.any fun (n, k) => n == t && (k == .local || k == .cell))) = false := h
      rw [h2]
    | _ => rfl
  | SetComp _ _ _ _ => cases h
  | DictComp _ _ _ _ _ => cases h
  | _ => rfl
def notComp : Expr → Bool
  | .ListComp .. => false
  | .SetComp .. => false
  | .DictComp .. => false
  | _ => true
theorem notComp_ok {e : Expr} {env : PySem.Env} {l : Nat} {tg : Option Expr} (h : notComp e = true) : swapsWith e tg l env = pure false := by
  cases e <;> first | rfl | cases h
def strConst : Expr → Bool
  | .Constant (.str _) _ _ => true
  | _ => false
section
variable (g : Sg) (N : List Str)
mutual
def chkS : Nat → Scope → Stmt → Stt → Bool
  | 0, _, _, _ => false
  | n + 1, sc, .Assign [.Subscript o i _] e _, .put o' i' e' => notComp e && plainIx i && chkE g N n sc o o' && chkE g N n sc i i' && chkE g N n sc e e'
  | n + 1, sc, .Assign [.Tuple [.Name x px, .Name y py] k1 pt] (.Tuple [a, b] k2 pt2) _, .par i j a' b' => decide (N[i]? = some x) && decide (N[j]? = some y) && decide (i ≠ j) && (sc.names.lookup x == some .local) && (sc.names.lookup y == some .local) && noStar [a, b] && !a'.isStar && !b'.isStar && chkE g N n sc a a' && chkE g N n sc b b' && decide (swR sc (.Tuple [.Name x px, .Name y py] k1 pt) (.Tuple [a, b] k2 pt2) = some (some [x, y]))
  | n + 1, sc, .Assign [tg] e _, .asg t e' => !swB sc tg e && (match swR sc tg e with
    | some none => true
    | _ => false) && chkT N sc tg t && chkE g N n sc e e'
  | _ + 1, _, .Expr (.Constant (.str _) _ _) _, .pass => true
  | n + 1, sc, .Expr e _, .exp e' => notComp e && chkE g N n sc e e'
  | n + 1, sc, .Return (some e) _, .ret e' => chkE g N n sc e e'
  | _ + 1, _, .Return none _, .ret .non => true
  | n + 1, sc, .If c a b _, .ite c' a' b' => chkE g N n sc c c' && chkB n sc a a' && chkB n sc b b'
  | n + 1, sc, .While c b [] _, .whl c' b' => chkE g N n sc c c' && chkB n sc b b'
  | n + 1, sc, .For tg it b [] _, .for t kd its b' => chkI g N n sc it kd its && chkT N sc tg t && chkB n sc b b'
  | _ + 1, _, .Break _, .brk => true
  | _ + 1, _, .Continue _, .cont => true
  | _ + 1, _, .Pass _, .pass => true
  | _ + 1, _, _, _ => false
def chkB : Nat → Scope → List Stmt → List Stt → Bool
  | 0, _, _, _ => false
  | n + 1, sc, ss, .frz _ :: ss' => chkB n sc ss ss'
  | _ + 1, _, [], [] => true
  | n + 1, sc, .Assign [.Name y py] (.ListComp elt [⟨tg, iter, ifs, 0⟩] scope pos) sp :: ss, .asg (.nm i) (.comp mu own t kd its c elt') :: ss' =>
    (if swB sc (.Name y py) (.ListComp elt [⟨tg, iter, ifs, 0⟩] scope pos) then decide (N[i]? = some y) && chkE g N n sc (.ListComp elt [⟨tg, iter, ifs, 0⟩] scope pos) (.comp mu own t kd its c elt') else
      chkS n sc (.Assign [.Name y py] (.ListComp elt [⟨tg, iter, ifs, 0⟩] scope pos) sp) (.asg (.nm i) (.comp mu own t kd its c elt'))) && chkB n sc ss ss'
  | n + 1, sc, s :: ss, s' :: ss' => chkS n sc s s' && chkB n sc ss ss'
  | _ + 1, _, _, _ => false
end
end
end Iv

set_option Elab.async false
set_option linter.all false
set_option maxHeartbeats 8000000
set_option maxRecDepth 4000
/-! adequacy: statements -/
namespace Iv
open PySem PySem.Spec L2
section
variable (P : Program) (w : World) (K : PySem.W.Frag) (ea : Exa) (Wx : WX)
def PostO (W : Wd) (o : Out) (D : Ends) : Prop := match o with
  | .nx ρ σ => ∀ W' st H, Le W W' → EnvR P w K W' ρ st → Rel P w K W' σ H → D.nx st H
  | .bk ρ σ => ∀ W' st H, Le W W' → EnvR P w K W' ρ st → Rel P w K W' σ H → D.bk st H
  | .ct ρ σ => ∀ W' st H, Le W W' → EnvR P w K W' ρ st → Rel P w K W' σ H → D.ct st H
  | .rt d σ => ∀ W' v H, Le W W' → Rel P w K W' σ H → Rep P w K W' d v → D.rt v H
  | .exc c d σ => ∀ W' st H cls dx, Le W W' → Rel P w K W' σ H → ExcR P w K ea W' c d cls dx H → Wx cls dx st H
  | .bad => False
def tS (f : Env → Store → Out) : TS := fun D st H => ∃ W ρ σ, EnvR P w K W ρ st ∧ Rel P w K W σ H ∧ PostO P w K ea Wx W (f ρ σ) D
end
section
variable {P : Program} {w : World} {K : PySem.W.Frag} {ea : Exa} {Wx : WX} {st : St} {W W1 : Wd} {ρ : Env} {σ : Store} {H : Hp} {D : Ends}
theorem PostO.mono {o : Out} (le : Le W W1) (h : PostO P w K ea Wx W o D) : PostO P w K ea Wx W1 o D := by
  cases o with
  | nx => exact fun W' st H l => h W' st H (le.trans l)
  | bk => exact fun W' st H l => h W' st H (le.trans l)
  | ct => exact fun W' st H l => h W' st H (le.trans l)
  | rt => exact fun W' st H l => h W' st H (le.trans l)
  | exc => exact fun W' st H cls dx l => h W' st H cls dx (le.trans l)
  | bad => exact h
theorem PostO.bindE {f : Env → Store → Res Iv.D} {k : Iv.D → Store → Out} {T : VK} (hρ : EnvR P w K W ρ st) (hσ : Rel P w K W σ H) (h : PostO P w K ea Wx W (Out.of (f ρ σ) k) D)
    (c : ∀ d σ1 W1 v H1, Le W W1 → Rel P w K W1 σ1 H1 → Rep P w K W1 d v → PostO P w K ea Wx W1 (k d σ1) D → T v H1) : tE P w K ea Wx f st H T := by
  refine ⟨W, ρ, σ, hρ, hσ, ?_⟩
  cases e : f ρ σ with
  | ok d σ1 => rw [e] at h; exact fun W1 v H1 le r q => c d σ1 W1 v H1 le r q (PostO.mono le h)
  | exc c d σ1 => rw [e] at h; exact fun W' H cls dx l r q => h W' st H cls dx l r q
  | bad => rw [e] at h; exact h
theorem PostO.bindA {f : Env → Store → Res (List Iv.D)} {k : List Iv.D → Store → Out} {T : List V → Hp → Prop} (hρ : EnvR P w K W ρ st) (hσ : Rel P w K W σ H) (h : PostO P w K ea Wx W (Out.of (f ρ σ) k) D)
    (c : ∀ d σ1 W1 v H1, Le W W1 → Rel P w K W1 σ1 H1 → Reps P w K W1 d v → PostO P w K ea Wx W1 (k d σ1) D → T v H1) : tA P w K ea Wx f st H T := by
  refine ⟨W, ρ, σ, hρ, hσ, ?_⟩
  cases e : f ρ σ with
  | ok d σ1 => rw [e] at h; exact fun W1 v H1 le r q => c d σ1 W1 v H1 le r q (PostO.mono le h)
  | exc c d σ1 => rw [e] at h; exact fun W' H cls dx l r q => h W' st H cls dx l r q
  | bad => rw [e] at h; exact h
theorem PostO.bindT {f : Env → Store → Res Iv.D} {k1 k2 : Store → Out} {T : Bool → Hp → Prop} (hρ : EnvR P w K W ρ st) (hσ : Rel P w K W σ H)
    (h : PostO P w K ea Wx W (Out.of (f ρ σ) fun d σ1 => match truthD (view σ1 d) with
      | some true => k1 σ1
      | some false => k2 σ1
      | none => .bad) D)
    (c : ∀ b σ1 W1 H1, Le W W1 → Rel P w K W1 σ1 H1 → PostO P w K ea Wx W1 (if b = true then k1 σ1 else k2 σ1) D → T b H1) : tT P w K ea Wx f st H T := by
  refine ⟨W, ρ, σ, hρ, hσ, ?_⟩
  cases e : f ρ σ with
  | ok d σ1 =>
    rw [e] at h
    have h : PostO P w K ea Wx W (match truthD (view σ1 d) with
      | some true => k1 σ1
      | some false => k2 σ1
      | none => .bad) D := h
    cases q : truthD (view σ1 d) with
    | none => rw [q] at h; exact False.elim h
    | some b =>
      rw [q] at h
      refine ⟨b, q, fun W1 H1 le r => c b σ1 W1 H1 le r (PostO.mono le ?_)⟩
      cases b <;> exact h
  | exc c d σ1 => rw [e] at h; exact fun W' H cls dx l r q => h W' st H cls dx l r q
  | bad => rw [e] at h; exact h
theorem PostO.here {ρ : Env} (h : PostO P w K ea Wx W (.nx ρ σ) D) (hρ : EnvR P w K W ρ st) (hσ : Rel P w K W σ H) : D.nx st H := h W st H (Le.refl W) hρ hσ
theorem EnvR.alt {d : Iv.D} {v : V} {i : Nat} (h : EnvR P w K W ρ st) (hv : st[i]? = some (some v)) (r : Rep P w K W d v) : EnvR P w K W (ρ.set i (some d)) st := by
  refine ⟨by rw [List.length_set]; exact h.1, fun j e q => ?_⟩
  rcases get_set q with ⟨rfl, z⟩ | ⟨_, q⟩
  · cases z; exact ⟨v, hv, r⟩
  · exact h.2 j e q
end
section
variable {X : Cx} {g : Sg} {N : List Str} {Φ : CallSem} {ea : Exa} {k : Nat} {Wx : WX} {sc : Scope} {pos p2 : Pos}
abbrev Ts (X : Cx) (Φ : CallSem) (ea : Exa) (Wx : WX) (s : Stt) : TS := tS X.prog X.w X.K ea Wx (ex Φ s)
abbrev Tb (X : Cx) (Φ : CallSem) (ea : Exa) (Wx : WX) (s : List Stt) : TS := tS X.prog X.w X.K ea Wx (exs Φ s)
theorem _root_.L2.PS.imp {s : Stmt} {t t' : TS} (h : PS X s t) (i : ∀ D st H, t' D st H → t D st H) : PS X s t' := ⟨fun pins s σ H D I q => h.run pins s σ H D I (i _ _ _ q)⟩
theorem _root_.L2.PSs.imp {s : List Stmt} {t t' : TS} (h : PSs X s t) (i : ∀ D st H, t' D st H → t D st H) : PSs X s t' := ⟨fun pins s σ H D I q => h.run pins s σ H D I (i _ _ _ q)⟩
variable {a b c e tg : Expr} {a' b' c' e' : Ex} {t : Tg} {B B2 : List Stmt} {B' B2' : List Stt}
theorem st_asg (C : Pc X g N Φ ea k Wx sc) (hs : Stores X N sc) (h1 : swB sc tg e = false) (h2 : swR sc tg e = some none) (h3 : chkT N sc tg t = true) (he : PE X e (Te X Φ ea Wx e')) : PS X (.Assign [tg] e pos) (Ts X Φ ea Wx (.asg t e')) := by
  have hsw : swapsWithSole [tg] e pos.line X.env = pure false := swB_ok C.hsc C.kind h1
  refine (ps_asg he (pg_all C.pl.calm C.hN C.nd hs h3) hsw (swR_ok C.hsc C.kind h2) ?_).imp ?_
  · cases tg <;> first | rfl | (unfold chkT at h3; cases h3)
  rintro D st H ⟨W, ρ, σ, hρ, hσ, h⟩
  unfold ex at h
  refine PostO.bindE hρ hσ h fun d σ1 W1 v H1 le1 hσ1 r1 h1 => ?_
  split at h1
  · rename_i ρ1 e1
    exact ⟨W1, ρ, σ1, d, hρ.mono le1, hσ1, r1, ρ1, e1, fun st' hρ' _ => h1.here hρ' hσ1⟩
  · exact False.elim h1
theorem st_put (C : Pc X g N Φ ea k Wx sc) (h1 : notComp e = true) (h2 : plainIx b = true) (ha : PE X a (Te X Φ ea Wx a')) (hb : PE X b (Te X Φ ea Wx b')) (he : PE X e (Te X Φ ea Wx e')) : PS X (.Assign [.Subscript a b p2] e pos) (Ts X Φ ea Wx (.put a' b' e')) := by
  have hsw : swapsWithSole [.Subscript a b p2] e pos.line X.env = pure false := notComp_ok (l := pos.line) (env := X.env) (tg := some (.Subscript a b p2)) h1
  have hsr : swappedStores [.Subscript a b p2] e X.env = pure none := swR_ok C.hsc C.kind (by cases e <;> rfl)
  refine (ps_asg he (pg_sub ha hb (put_all C.pl) ?_) hsw hsr ?_).imp ?_
  · intro v
    cases b <;> first | rfl | cases h2
  · rfl
  rintro D st H ⟨W, ρ, σ, hρ, hσ, h⟩
  unfold ex at h
  refine PostO.bindE hρ hσ h fun d σ1 W1 v H1 le1 hσ1 r1 h1 => PostO.bindE (hρ.mono le1) hσ1 h1 fun o σ2 W2 vo H2 le2 hσ2 r2 h2 => PostO.bindE ((hρ.mono le1).mono le2) hσ2 h2 fun i σ3 W3 vi H3 le3 hσ3 r3 h3 => ?_
  split at h3
  · rename_i σ4 e4
    exact ⟨W3, σ3, o, i, d, hσ3, r2.mono le3, r3, (r1.mono le2).mono le3, σ4, e4, fun H' hr => h3.here (((hρ.mono le1).mono le2).mono le3) hr⟩
  · exact False.elim h3
theorem st_par (C : Pc X g N Φ ea k Wx sc) {x y : Str} {i j k1 k2 : Nat} {px py pt pt2 : Pos} (hi : N[i]? = some x) (hj : N[j]? = some y) (hij : i ≠ j) (hx : sc.names.lookup x = some .local) (hy : sc.names.lookup y = some .local)
    (hn : noStar [a, b] = true) (sa : a'.isStar = false) (sb : b'.isStar = false) (ha : PE X a (Te X Φ ea Wx a')) (hb : PE X b (Te X Φ ea Wx b')) (hw : swR sc (.Tuple [.Name x px, .Name y py] k1 pt) (.Tuple [a, b] k2 pt2) = some (some [x, y])) :
    PS X (.Assign [.Tuple [.Name x px, .Name y py] k1 pt] (.Tuple [a, b] k2 pt2) pos) (Ts X Φ ea Wx (.par i j a' b')) := by
  obtain ⟨n1, n2⟩ := noStar_cons hn
  refine (ps_par (i := i) (j := j) (X := X) C.pl.calm (by rw [C.hN]; exact C.nd) (by rw [C.hN]; exact hi) (by rw [C.hN]; exact hj) hij (by rw [C.hsc]; exact hx) (by rw [C.hsc]; exact hy) (ada_cons n1 sa ha (ada_cons n2 sb hb ada_nil)) (swR_ok C.hsc C.kind hw) rfl).imp ?_
  rintro D st H ⟨W, ρ, σ, hρ, hσ, h⟩
  unfold ex at h
  refine ⟨W, ρ, σ, hρ, hσ, ?_⟩
  rw [evs_cons sa]
  cases e1 : ev Φ a' ρ σ with
  | bad => rw [e1] at h; exact h
  | exc c d σ1 => rw [e1] at h; exact fun W' H cls dx l r q => h W' st H cls dx l r q
  | ok x1 σ1 =>
    rw [e1] at h
    have h : PostO X.prog X.w X.K ea Wx W (Out.of (ev Φ b' ρ σ1) fun y σ2 => .nx ((ρ.set i (some x1)).set j (some y)) σ2) D := h
    show Posts X.prog X.w X.K ea Wx st W ((evs Φ [b'] ρ σ1).bind fun ds σ2 => .ok (x1 :: ds) σ2) _
    rw [evs_cons sb]
    cases e2 : ev Φ b' ρ σ1 with
    | bad => rw [e2] at h; exact h
    | exc c d σ2 => rw [e2] at h; exact fun W' H cls dx l r q => h W' st H cls dx l r q
    | ok y1 σ2 =>
      rw [e2] at h
      have h : PostO X.prog X.w X.K ea Wx W (.nx ((ρ.set i (some x1)).set j (some y1)) σ2) D := h
      show Posts X.prog X.w X.K ea Wx st W (((evs Φ [] ρ σ2).bind fun ds σ3 => .ok (y1 :: ds) σ3).bind fun ds σ3 => .ok (x1 :: ds) σ3) _
      unfold evs
      intro W' vs H' le r q
      obtain ⟨v, u, rfl, rv, ru⟩ := two_reps q
      exact ⟨v, u, rfl, h W' _ H' le (((hρ.mono le).set rv i).set ru j) r⟩
theorem st_exp (h1 : notComp e = true) (he : PE X e (Te X Φ ea Wx e')) : PS X (.Expr e pos) (Ts X Φ ea Wx (.exp e')) := by
  refine (ps_expr he (notComp_ok h1)).imp ?_
  rintro D st H ⟨W, ρ, σ, hρ, hσ, h⟩
  unfold ex at h
  exact PostO.bindE hρ hσ h fun d σ1 W1 v H1 le1 hσ1 r1 h1 => h1.here (hρ.mono le1) hσ1
theorem st_ret (he : PE X e (Te X Φ ea Wx e')) : PS X (.Return (some e) pos) (Ts X Φ ea Wx (.ret e')) := by
  refine (ps_ret he).imp ?_
  rintro D st H ⟨W, ρ, σ, hρ, hσ, h⟩
  unfold ex at h
  exact PostO.bindE hρ hσ h fun d σ1 W1 v H1 le1 hσ1 r1 h1 => h1 W1 v H1 (Le.refl _) hσ1 r1
theorem st_ret0 : PS X (.Return none pos) (Ts X Φ ea Wx (.ret .non)) := by
  refine ps_retN.imp ?_
  rintro D st H ⟨W, ρ, σ, hρ, hσ, h⟩
  unfold ex ev at h
  exact h W .non H (Le.refl _) hσ (by simp only [Rep])
theorem st_if (hc : PT X c (Tt X Φ ea Wx c')) (ha : PSs X B (Tb X Φ ea Wx B')) (hb : PSs X B2 (Tb X Φ ea Wx B2')) : PS X (.If c B B2 pos) (Ts X Φ ea Wx (.ite c' B' B2')) := by
  refine (ps_if hc ha hb).imp ?_
  rintro D st H ⟨W, ρ, σ, hρ, hσ, h⟩
  unfold ex at h
  refine PostO.bindT (k1 := fun σ1 => exs Φ B' ρ σ1) (k2 := fun σ1 => exs Φ B2' ρ σ1) hρ hσ h fun b σ1 W1 H1 le1 hσ1 h1 => ?_
  cases b <;> exact ⟨W1, ρ, σ1, hρ.mono le1, hσ1, h1⟩
theorem st_whl (hp : PassesOwn (model X.prog X.w) X.A X.env X.xe) (hc : PT X c (Tt X Φ ea Wx c')) (hb : PSs X B (Tb X Φ ea Wx B')) : PS X (.While c B [] pos) (Ts X Φ ea Wx (.whl c' B')) := by
  refine (ps_while hp hc hb).imp ?_
  rintro D st H ⟨W, ρ, σ, hρ, hσ, h⟩
  unfold ex at h
  refine ⟨fun m st2 H2 => ∃ W2 ρ2 σ2, EnvR X.prog X.w X.K W2 ρ2 st2 ∧ Rel X.prog X.w X.K W2 σ2 H2 ∧ PostO X.prog X.w X.K ea Wx W2 (whlN (ev Φ c') (exs Φ B') m ρ2 σ2) D, ⟨whFuel, W, ρ, σ, hρ, hσ, h⟩, ?_⟩
  rintro m st2 H2 ⟨W2, ρ2, σ2, hρ2, hσ2, h2⟩
  cases m with
  | zero => exact False.elim h2
  | succ m =>
    unfold whlN at h2
    refine PostO.bindT (k1 := fun σ1 => match exs Φ B' ρ2 σ1 with
      | .nx ρ2 σ2 => whlN (ev Φ c') (exs Φ B') m ρ2 σ2
      | .ct ρ2 σ2 => whlN (ev Φ c') (exs Φ B') m ρ2 σ2
      | .bk ρ2 σ2 => .nx ρ2 σ2
      | o => o) (k2 := fun σ1 => .nx ρ2 σ1) hρ2 hσ2 h2 fun b σ3 W3 H3 le3 hσ3 h3 => ?_
    cases b with
    | false => exact h3.here (hρ2.mono le3) hσ3
    | true =>
      refine ⟨fun st4 H4 => ∃ W2 ρ2 σ2, EnvR X.prog X.w X.K W2 ρ2 st4 ∧ Rel X.prog X.w X.K W2 σ2 H4 ∧ PostO X.prog X.w X.K ea Wx W2 (whlN (ev Φ c') (exs Φ B') m ρ2 σ2) D, fun st4 H4 q => ⟨m, Nat.lt_succ_self m, q⟩, W3, ρ2, σ3, hρ2.mono le3, hσ3, ?_⟩
      have h3 : PostO X.prog X.w X.K ea Wx W3 (match exs Φ B' ρ2 σ3 with
        | .nx ρ2 σ2 => whlN (ev Φ c') (exs Φ B') m ρ2 σ2
        | .ct ρ2 σ2 => whlN (ev Φ c') (exs Φ B') m ρ2 σ2
        | .bk ρ2 σ2 => .nx ρ2 σ2
        | o => o) D := h3
      cases e4 : exs Φ B' ρ2 σ3 with
      | nx ρ4 σ4 => rw [e4] at h3; exact fun W' st' H' le hr hs => ⟨W', ρ4, σ4, hr, hs, PostO.mono le h3⟩
      | ct ρ4 σ4 => rw [e4] at h3; exact fun W' st' H' le hr hs => ⟨W', ρ4, σ4, hr, hs, PostO.mono le h3⟩
      | bk ρ4 σ4 => rw [e4] at h3; exact h3
      | rt d σ4 => rw [e4] at h3; exact h3
      | exc c d σ4 => rw [e4] at h3; exact h3
      | bad => rw [e4] at h3; exact h3
theorem st_for (C : Pc X g N Φ ea k Wx sc) (hs : Stores X N sc) (hp : PassesOwn (model X.prog X.w) X.A X.env X.xe) {kd : IK} {its : List Ex} (hi : PI X tg e (tI X Φ ea Wx kd its)) (hf : ∀ x, foldedSetIterable e X.env x = pure x) (ht : chkT N sc tg t = true) (hb : PSs X B (Tb X Φ ea Wx B')) :
    PS X (.For tg e B [] pos) (Ts X Φ ea Wx (.for t kd its B')) := by
  refine (ps_for hp C.pl.calm hi (pg_all C.pl.calm C.hN C.nd hs ht) hb hf).imp ?_
  rintro D st H ⟨W, ρ, σ, hρ, hσ, h⟩
  unfold ex at h
  refine ⟨W, ρ, σ, hρ, hσ, ?_⟩
  cases e1 : evs Φ its ρ σ with
  | bad => rw [e1] at h; exact h
  | exc c d σ1 => rw [e1] at h; exact fun W' H cls dx l r q => h W' st H cls dx l r q
  | ok ds σ1 =>
    rw [e1] at h
    have h : PostO X.prog X.w X.K ea Wx W (match itemsOf σ1 kd ds with
      | some xs => forL t (exs Φ B') xs ρ σ1
      | none => .bad) D := h
    cases e2 : itemsOf σ1 kd ds with
    | none => rw [e2] at h; exact False.elim h
    | some xs =>
      rw [e2] at h
      have h : PostO X.prog X.w X.K ea Wx W (forL t (exs Φ B') xs ρ σ1) D := h
      refine ⟨xs, e2, fun W' H1 J le hσ1 ⟨i1, i2, i3⟩ => ?_⟩
      refine ⟨fun i m st2 H2 => m = xs.length - i ∧ i ≤ xs.length ∧ ∃ Wc ρc σc, Le W' Wc ∧ EnvR X.prog X.w X.K Wc ρc st2 ∧ Rel X.prog X.w X.K Wc σc H2 ∧ PostO X.prog X.w X.K ea Wx Wc (forL t (exs Φ B') (xs.drop i) ρc σc) D, ?_, ?_⟩
      · exact ⟨xs.length, by simp, Nat.zero_le _, W', ρ, σ1, Le.refl _, hρ.mono le, hσ1, by rw [List.drop_zero]; exact PostO.mono le h⟩
      · rintro i m st2 H2 ⟨rfl, hi, Wc, ρc, σc, l0, hρc, r2, hp⟩
        by_cases hlt : i < xs.length
        · refine .inr ⟨i2 i H2 (le0_of_sub l0.toLe0 r2) hlt, fun st3 H3 => i + 1 ≤ xs.length ∧ ∃ Wc ρc σc, Le W' Wc ∧ EnvR X.prog X.w X.K Wc ρc st3 ∧ Rel X.prog X.w X.K Wc σc H3 ∧ PostO X.prog X.w X.K ea Wx Wc (forL t (exs Φ B') (xs.drop (i + 1)) ρc σc) D,
            fun st3 H3 ⟨a1, a2⟩ => ⟨xs.length - (i + 1), by omega, rfl, a1, a2⟩, fun x H3 y => ?_⟩
          obtain ⟨Wd1, d, le3, r3, hd, rd⟩ := i3 i Wc σc H2 x H3 l0.toLe0 r2 hlt y
          have edrop : xs.drop i = d :: xs.drop (i + 1) := by
            rw [List.drop_eq_getElem_cons hlt]
            rw [List.getElem?_eq_getElem hlt] at hd
            cases hd; rfl
          rw [edrop] at hp
          unfold forL at hp
          cases e3 : tgD t d ρc with
          | none => rw [e3] at hp; exact False.elim hp
          | some ρ2 =>
            rw [e3] at hp
            dsimp only at hp
            have hp := PostO.mono le3 hp
            refine ⟨Wd1, ρc, σc, d, hρc.mono le3, r3, rd, ρ2, e3, fun st4 hρ4 _ => ⟨Wd1, ρ2, σc, hρ4, r3, ?_⟩⟩
            cases e4 : exs Φ B' ρ2 σc with
            | nx ρ4 σ4 => rw [e4] at hp; exact fun W5 st5 H5 le5 hr5 hs5 => ⟨hlt, W5, ρ4, σ4, (l0.trans le3).trans le5, hr5, hs5, PostO.mono le5 hp⟩
            | ct ρ4 σ4 => rw [e4] at hp; exact fun W5 st5 H5 le5 hr5 hs5 => ⟨hlt, W5, ρ4, σ4, (l0.trans le3).trans le5, hr5, hs5, PostO.mono le5 hp⟩
            | bk ρ4 σ4 => rw [e4] at hp; exact hp
            | rt d σ4 => rw [e4] at hp; exact hp
            | exc c d σ4 => rw [e4] at hp; exact hp
            | bad => rw [e4] at hp; exact hp
        · have e : i = xs.length := by omega
          subst e
          rw [List.drop_length] at hp
          unfold forL at hp
          exact .inl ⟨i1 _ H2 (le0_of_sub l0.toLe0 r2) (Nat.le_refl _), hp.here hρc r2⟩
/-! blocks -/
theorem st_nil : PSs X [] (Tb X Φ ea Wx []) := pss_nil.imp fun D st H ⟨W, ρ, σ, hρ, hσ, h⟩ => by
  unfold exs at h
  exact h.here hρ hσ
theorem st_cons {s : Stmt} {s' : Stt} (h1 : PS X s (Ts X Φ ea Wx s')) (h2 : PSs X B (Tb X Φ ea Wx B')) : PSs X (s :: B) (Tb X Φ ea Wx (s' :: B')) := by
  refine (pss_cons h1 h2).imp ?_
  rintro D st H ⟨W, ρ, σ, hρ, hσ, h⟩
  unfold exs at h
  refine ⟨W, ρ, σ, hρ, hσ, ?_⟩
  cases e : ex Φ s' ρ σ with
  | nx ρ4 σ4 => rw [e] at h; exact fun W' st' H' le hr hs => ⟨W', ρ4, σ4, hr, hs, PostO.mono le h⟩
  | ct ρ4 σ4 => rw [e] at h; exact h
  | bk ρ4 σ4 => rw [e] at h; exact h
  | rt d σ4 => rw [e] at h; exact h
  | exc c d σ4 => rw [e] at h; exact h
  | bad => rw [e] at h; exact h
theorem st_frz {i : Nat} (h2 : PSs X B (Tb X Φ ea Wx B')) : PSs X B (Tb X Φ ea Wx (.frz i :: B')) := by
  refine h2.imp ?_
  rintro D st H ⟨W, ρ, σ, hρ, hσ, h⟩
  unfold exs ex at h
  cases e1 : ρ[i]? with
  | none => rw [e1] at h; exact False.elim h
  | some o =>
    cases o with
    | none => rw [e1] at h; exact False.elim h
    | some d =>
      cases d with
      | ref n =>
        rw [e1] at h
        dsimp only at h
        obtain ⟨v, hv, rv⟩ := hρ.2 i _ e1
        simp only [Rep] at rv
        obtain ⟨_, rfl⟩ := rv
        cases e2 : σ[n]? with
        | none => rw [e2] at h; exact False.elim h
        | some c =>
          cases c with
          | dead => rw [e2] at h; exact False.elim h
          | lst xs =>
            rw [e2] at h
            dsimp only at h
            obtain ⟨vs, hH, q⟩ := hσ.cell n _ e2
            obtain ⟨le, r⟩ := hσ.freeze e2 (by simp) hH
            refine ⟨_, _, _, (hρ.mono le).alt (d := .lst xs) hv ?_, r, PostO.mono le h⟩
            simp only [Rep]
            exact ⟨W.μ n, vs, rfl, upd_same, q.mono le⟩
          | dic ks xs =>
            rw [e2] at h
            dsimp only at h
            obtain ⟨vs, hH, l, q⟩ := hσ.cell n _ e2
            obtain ⟨le, r⟩ := hσ.freeze e2 (by simp) hH
            refine ⟨_, _, _, (hρ.mono le).alt (d := .dic ks xs) hv ?_, r, PostO.mono le h⟩
            simp only [Rep]
            exact ⟨W.μ n, vs, rfl, upd_same, l, q.mono le⟩
      | _ => rw [e1] at h; exact False.elim h
end
end Iv

set_option Elab.async false
set_option linter.all false
set_option maxHeartbeats 8000000
set_option maxRecDepth 4000
/-! adequacy: blocks, defs -/
namespace Iv
open PySem PySem.Spec L2
section
variable {X : Cx} {g : Sg} {N : List Str} {Φ : CallSem} {ea : Exa} {k : Nat} {Wx : WX} {sc : Scope}
theorem st_setC (C : Pc X g N Φ ea k Wx sc) {y : Str} {py pos sp : Pos} {elt tg iter : Expr} {ifs : List Expr} {scope : Scope} {i : Nat} {mu : Bool} {own : List Nat} {t : Tg} {kd : IK} {its : List Ex} {c elt' : Ex} {n : Nat}
    (h0 : swB sc (.Name y py) (.ListComp elt [⟨tg, iter, ifs, 0⟩] scope pos) = true) (hy : N[i]? = some y) (h : chkE g N n sc (.ListComp elt [⟨tg, iter, ifs, 0⟩] scope pos) (.comp mu own t kd its c elt') = true) :
    PS X (.Assign [.Name y py] (.ListComp elt [⟨tg, iter, ifs, 0⟩] scope pos) sp) (Ts X Φ ea Wx (.asg (.nm i) (.comp mu own t kd its c elt'))) := by
  cases n with
  | zero => rw [chkE.eq_def] at h; cases h
  | succ n =>
    rw [chkE] at h
    simp only [Bool.and_eq_true] at h
    obtain ⟨⟨⟨⟨⟨h1, h2⟩, h3⟩, h4⟩, h5⟩, h6⟩ := h
    have ih := adE_all (g := g) (N := N) (Φ := Φ) (ea := ea) (k := k) n
    obtain ⟨i1, i2⟩ := ih.fI C (tg := tg) h2
    have hk : scope.kind = .function := (blkOk_by h1).kind
    have h0 : (sc.names.lookup y == some NameKind.local && py.line == pos.line && !(scope.names.any fun (n, k) => n == y && (k == .local || k == .cell))) = true := h0
    simp only [Bool.and_eq_true, Bool.not_eq_true', beq_iff_eq] at h0
    obtain ⟨⟨g1, g2⟩, g3⟩ := h0
    have := ad_comp C h1 i1 h3 h4 (fun s H L cl fp => ih.fF (C.blk hk) h5) (fun s H L cl fp => (ih.fE (C.blk hk) h6).1) i2 (mu := mu) (u := fun te => PS X (.Assign [.Name y py] (.ListComp elt [⟨tg, iter, ifs, 0⟩] scope pos) sp) (tAsg te (gName i)))
      fun ok hg => ps_setLc C.pl.calm (by rw [C.hN]; exact C.nd) (by rw [C.hN]; exact hy) (by rw [C.hsc]; exact g1) (sw_true (by rw [C.hsc]; exact C.kind) (by rw [C.hsc]; exact g1) (by rw [g2]; exact beq_self_eq_true _) g3) i1 ok hg (fun s H L cl fp => ih.fF (C.blk hk) h5) (fun s H L cl fp => (ih.fE (C.blk hk) h6).1) i2
    refine this.1.imp ?_
    rintro D st H ⟨W, ρ, σ, hρ, hσ, h⟩
    unfold ex at h
    refine this.2 _ _ _ (PostO.bindE hρ hσ h fun d σ1 W1 v H1 le1 hσ1 r1 h1 => ?_)
    exact h1 W1 _ H1 (Le.refl _) ((hρ.mono le1).set r1 i) hσ1
structure AdS (X : Cx) (g : Sg) (N : List Str) (Φ : CallSem) (ea : Exa) (Wx : WX) (sc : Scope) (n : Nat) : Prop where
  s : ∀ {a : Stmt} {a' : Stt}, chkS g N n sc a a' = true → PS X a (Ts X Φ ea Wx a')
  b : ∀ {a : List Stmt} {a' : List Stt}, chkB g N n sc a a' = true → PSs X a (Tb X Φ ea Wx a')
theorem adS_all (C : Pc X g N Φ ea k Wx sc) (hs : Stores X N sc) (hp : PassesOwn (model X.prog X.w) X.A X.env X.xe) : ∀ n, AdS X g N Φ ea Wx sc n
  | 0 => ⟨(by intro a a' h; rw [chkS.eq_def] at h; cases h), (by intro a a' h; rw [chkB.eq_def] at h; cases h)⟩
  | n + 1 => by
    have ih := adS_all C hs hp n
    have ie := adE_all (g := g) (N := N) (Φ := Φ) (ea := ea) (k := k) n
    refine ⟨?_, ?_⟩
    · intro a a' h
      rw [chkS.eq_def] at h
      split at h
      · rename_i q; cases q
      all_goals (rename_i q0; try (injection q0 with q0; subst q0))
      · simp only [Bool.and_eq_true] at h
        obtain ⟨⟨⟨⟨h1, h2⟩, h3⟩, h4⟩, h5⟩ := h
        exact st_put C h1 h2 (ie.fE C h3).1 (ie.fE C h4).1 (ie.fE C h5).1
      · simp only [Bool.and_eq_true, Bool.not_eq_true', decide_eq_true_eq, beq_iff_eq] at h
        obtain ⟨⟨⟨⟨⟨⟨⟨⟨⟨⟨h1, h2⟩, h3⟩, h4⟩, h5⟩, h6⟩, h7⟩, h8⟩, h9⟩, h10⟩, h11⟩ := h
        exact st_par C h1 h2 h3 h4 h5 h6 h7 h8 (ie.fE C h9).1 (ie.fE C h10).1 h11
      · simp only [Bool.and_eq_true, Bool.not_eq_true'] at h
        obtain ⟨⟨⟨h1, h2⟩, h3⟩, h4⟩ := h
        refine st_asg C hs h1 ?_ h3 (ie.fE C h4).1
        split at h2
        · assumption
        · cases h2
      · refine ps_doc.imp ?_
        rintro D st H ⟨W, ρ, σ, hρ, hσ, h⟩
        unfold ex at h
        exact h.here hρ hσ
      · simp only [Bool.and_eq_true] at h
        exact st_exp h.1 (ie.fE C h.2).1
      · exact st_ret (ie.fE C h).1
      · exact st_ret0
      · simp only [Bool.and_eq_true] at h
        obtain ⟨⟨h1, h2⟩, h3⟩ := h
        exact st_if (ie.fE C h1).2 (ih.b h2) (ih.b h3)
      · simp only [Bool.and_eq_true] at h
        exact st_whl hp (ie.fE C h.1).2 (ih.b h.2)
      · simp only [Bool.and_eq_true] at h
        obtain ⟨⟨h1, h2⟩, h3⟩ := h
        exact st_for C hs hp (ie.fI C h1).1 (ie.fI C (tg := .Name "" ⟨0, 0, 0, 0⟩) h1).2 h2 (ih.b h3)
      · refine ps_break.imp ?_
        rintro D st H ⟨W, ρ, σ, hρ, hσ, h⟩
        unfold ex at h
        exact h W st H (Le.refl _) hρ hσ
      · refine ps_continue.imp ?_
        rintro D st H ⟨W, ρ, σ, hρ, hσ, h⟩
        unfold ex at h
        exact h W st H (Le.refl _) hρ hσ
      · refine ps_pass.imp ?_
        rintro D st H ⟨W, ρ, σ, hρ, hσ, h⟩
        unfold ex at h
        exact h.here hρ hσ
      · cases h
    · intro a a' h
      rw [chkB.eq_def] at h
      split at h
      · rename_i q; cases q
      all_goals (rename_i q0; try (injection q0 with q0; subst q0))
      · exact st_frz (ih.b h)
      · exact st_nil
      · rw [Bool.and_eq_true] at h
        obtain ⟨h1, h2⟩ := h
        refine st_cons ?_ (ih.b h2)
        split at h1
        · rename_i hsw
          simp only [Bool.and_eq_true, decide_eq_true_eq] at h1
          exact st_setC C hsw h1.1 h1.2
        · exact ih.s h1
      · rw [Bool.and_eq_true] at h
        exact st_cons (ih.s h.1) (ih.b h.2)
      · cases h
end
end Iv

set_option Elab.async false
set_option linter.all false
set_option maxHeartbeats 8000000
/-! adequacy: defs -/
namespace Iv
open PySem PySem.Spec L2
section
variable {P : Program} {w : World} {K : PySem.W.Frag} {mg : Str → Option Value} {base : Heap} {ea : Exa} {g : Sg} {pr : List Fd}
/-- a def of the text keeps its promise where its body does -/
theorem fnG_of {k : Nat} {f : Addr} {name qual : Str} {params : Arguments} {body : List Stmt} {scope : Scope} {dV kV doc pm cdv ct oc : Value} {an od : Option Addr} {osl : Array (Option Value)} {N ps : List Str} {sp : Sp}
    (lk : K.lookup f = some ⟨oc, od, .func (PySem.W.fnOf name qual params body scope dV kV doc pm an cdv ct), osl⟩) (hcd : PySem.W.codeIn K cdv qual = true) (S : FnScope N ps scope) (len : ∀ vs H Q E, sp vs H Q E → vs.length = ps.length)
    (hbody : ∀ (A : Around) (outer : List PySem.Env) (s : Shared) (H : Hp) (vs : List V) (Q : VK) (E : XK), Room k (A.deeper (PyProof.Rows.envOfC qual scope s.heap.objs.size f cdv)) → A.guards = some [] → sp vs H Q E →
      ∃ t, PSs (cxOf (CX P w) P w K mg base N qual scope f cdv A outer s H E) body t ∧ t { nx := fun _ H' => Q .non H', rt := Q } (L2.start N vs) H) :
    FnG P w K mg base (k + 1) f (PySem.W.fnOf name qual params body scope dV kV doc pm an cdv ct) ps sp := by
  refine ⟨len, fun A outer s H args us vs Q E hr hgd e0 hb r hsp => ?_⟩
  have hl := len _ _ _ _ hsp
  have kept : ∀ b o, base.get? b = some o → s.heap.get? b = some o := fun b o e => (e0.bs b o e).1
  have KX : K.In s.heap := e0.mod.kin.keeps kept
  have lim : s.heap.NoLimit := e0.mod.nolimit.keeps kept
  have hkind : ∀ y ∈ ps.zip us, scope.names.lookup y.1 = some .local ∨ (scope.names.lookup y.1 = some .cell ∧ ((cellsFrom (s.heap.objs.size + 1) scope.names []).lookup y.1).isSome = true) := by
    rintro ⟨n, v⟩ hy
    rcases S.par n (List.of_mem_zip hy).1 with q | q
    · exact .inl q
    · exact .inr ⟨q, PySem.W.cellsFrom_some _ _ _ (.inl q)⟩
  refine codeAny_call_function hr.depth (KX _ _ lk) rfl S.co S.gen rfl (PySem.W.codeRec_of KX hcd) (hb _ _ _ _ ?_)
  refine wpAny_newFunctionEnv_cells S.kind hkind fun env he s1 x => ?_
  subst he
  refine ⟨lim.keeps x.toInCall.keep, codeAny_func ?_⟩
  obtain ⟨t, ht, hq⟩ := hbody A outer s H vs Q E (hr.deeper _) hgd hsp
  have I : L2.Inv (cxOf (CX P w) P w K mg base N qual scope f cdv A outer s H E) [] (L2.start N vs) H s1 := inv_start S hr.hd e0 hl r x
  refine wpAny_mono (ht.run [] s1 (L2.start N vs) H _ I hq) (fun fl s' hs => ?_) fun e s' hs => hs
  have done : ∀ {st' : L2.St} {H' : Hp} {v : V} {u : Value}, L2.Inv (cxOf (CX P w) P w K mg base N qual scope f cdv A outer s H E) [] st' H' s' → RelV v u → Q v H' → CE outer P w H s Q u s' := by
    intro st' H' v u J rv q
    exact ⟨v, H', J.os, J.bare, J.base, J.hok, rv, q⟩
  cases fl with
  | ret u =>
    obtain ⟨v, st', H', J, rv, q⟩ := hs
    exact done J rv q
  | next =>
    obtain ⟨st', H', J, q⟩ := hs
    exact done (v := V.non) (u := Value.none) J rfl q
  | brk =>
    obtain ⟨_, _, _, q⟩ := hs
    exact False.elim q
  | cont =>
    obtain ⟨_, _, _, q⟩ := hs
    exact False.elim q
/-- what the text's def at f is -/
structure DefOk (K : PySem.W.Frag) (g : Sg) (f : Addr) (fd : FuncData) (ps N : List Str) (b : Fd) : Prop where
  ex : ∃ (fuel : Nat) (name qual : Str) (params : Arguments) (body : List Stmt) (scope : Scope) (dV kV doc pm cdv ct oc : Value) (an od : Option Addr) (osl : Array (Option Value)),
    fd = PySem.W.fnOf name qual params body scope dV kV doc pm an cdv ct ∧ K.lookup f = some ⟨oc, od, .func fd, osl⟩ ∧ PySem.W.codeIn K cdv qual = true ∧ FnScope N ps scope ∧ chkB g N fuel scope body b.body = true
  np : ps.length = b.np
  ns : N.length = b.ns
/-- all that the text's globals are -/
structure Lib (P : Program) (w : World) (K : PySem.W.Frag) (mg : Str → Option Value) (base : Heap) (g : Sg) (pr : List Fd) : Prop where
  defs : ∀ x i shs, g.fns.lookup x = some (i, shs) → ∃ f fd ps N b, mg x = some (.ref f) ∧ PySem.W.keepIn K (.ref f) = true ∧ pr[i]? = some b ∧ DefOk K g f fd ps N b ∧ ∀ sh ∈ shs, sh.pm.length = b.np ∧ ShOk P w K fd ps sh
  glo : ∀ x d, g.glo.lookup x = some d → ∃ v u, mg x = some u ∧ RelV v u ∧ ∀ W, Rep P w K W d v
  blt : ∀ x ∈ bltNames, mg x = none
  sy : ∃ o, base.get? sysModules = some o ∧ o.cls ≠ .type "list"
theorem leave_post {Q : VK} {Wx : WX} {W0 W : Wd} {σ0 σ : Store} {H0 H : Hp} {d : D} {v : V} (r0 : Rel P w K W0 σ0 H0) (le : Le W0 W) (r : Rel P w K W σ H) (rd : Rep P w K W d v) (h : Post P w K ea Wx [] W0 (leave σ0 d σ) Q) : Q v H := by
  unfold leave at h
  split at h
  · rename_i c
    obtain ⟨l2, r2⟩ := Rel.cut r0 le r c.2
    exact h _ v H l2 r2 (rd.cut c.1)
  · exact h W v H le r rd
theorem envR_start {W : Wd} {N : List Str} {ds : List D} {vs : List V} {ns : Nat} (hn : N.length = ns) (q : Reps P w K W ds vs) : EnvR P w K W (ds.map some ++ List.replicate (ns - ds.length) none) (L2.start N vs) := by
  subst hn
  have l := q.length
  refine ⟨?_, fun i d e => ?_⟩
  · unfold L2.start; simp [l]
  · have hi : i < ds.length := by
      by_cases hi : i < ds.length
      · exact hi
      · rw [List.getElem?_append_right (by simpa using hi), List.getElem?_replicate] at e
        split at e <;> cases e
    rw [List.getElem?_append_left (by simpa using hi), List.getElem?_map, List.getElem?_eq_getElem hi] at e
    have e : ds[i] = d := by simpa using e
    obtain ⟨v, h1, h2⟩ := q.get (List.getElem?_eq_getElem hi)
    refine ⟨v, ?_, e ▸ h2⟩
    unfold L2.start
    rw [List.getElem?_append_left (by rw [List.length_map]; omega), List.getElem?_map, h1]; rfl
/-- a def keeps its promise, where the defs that it calls keep theirs -/
theorem fn_step {k i : Nat} {f : Addr} {fd : FuncData} {ps N : List Str} {b : Fd} (L : Lib P w K mg base g pr) (ih : ∀ x i shs, g.fns.lookup x = some (i, shs) → ∃ f fd ps np, mg x = some (.ref f) ∧ PySem.W.keepIn K (.ref f) = true ∧ FnG P w K mg base k f fd ps (spC P w K ea (callK pr k) np i) ∧ ∀ sh ∈ shs, sh.pm.length = np ∧ ps.length = np ∧ ShOk P w K fd ps sh)
    (h3 : pr[i]? = some b) (h4 : DefOk K g f fd ps N b) : FnG P w K mg base (k + 1) f fd ps (spC P w K ea (callK pr (k + 1)) b.np i) := by
  obtain ⟨fuel, name, qual, params, body, scope, dV, kV, doc, pm, cdv, ct, oc, an, od, osl, rfl, lk, hcd, S, hchk⟩ := h4.ex
  refine fnG_of lk hcd S (fun vs H Q E q => q.1.trans h4.np.symm) fun A outer s H vs Q E hr hgd hsp => ?_
  refine ⟨Tb (cxOf (CX P w) P w K mg base N qual scope f cdv A outer s H E) (callK pr k) ea (fun cls d _ H => E cls d H) b.body, ?_, ?_⟩
  · have C : Pc (cxOf (CX P w) P w K mg base N qual scope f cdv A outer s H E) g N (callK pr k) ea k (fun cls d _ H => E cls d H) scope :=
      ⟨⟨rfl, by have := hr.un; show (A.deeper _).units + 200 < cLine; omega, hgd⟩, ⟨L.sy⟩, rfl, S.nd, rfl, S.kind, hr, ih, L.glo, L.blt, takes_of rfl rfl rfl rfl⟩
    exact (adS_all C (fun y hy => ⟨locC_or hy, .inl rfl⟩) (passes_of rfl) fuel).b hchk
  · obtain ⟨hl, W, σ, ds, hσ, rd, hp⟩ := hsp
    refine ⟨W, ds.map some ++ List.replicate (b.ns - ds.length) none, σ, envR_start h4.ns rd, hσ, ?_⟩
    unfold callK at hp
    rw [h3] at hp
    dsimp only at hp
    rw [if_pos (by rw [rd.length]; exact hl)] at hp
    cases e : exs (callK pr k) b.body (ds.map some ++ List.replicate (b.ns - ds.length) none) σ with
    | nx ρ1 σ1 => rw [e] at hp; exact fun W' st' H' le _ r => leave_post hσ le r (by simp only [Rep]) hp
    | rt d σ1 => rw [e] at hp; exact fun W' v H' le r rd => leave_post hσ le r rd hp
    | exc c d σ1 => rw [e] at hp; exact fun W' st' H' cls dx le r q => hp W' H' cls dx le r q
    | bk _ _ => rw [e] at hp; exact False.elim hp
    | ct _ _ => rw [e] at hp; exact False.elim hp
    | bad => rw [e] at hp; exact False.elim hp
theorem fns_all (L : Lib P w K mg base g pr) : ∀ k, ∀ x i shs, g.fns.lookup x = some (i, shs) → ∃ f fd ps np, mg x = some (.ref f) ∧ PySem.W.keepIn K (.ref f) = true ∧ FnG P w K mg base k f fd ps (spC P w K ea (callK pr k) np i) ∧ ∀ sh ∈ shs, sh.pm.length = np ∧ ps.length = np ∧ ShOk P w K fd ps sh
  | 0, x, i, shs, h => by
    obtain ⟨f, fd, ps, N, b, h1, h2, h3, h4, h5⟩ := L.defs x i shs h
    refine ⟨f, fd, ps, b.np, h1, h2, ⟨fun vs H Q E q => q.1.trans h4.np.symm, fun A outer s H args us vs Q E _ _ _ _ _ q => ?_⟩, fun sh hs => ⟨(h5 sh hs).1, h4.np, (h5 sh hs).2⟩⟩
    obtain ⟨_, W, σ, ds, _, _, q⟩ := q
    exact False.elim q
  | k + 1, x, i, shs, h => by
    obtain ⟨f, fd, ps, N, b, h1, h2, h3, h4, h5⟩ := L.defs x i shs h
    exact ⟨f, fd, ps, b.np, h1, h2, fn_step L (fns_all L k) h3 h4, fun sh hs => ⟨(h5 sh hs).1, h4.np, (h5 sh hs).2⟩⟩
theorem fn_all {i : Nat} {f : Addr} {fd : FuncData} {ps N : List Str} {b : Fd} (L : Lib P w K mg base g pr) (h3 : pr[i]? = some b) (h4 : DefOk K g f fd ps N b) : ∀ k, FnG P w K mg base (k + 1) f fd ps (spC P w K ea (callK pr (k + 1)) b.np i) :=
  fun k => fn_step L (fns_all L k) h3 h4
end
end Iv

set_option Elab.async false
set_option linter.all false
set_option maxHeartbeats 8000000
/-! the head: from the evaluator's answer to the law -/
namespace Iv
open PySem PySem.Spec L2
/-- the law's def is called on the script -/
theorem law_callG {P : Program} {w : World} {K : PySem.W.Frag} {mg mb : Str → Option Value} {k : Nat} {fa a : Addr} {fd : FuncData} {x : Str} {sp : Sp} {s₁ : Shared} {vs : List Value} {ns : List Int}
    (KX : K.In s₁.heap) (hns : s₁.heap.Ns mainGlobals mg) (hb : s₁.heap.Ns builtinsNs mb) (hbb : ∀ x : Str, x ≠ "__name__" → mb x = bootBuiltins x) (hlim : s₁.heap.NoLimit) (hg : s₁.gens = #[])
    (ha : s₁.heap.get? a = some { cls := .type "list", data := .seq vs.toArray }) (hi : PyProof.Rows.IntsAre vs ns) (hl : ns.length ≤ sizeLine) (hr : Room k callerA)
    (F : ∀ base : Heap, K.In base → FnG P w K mg base k fa fd [x] sp) (hbind : ∀ (s : Shared) (u : Value), K.In s.heap → BindsTo s fd ⟨[u], []⟩ [(x, u)])
    (hsp : ∀ H : Hp, Only H → SqL K H a (ns.map V.int) → sp [.ref a] H (fun v _ => v = .bl true) fun _ _ _ => False) :
    codeAny (model P w) callerA (.call (.ref fa) ⟨[.ref a], []⟩) (fun r s' => r = .ok (.ret (.bool true)) ∧ OldK s₁.heap s'.heap ∧ s'.os = s₁.os ∧ PyProof.Rows.AllBare s'.gens) s₁ := by
  have rv := vals_ints hi
  have lenV := hi.length
  have core : ∀ H : Hp, Only H → SqL K H a (ns.map V.int) → HOk P w H s₁.heap → (∀ b, H b ≠ none → b = a) → (H a ≠ none → K.lookup a = none) →
      codeAny (model P w) callerA (.call (.ref fa) ⟨[.ref a], []⟩) (fun r s' => r = .ok (.ret (.bool true)) ∧ OldK s₁.heap s'.heap ∧ s'.os = s₁.os ∧ PyProof.Rows.AllBare s'.gens) s₁ := by
    intro H hO hS hok hA hK
    have only : ∀ {b : Addr}, b ≠ a → H b = none := by
      intro b hb
      cases q : H b with
      | none => rfl
      | some u => exact absurd (hA b (by rw [q]; simp)) hb
    have kept : ∀ {b : Addr} {o : Obj}, s₁.heap.get? b = some o → H b = none → (hidT s₁.heap H).get? b = some o := fun e n => hidT_get e n
    have dictFree : ∀ {b : Addr} {o : Obj} {es : Array DictEntry} {ep : Nat}, s₁.heap.get? b = some o → o.data = .dict es ep → H b = none := by
      intro b o es ep e d
      refine only fun z => ?_
      subst z
      rw [ha] at e
      cases e
      cases d
    have nsK : ∀ {b : Addr} {m : Str → Option Value}, s₁.heap.Ns b m → (hidT s₁.heap H).Ns b m := fun ⟨o, es, ep, e, d, r⟩ => ⟨o, es, ep, kept e (dictFree e d), d, r⟩
    have hKb : K.In (hidT s₁.heap H) := by
      intro b o e
      refine kept (KX b o e) ?_
      by_cases z : b = a
      · subst z
        cases q : H b with
        | none => rfl
        | some u => rw [hK (by rw [q]; simp)] at e; cases e
      · exact only z
    have hM : Mod K mg (hidT s₁.heap H) := ⟨hKb, nsK hns, ⟨mb, nsK hb, hbb⟩, let ⟨mc, h1, h2⟩ := hlim; ⟨mc, nsK h1, h2⟩⟩
    have e0 : Env0 P w K mg (hidT s₁.heap H) callerA [] s₁ H := ⟨rfl, hM, fun b o e => of_hidT e, Nat.le_of_eq (hidT_size _ _), trivial, (by intro b z; cases z), hok, .of_eq hg⟩
    refine codeAny_mono ((F _ hKb).run callerA [] s₁ H ⟨[.ref a], []⟩ [.ref a] [.ref a] _ _ hr rfl e0 (hbind s₁ (.ref a) KX) (.cons rfl .nil) (hsp H hO hS)) fun r s' h => ?_
    cases r with
    | error e =>
      obtain ⟨_, _, _, _, _, _, _, _, _, _, _, _, z⟩ := h
      exact z.elim
    | ok fl =>
      cases fl with
      | next => exact False.elim h
      | brk => exact False.elim h
      | cont => exact False.elim h
      | ret u =>
        obtain ⟨v, H', os, bare, un, hok', r', q⟩ := h
        have q' : v = .bl true := q
        subst q'
        obtain rfl : u = Value.bool true := r'
        refine ⟨rfl, OldK.of_keep fun b o e => ?_, os, bare⟩
        cases q : H b with
        | none => exact un.keep b o e q (by intro z; cases z) (by intro z; cases z)
        | some u =>
          rcases hO b with z | ⟨ob, xs, z⟩
          · rw [q] at z; cases z
          · obtain ⟨e1, _⟩ := hok b _ z
            obtain ⟨e2, _⟩ := hok' b _ (un.frzs b ob _ z)
            rw [e] at e1; cases e1
            exact e2
  cases hk : K.lookup a with
  | some o =>
    have e := KX a o hk
    rw [ha] at e
    cases e
    exact core (fun _ => none) (fun _ => .inl rfl) (.inr ⟨_, vs.toArray, _, hk, rfl, rfl, rfl, by rw [List.size_toArray, lenV]; exact hl, by simpa using rv⟩) (fun b u z => nomatch (show (none : Option HO) = some u from z)) (fun b z => absurd rfl z) fun z => absurd rfl z
  | none =>
    refine core (fun b => if b = a then some (.frz { cls := .type "list", data := .seq vs.toArray } (.lst (ns.map V.int))) else none) (fun b => ?_) (.inl (.inr ⟨{ cls := .type "list", data := .seq vs.toArray }, if_pos rfl⟩)) (fun b u z => ?_) (fun b z => ?_) fun _ => hk
    · by_cases hb : b = a
      · exact .inr ⟨_, _, if_pos hb⟩
      · exact .inl (if_neg hb)
    · by_cases hb : b = a
      · have z' := (if_pos hb).symm.trans z
        cases z'
        subst hb
        exact ⟨ha, by rw [List.length_map]; exact hl, vs, _, rv, ha⟩
      · cases (if_neg hb).symm.trans z
    · by_cases hb : b = a
      · exact hb
      · exact absurd (if_neg hb) z
theorem walk_ofG {l : PySem.W.OpenLaw} {n k : Nat} {q : Program} {loose : List Str} {XP : (Str → Option Value) → Heap → Prop} {YP : World → Heap → Prop} {d : DefRec} {x : Str}
    (hn : l.most = some n) (hn2 : n ≤ sizeLine) (hdf : d.params.defaults = []) (hr : Room k callerA)
    (F : ∀ (w : World) (mg : Str → Option Value) (fa : Addr) (h : Heap), YP w h → h.Ns mainGlobals mg → mg d.name = some (.ref fa) →
      ∃ (K : PySem.W.Frag) (fd : FuncData) (sp : Sp), K.In h ∧ (∀ (s : Shared) (u : Value), K.In s.heap → BindsTo s fd ⟨[u], []⟩ [(x, u)]) ∧
        (∀ (H : Hp) (a : Addr) (ns : List Int), ns.length ≤ n → Only H → SqL K H a (ns.map V.int) → sp [.ref a] H (fun v _ => v = .bl true) fun _ _ _ => False) ∧
        ∀ base : Heap, K.In base → FnG l.prog w K mg base k fa fd [x] sp) :
    PySem.W.WalkO q loose XP YP l.row.toRowW d [] (fun f vs => PySem.call f vs) := by
  refine Att.attach_call hn hdf fun w s₀ s₁ mg mb fa o pm cd doc a vs ns G Y ho hd hcd hmg hobj hints hlen hg => ?_
  obtain ⟨K, fd, sp, KX, hb, hsp, hF⟩ := F w mg fa _ Y G.T.g hmg
  exact law_callG KX G.T.g G.T.b G.T.builtins G.T.nolimit hg hobj hints (Nat.le_trans hlen hn2) hr hF hb (fun H hO hS => hsp H a ns hlen hO hS)
/-! ### what is known of a def -/
structure Info where
  d : He.DefD
  N : List Str
  b : Fd
  shs : List Shp
def psOf (d : He.DefD) : List Str := d.params.args.map (·.arg)
def scopeC (N ps : List Str) (sc : Scope) : Bool := (match sc.kind with
    | .function => true
    | _ => false) && !sc.isCoroutine && !sc.isGenerator && decide N.Nodup && decide (N.take ps.length = ps) && (ps.all fun x => locC sc x) && sc.names.all fun y => !(y.2 == .free)
theorem scopeC_ok {N ps : List Str} {sc : Scope} (h : scopeC N ps sc = true) : FnScope N ps sc := by
  unfold scopeC at h
  simp only [Bool.and_eq_true, Bool.not_eq_true', decide_eq_true_eq, List.all_eq_true] at h
  obtain ⟨⟨⟨⟨⟨⟨h1, h2⟩, h3⟩, h4⟩, h5⟩, h6⟩, h7⟩ := h
  refine ⟨?_, h2, h3, h4, h5, fun x hx => locC_or (h6 x hx), fun y hy e => ?_⟩
  · split at h1
    · assumption
    · cases h1
  · have := h7 y hy
    rw [e] at this
    cases this
def infoC (g : Sg) (fuel : Nat) (i : Info) : Bool := chkB g i.N fuel i.d.scope i.d.body i.b.body && scopeC i.N (psOf i.d) i.d.scope && decide ((psOf i.d).length = i.b.np) && decide (i.N.length = i.b.ns) && (i.shs.all fun sh => decide (sh.pm.length = i.b.np)) && decide (i.d.at_ = (i.d.name, none))
/-- how it may be called -/
def ShsOk (i : Info) : Prop := ∀ (P : Program) (w : World) (K : PySem.W.Frag) (f : Addr) (fd : FuncData), FunD K i.d.name i.d.qual i.d.params i.d.body i.d.scope (i.d.dvs K) (i.d.kws K) f fd → ∀ sh ∈ i.shs, ShOk P w K fd (psOf i.d) sh
def gloB (K : PySem.W.Frag) : Str × D → Bool
  | (x, .str z) => (He.Fa.str x z).ok K
  | (x, .int i) => (He.Fa.int x i).ok K
  | _ => false
def sysB (K : PySem.W.Frag) : Bool := match K.lookup sysModules with
  | some o => !(o.cls == .type "list")
  | none => false
/-! ### the Hook -/
abbrev AlI : Type := Bool × List He.FnW
def obsI (is : List Info) (glo : List (Str × D)) (K : PySem.W.Frag) : AlI :=
  ((is.all fun i => (He.Fa.glo i.d.name).ok K && i.d.ok K) && (bltNames.all fun x => (He.Fa.free x).ok K) && (glo.all fun p => gloB K p) && sysB K, is.map fun i => He.fnW K i.d.at_)
def valI (is : List Info) : AlI := (true, is.map fun i => i.d.val)
def obsIG (n : Nat) (is : List Info) (glo : List (Str × D)) (g : Addr → Option Obj) : AlI := obsI is glo (He.frG g (sysModules :: He.asD g n))
def hookI (n : Nat) (is : List Info) (glo : List (Str × D)) : PySem.W.Hook where
  α := AlI
  obs := fun s => obsIG n is glo s.heap.get?
  val := fun _ => valI is
  says := fun _ h => ∃ K : PySem.W.Frag, K.In h ∧ obsI is glo K = valI is
  of := fun _ _ e => ⟨_, He.frG_in, e⟩
  keeps := fun _ _ _ ⟨K, hK, c⟩ k => ⟨K, PySem.W.Frag.In.keeps hK k, c⟩
theorem obsIG_eq {n : Nat} {is : List Info} {glo : List (Str × D)} {g : Addr → Option Obj} {s : Shared} (h : ∀ a, g a = s.heap.get? a) : obsIG n is glo g = (hookI n is glo).obs s := by
  have e : g = s.heap.get? := funext h
  rw [e] <;> rfl
def obI (n : Nat) (is : List Info) (glo : List (Str × D)) (s : PySem.W.SharedT) : AlI := obsIG n is glo (HandSHeadRun.getT s)
theorem obI_eq {n : Nat} {is : List Info} {glo : List (Str × D)} (s : PySem.W.SharedT) : obI n is glo s = (hookI n is glo).obs s.abs := obsIG_eq (HandSHeadRun.getT_eq s)
def fnsOf : Nat → List Info → List (Str × Nat × List Shp)
  | _, [] => []
  | n, i :: r => (i.d.name, n, i.shs) :: fnsOf (n + 1) r
theorem fnsOf_get {x : Str} {j : Nat} {shs : List Shp} : ∀ {n : Nat} {is : List Info}, (fnsOf n is).lookup x = some (j, shs) → ∃ m i, j = n + m ∧ is[m]? = some i ∧ i.d.name = x ∧ i.shs = shs
  | n, [], h => by cases h
  | n, i :: r, h => by
    unfold fnsOf at h
    rw [List.lookup_cons] at h
    split at h
    · rename_i e
      cases h
      exact ⟨0, i, rfl, rfl, (by simpa using e : x = i.d.name).symm, rfl⟩
    · obtain ⟨m, i', h1, h2, h3⟩ := fnsOf_get h
      exact ⟨m + 1, i', by omega, h2, h3⟩
theorem obsI_parts {is : List Info} {glo : List (Str × D)} {K : PySem.W.Frag} (c : obsI is glo K = valI is) : (∀ i ∈ is, (He.Fa.glo i.d.name).ok K = true ∧ i.d.ok K = true ∧ He.fnW K i.d.at_ = i.d.val) ∧ (∀ x ∈ bltNames, (He.Fa.free x).ok K = true) ∧ (∀ p ∈ glo, gloB K p = true) ∧ sysB K = true := by
  have c1 : ((is.all fun i => (He.Fa.glo i.d.name).ok K && i.d.ok K) && (bltNames.all fun x => (He.Fa.free x).ok K) && (glo.all fun p => gloB K p) && sysB K) = true := congrArg (fun z : AlI => z.1) c
  have c2 : (is.map fun i => He.fnW K i.d.at_) = is.map fun i => i.d.val := congrArg (fun z : AlI => z.2) c
  simp only [Bool.and_eq_true, List.all_eq_true] at c1
  obtain ⟨⟨⟨h1, h2⟩, h3⟩, h4⟩ := c1
  refine ⟨fun i hi => ⟨(h1 i hi).1, (h1 i hi).2, ?_⟩, h2, h3, h4⟩
  exact (List.map_inj_left.mp c2) i hi
theorem lib_of {P : Program} {w : World} {K : PySem.W.Frag} {h : Heap} {mg : Str → Option Value} {base : Heap} {is : List Info} {glo : List (Str × D)} {pr : List Fd} {g : Sg} {fuel : Nat} (X : K.In h) (G : h.Ns mainGlobals mg) (c : obsI is glo K = valI is)
    (hg : g.fns = fnsOf 0 is) (hglo : g.glo = glo) (hpr : pr = is.map (·.b)) (hi : ∀ i ∈ is, infoC g fuel i = true) (hs : ∀ i ∈ is, ShsOk i) (hK : K.In base) : Lib P w K mg base g pr := by
  obtain ⟨c1, c2, c3, c4⟩ := obsI_parts c
  refine ⟨fun x j shs hx => ?_, fun x d hx => ?_, fun x hx => He.free_ok X G (c2 x hx), ?_⟩
  · rw [hg] at hx
    obtain ⟨m, i, e1, e2, e3, e4⟩ := fnsOf_get hx
    have hm := List.mem_of_getElem? e2
    obtain ⟨g1, g2, g3⟩ := c1 i hm
    obtain ⟨fd, F⟩ := He.DefD.funD g3 g2
    have hI := hi i hm
    unfold infoC at hI
    simp only [Bool.and_eq_true, decide_eq_true_eq, List.all_eq_true] at hI
    obtain ⟨⟨⟨⟨⟨i1, i2⟩, i3⟩, i4⟩, i5⟩, i6⟩ := hI
    refine ⟨He.fAd K i.d.at_, fd, psOf i.d, i.N, i.b, ?_, F.kp, ?_, ⟨?_, i3, i4⟩, fun sh hsh => ⟨i5 sh (by rw [e4]; exact hsh), hs i hm P w K _ fd F sh (by rw [e4]; exact hsh)⟩⟩
    · rw [i6, ← e3]
      exact He.glo_ok X G g1
    · rw [hpr, e1, Nat.zero_add, List.getElem?_map, e2]; rfl
    · obtain ⟨oc, od, dV, kV, doc, pm, an, cdv, ct, osl, rfl, lk, hcd, _, _⟩ := F.ex
      exact ⟨fuel, _, _, _, _, _, _, _, _, _, _, _, _, _, _, _, rfl, lk, hcd, scopeC_ok i2, i1⟩
  · rw [hglo] at hx
    have hm : (x, d) ∈ glo := PySem.mem_of_lookup hx
    have hb := c3 _ hm
    cases d with
    | str z =>
      obtain ⟨t, e⟩ := He.str_ok X G (x := x) (z := z) hb
      exact ⟨.str z, _, e, ⟨t, rfl⟩, fun W => by simp only [Rep]⟩
    | int i =>
      obtain ⟨t, e⟩ := He.int_ok X G (x := x) (i := i) hb
      exact ⟨.int i, _, e, ⟨t, rfl⟩, fun W => by simp only [Rep]⟩
    | _ => cases hb
  · unfold sysB at c4
    split at c4
    · rename_i o ho
      refine ⟨o, hK _ _ ho, fun e => ?_⟩
      rw [e] at c4
      revert c4
      decide +kernel
    · cases c4
/-- THE END: the evaluator says True at every script -/
theorem sp_law {P : Program} {w : World} {K : PySem.W.Frag} {ea : Exa} {pr : List Fd} {k j : Nat} {H : Hp} {a : Addr} {ns : List Int} (hO : Only H) (hS : SqL K H a (ns.map V.int)) (h : ∃ σ, callK pr k j [.ro (ns.map D.int)] [] = .ok (.bl true) σ) :
    spC P w K ea (callK pr k) 1 j [.ref a] H (fun v _ => v = .bl true) (fun _ _ _ => False) := by
  obtain ⟨σ, e⟩ := h
  refine ⟨rfl, ⟨0, fun _ => 0, H, []⟩, [], [.ro (ns.map D.int)], ⟨fun _ _ h => h, rfl, (by intro n c e; cases e), (by intro n c e; cases e), (by intro n m c c' e; cases e), (by intro a o e; cases e), List.nodup_nil⟩, Reps.one ?_, ?_⟩
  · simp only [Rep]
    refine ⟨a, _, rfl, hS, ?_⟩
    clear e hS
    induction ns with
    | nil => exact Reps.nil
    | cons n ns ih => exact Reps.cons (by simp only [Rep]) ih
  · rw [e]
    intro W' v H' le r rd
    simpa only [Rep] using rd
/-- a way of calling that asks no default -/
theorem shp_of {P : Program} {w : World} {K : PySem.W.Frag} {x qual : Str} {params : Arguments} {body : List Stmt} {scope : Scope} {f : Addr} {fd : FuncData} {ps : List Str} {np : Nat} {ks : List Str} {pm : List Nat} (F : FunD K x qual params body scope [] [] f fd)
    (h : ∀ (kV doc pmm : Value) (an : Option Addr) (cdv ct : Value) (us ws : List Value), us.length = np → ws.length = ks.length → ∃ vs, permL (us ++ ws ++ []) pm = some vs ∧ bindArgs (PySem.W.fnOf x qual params body scope .none kV doc pmm an cdv ct) ⟨us, ks.zip ws⟩ = pure (ps.zip vs)) : ShOk P w K fd ps ⟨np, ks, [], pm⟩ := by
  obtain ⟨oc, od, dV, kV, doc, pmm, an, cdv, ct, osl, rfl, lk, hcd, hD, hK⟩ := F.ex
  refine ⟨[], [], .nil, fun W => Reps.nil, fun s us ws _ h1 h2 => ?_⟩
  rcases hD with ⟨_, rfl⟩ | ⟨e, _⟩
  · obtain ⟨vs, e1, e2⟩ := h kV doc pmm an cdv ct us ws h1 h2
    exact ⟨vs, e1, .of_eq e2⟩
  · exact absurd rfl e
/-- all that the head asks of a law -/
theorem law_facts {P : Program} {w : World} {K : PySem.W.Frag} {h : Heap} {mg : Str → Option Value} {f : Addr} {is : List Info} {glo : List (Str × D)} {pr : List Fd} {g : Sg} {fuel k j n : Nat} {i : Info} {x y : Str} (X : K.In h) (G : h.Ns mainGlobals mg) (c : obsI is glo K = valI is)
    (hg : g.fns = fnsOf 0 is) (hglo : g.glo = glo) (hpr : pr = is.map (·.b)) (hi : ∀ i ∈ is, infoC g fuel i = true) (hs : ∀ i ∈ is, ShsOk i) (hj : is[j]? = some i) (hn : i.d.name = y) (hp : psOf i.d = [x]) (hb1 : i.b.np = 1) (hsh : (⟨1, [], [], [0]⟩ : Shp) ∈ i.shs) (hfa : mg y = some (.ref f))
    (plain : ∀ ns : List Int, ns.length ≤ n → ∃ σ, callK pr (k + 1) j [.ro (ns.map D.int)] [] = .ok (.bl true) σ) :
    ∃ (fd : FuncData) (sp : Sp), (∀ (s : Shared) (u : Value), K.In s.heap → BindsTo s fd ⟨[u], []⟩ [(x, u)]) ∧
      (∀ (H : Hp) (a : Addr) (ns : List Int), ns.length ≤ n → Only H → SqL K H a (ns.map V.int) → sp [.ref a] H (fun v _ => v = .bl true) fun _ _ _ => False) ∧
      ∀ base : Heap, K.In base → FnG P w K mg base (k + 1) f fd [x] sp := by
  obtain ⟨c1, _, _, _⟩ := obsI_parts c
  have hm : i ∈ is := List.mem_of_getElem? hj
  obtain ⟨g1, g2, g3⟩ := c1 i hm
  obtain ⟨fd, F⟩ := He.DefD.funD g3 g2
  have hI := hi i hm
  unfold infoC at hI
  simp only [Bool.and_eq_true, decide_eq_true_eq, List.all_eq_true] at hI
  obtain ⟨⟨⟨⟨⟨i1, i2⟩, i3⟩, i4⟩, i5⟩, i6⟩ := hI
  have e1 : mg y = some (.ref (He.fAd K i.d.at_)) := by
    rw [i6, ← hn]
    exact He.glo_ok X G g1
  rw [hfa] at e1
  cases e1
  refine ⟨fd, spC P w K ⟨fun _ => none, fun _ => none⟩ (callK pr (k + 1)) 1 j, ?_, fun H a ns hl hO hS => sp_law hO hS (plain ns hl), fun base hKb => ?_⟩
  · intro s u hKs
    obtain ⟨dv, du, hd, hr, hb⟩ := (hs i hm P w K _ fd F _ hsh).ok
    obtain rfl := Reps.nil_iff.mp (hr ⟨0, fun _ => 0, fun _ => none, []⟩)
    cases hd
    obtain ⟨vs, e1, e2⟩ := hb s [u] [] hKs rfl rfl
    cases e1
    rw [hp] at e2
    exact e2
  · have L : Lib P w K mg base g pr := lib_of X G c hg hglo hpr hi hs hKb
    have hF := fn_all (ea := ⟨fun _ => none, fun _ => none⟩) (i := j) (b := i.b) L (by rw [hpr, List.getElem?_map, hj]; rfl) (f := He.fAd K i.d.at_) (fd := fd) (ps := psOf i.d) (N := i.N) ⟨(by
      obtain ⟨oc, od, dV, kV, doc, pm, an, cdv, ct, osl, rfl, lk, hcd, _, _⟩ := F.ex
      exact ⟨fuel, _, _, _, _, _, _, _, _, _, _, _, _, _, _, _, rfl, lk, hcd, scopeC_ok i2, i1⟩), i3, i4⟩ k
    rw [hp, hb1] at hF
    exact hF
end Iv

set_option Elab.async false
set_option linter.all false
set_option maxRecDepth 100000
namespace K03
open PySem Iv
def b_is_short : Fd := ⟨1, 1, [.ret (.and (.isi (.loc 0) [.str]) (.chain .le .le (.int 1) (.bi .len false (.loc 0)) (.glo "MOST_SIGNS" (.int 8))))]⟩
def b_is_word : Fd := ⟨1, 2, [.ret (.and (.call 0 [.loc 0] [] [] [0]) (.bi .all false (.comp false [1] (.nm 1) .on [.loc 0] (.bl true) (.cmp .isin (.loc 1) (.glo "SMALL" (.str "abcdefghijklmnopqrstuvwxyz"))))))]⟩
def b_is_name : Fd := ⟨1, 2, [.ret (.and (.call 0 [.loc 0] [] [] [0]) (.and (.cmp .isin (.idx (.loc 0) (.int 0)) (.glo "CAPITALS" (.str "ABCDEFGHIJKLMNOPQRSTUVWXYZ"))) (.bi .all false (.comp false [1] (.nm 1) .on [.slice false (.loc 0) (.int 1) .nop] (.bl true) (.cmp .isin (.loc 1) (.bin .add (.glo "SMALL" (.str "abcdefghijklmnopqrstuvwxyz")) (.glo "DIGITS" (.str "0123456789"))))))))]⟩
def b_parts_of : Fd := ⟨1, 1, [.ret (.ite (.isi (.loc 0) [.str]) (.tup []) (.slice false (.loc 0) (.int 1) .nop))]⟩
def b_text_of : Fd := ⟨1, 2, [.ite (.isi (.loc 0) [.str]) [.ret (.loc 0)] [], .ret (.bin .add (.bin .add (.bin .add (.idx (.loc 0) (.int 0)) (.glo "LEFT" (.str "("))) (.me .join (.glo "COMMA" (.str ",")) [.comp false [1] (.nm 1) .on [.call 3 [.loc 0] [] [] [0]] (.bl true) (.call 4 [.loc 1] [] [] [0])])) (.glo "RIGHT" (.str ")")))]⟩
def b_pieces_in : Fd := ⟨1, 5, [.asg (.nm 1) (.dic true []), .asg (.nm 2) (.lst true [.star (.loc 0)]), .whl (.cmp .ne (.loc 2) (.lst false [])) [.asg (.nm 3) (.me .pop (.loc 2) []), .asg (.nm 4) (.call 4 [.loc 3] [] [] [0]), .ite (.cmp .notin (.loc 4) (.loc 1)) [.put (.loc 1) (.loc 4) (.loc 3), .exp (.me .extend (.loc 2) [.bi .list false (.call 3 [.loc 3] [] [] [0])])] []], .frz 1, .ret (.bi .tuple false (.comp false [4] (.nm 4) .on [.bi .sorted false (.loc 1)] (.bl true) (.idx (.loc 1) (.loc 4))))]⟩
def b_pieces_of : Fd := ⟨1, 1, [.ret (.call 5 [.lst false [.loc 0]] [] [] [0])]⟩
def b_size_of : Fd := ⟨1, 2, [.ret (.bin .add (.int 1) (.bi .sum false (.comp false [1] (.nm 1) .on [.call 3 [.loc 0] [] [] [0]] (.bl true) (.call 7 [.loc 1] [] [] [0]))))]⟩
def b_names_in : Fd := ⟨1, 2, [.ret (.bi .tuple false (.comp false [1] (.nm 1) .on [.call 6 [.loc 0] [] [] [0]] (.call 2 [.loc 1] [] [] [0]) (.loc 1)))]⟩
def b_words_in : Fd := ⟨1, 2, [.ret (.bi .tuple false (.comp false [1] (.nm 1) .on [.call 6 [.loc 0] [] [] [0]] (.call 1 [.loc 1] [] [] [0]) (.loc 1)))]⟩
def b_with_others : Fd := ⟨2, 3, [.ite (.isi (.loc 0) [.str]) [.ret (.me .get (.loc 1) [.loc 0, .loc 0])] [], .ret (.tup [.idx (.loc 0) (.int 0), .star (.comp false [2] (.nm 2) .on [.call 3 [.loc 0] [] [] [0]] (.bl true) (.call 10 [.loc 2, .loc 1] [] [] [0, 1]))])]⟩
def b_replaced : Fd := ⟨3, 3, [.ret (.call 10 [.loc 0, .dic false [.loc 1, .loc 2]] [] [] [0, 1])]⟩
def b_law_deck : Fd := ⟨1, 4, [.par 2 3 (.bi .list false (.slice false (.loc 0) .nop (.int 63))) (.int 1085703), .for (.nm 1) .on [.loc 2] [.asg (.nm 3) (.bin .mod (.bi .int false (.bin .add (.bin .add (.bin .mul (.loc 3) (.int 48271)) (.bin .mod (.bi .int false (.loc 1)) (.int 2147483629))) (.int 26))) (.int 2147483587))], .ret (.dic true [.str "cells", .rev true (.loc 2), .str "mixed", .loc 3, .str "draws", .int 0])]⟩
def b_law_draw : Fd := ⟨2, 5, [.put (.loc 0) (.str "draws") (.bin .add (.idx (.loc 0) (.str "draws")) (.int 1)), .par 3 4 (.idx (.loc 0) (.str "draws")) (.idx (.loc 0) (.str "mixed")), .ite (.cmp .ne (.idx (.loc 0) (.str "cells")) (.lst false [])) [.asg (.nm 4) (.me .pop (.idx (.loc 0) (.str "cells")) []), .ite (.cmp .ge (.loc 4) (.bin .pow (.int 10) (.int 18))) [.exp (.me .append (.idx (.loc 0) (.str "cells")) [.bin .fdiv (.loc 4) (.loc 1)]), .ret (.bin .mod (.bi .int false (.loc 4)) (.loc 1))] [], .asg (.nm 4) (.bin .add (.bi .int false (.loc 4)) (.idx (.loc 0) (.str "mixed")))] [], .asg (.nm 2) (.bin .mod (.bin .mul (.bi .int false (.bin .add (.bin .add (.bin .mod (.bi .int false (.loc 4)) (.int 2147483629)) (.bin .mul (.bin .mul (.int 60706) (.loc 3)) (.loc 3))) (.int 36))) (.int 40692)) (.int 2147483647)), .asg (.nm 2) (.bin .mod (.bi .int false (.bin .add (.bin .add (.bin .mul (.loc 2) (.loc 2)) (.bin .mul (.int 69621) (.loc 3))) (.int 40))) (.int 2147483579)), .ret (.bin .mod (.bin .fdiv (.bin .mod (.bi .int false (.bin .mul (.loc 2) (.int 39373))) (.int 2147483563)) (.int 64)) (.loc 1))]⟩
def b_law_pick : Fd := ⟨2, 2, [.ret (.idx (.loc 1) (.call 13 [.loc 0, .bi .len false (.loc 1)] [] [] [0, 1]))]⟩
def b_law_need : Fd := ⟨3, 6, [.par 4 5 (.call 13 [.loc 0, .int 3] [] [] [0, 1]) (.call 13 [.loc 0, .loc 2] [] [] [0, 1]), .ite (.or (.cmp .eq (.loc 4) (.int 0)) (.cmp .eq (.loc 1) (.lst false []))) [.ret (.tup [.str "part", .loc 5])] [], .asg (.nm 3) (.call 14 [.loc 0, .loc 1] [] [] [0, 1]), .ret (.ite (.cmp .eq (.loc 4) (.int 1)) (.tup [.str "around", .loc 3, .loc 5]) (.tup [.str "inside", .loc 5, .loc 3]))]⟩
def b_law_kit : Fd := ⟨1, 9, [.par 2 4 (.lst true []) (.lst true []), .for (.nm 1) .on [.lst false [.str "box", .str "half", .str "lock", .str "mark", .str "pair", .str "q", .str "seal", .str "zzzzzzzz"]] [.ite (.cmp .eq (.call 13 [.loc 0, .int 2] [] [] [0, 1]) (.int 0)) [.exp (.me .append (.loc 2) [.tup [.loc 1, .bin .add (.int 1) (.call 13 [.loc 0, .int 3] [] [] [0, 1])]])] []], .frz 2, .asg (.nm 2) (.ite (.cmp .ne (.loc 2) (.lst false [])) (.loc 2) (.lst false [.tup [.str "half", .int 1]])), .asg (.nm 3) (.comp false [1, 6] (.tup [1, 6]) .on [.loc 2] (.cmp .eq (.loc 6) (.int 1)) (.loc 1)), .for (.nm 1) .on [.lst false [.str "ahead", .str "first", .str "look", .str "open", .str "second", .str "undo"]] [.ite (.cmp .eq (.call 13 [.loc 0, .int 2] [] [] [0, 1]) (.int 0)) [.asg (.tup [7, 6]) (.call 14 [.loc 0, .loc 2] [] [] [0, 1]), .asg (.nm 5) (.bi .tuple false (.comp false [8] (.nm 8) .rng [.call 13 [.loc 0, .int 3] [] [] [0, 1]] (.bl true) (.call 15 [.loc 0, .loc 3, .loc 6] [] [] [0, 1, 2]))), .exp (.me .append (.loc 4) [.tup [.loc 1, .loc 7, .call 13 [.loc 0, .loc 6] [] [] [0, 1], .loc 5]])] []], .frz 4, .ret (.tup [.bi .tuple false (.loc 2), .bi .tuple false (.loc 4)])]⟩
def b_law_thing : Fd := ⟨5, 13, [.asg (.nm 5) (.comp false [12] (.nm 12) .on [.loc 1] (.and (.cmp .lt (.idx (.loc 12) (.int 1)) (.loc 3)) (.cmp .gt (.loc 4) (.int 0))) (.loc 12)), .ite (.or (.cmp .eq (.loc 5) (.lst false [])) (.cmp .eq (.call 13 [.loc 0, .int 4] [] [] [0, 1]) (.int 0))) [.ret (.call 14 [.loc 0, .loc 2] [] [] [0, 1])] [], .asg (.tup [7, 8]) (.call 14 [.loc 0, .loc 5] [] [] [0, 1]), .par 9 10 (.tup [.loc 7]) (.bin .sub (.loc 3) (.int 1)), .for (.nm 6) .rng [.loc 8] [.asg (.nm 11) (.bin .add (.int 1) (.call 13 [.loc 0, .bin .sub (.loc 10) (.bin .sub (.bin .sub (.loc 8) (.loc 6)) (.int 1))] [] [] [0, 1])), .par 9 10 (.bin .add (.loc 9) (.tup [.call 17 [.loc 0, .loc 1, .loc 2, .loc 11, .bin .sub (.loc 4) (.int 1)] [] [] [0, 1, 2, 3, 4]])) (.bin .sub (.loc 10) (.loc 11))], .ret (.loc 9)]⟩
def b_law_text : Fd := ⟨1, 2, [.ite (.isi (.loc 0) [.str]) [.ret (.loc 0)] [], .ret (.bin .add (.bin .add (.bin .add (.idx (.loc 0) (.int 0)) (.str "(")) (.me .join (.str ",") [.comp false [1] (.nm 1) .on [.slice false (.loc 0) (.int 1) .nop] (.bl true) (.call 18 [.loc 1] [] [] [0])])) (.str ")"))]⟩
def b_law_is_word : Fd := ⟨1, 2, [.ite (.or (.not (.isi (.loc 0) [.str])) (.or (.cmp .lt (.bi .len false (.loc 0)) (.int 1)) (.cmp .gt (.bi .len false (.loc 0)) (.int 8)))) [.ret (.bl false)] [], .ret (.cmp .eq (.comp false [1] (.nm 1) .on [.loc 0] (.not (.chain .le .le (.str "a") (.loc 1) (.str "z"))) (.loc 1)) (.lst false []))]⟩
def b_law_is_name : Fd := ⟨1, 2, [.ite (.or (.not (.isi (.loc 0) [.str])) (.or (.cmp .lt (.bi .len false (.loc 0)) (.int 1)) (.or (.cmp .gt (.bi .len false (.loc 0)) (.int 8)) (.not (.chain .le .le (.str "A") (.idx (.loc 0) (.int 0)) (.str "Z")))))) [.ret (.bl false)] [], .ret (.cmp .eq (.comp false [1] (.nm 1) .on [.slice false (.loc 0) (.int 1) .nop] (.and (.not (.chain .le .le (.str "a") (.loc 1) (.str "z"))) (.not (.chain .le .le (.str "0") (.loc 1) (.str "9")))) (.loc 1)) (.lst false []))]⟩
def b_law_lot : Fd := ⟨1, 3, [.asg (.nm 1) (.lst false [.loc 0]), .for (.nm 2) .on [.ite (.isi (.loc 0) [.tup]) (.slice false (.loc 0) (.int 1) .nop) (.tup [])] [.asg (.nm 1) (.bin .add (.loc 1) (.call 21 [.loc 2] [] [] [0]))], .ret (.loc 1)]⟩
def b_law_sorted : Fd := ⟨1, 4, [.asg (.nm 1) (.bi .dict false (.comp false [2] (.nm 2) .on [.loc 0] (.bl true) (.tup [.call 18 [.loc 2] [] [] [0], .loc 2]))), .ret (.bi .tuple false (.comp false [3] (.nm 3) .on [.bi .sorted false (.bi .list false (.loc 1))] (.bl true) (.idx (.loc 1) (.loc 3))))]⟩
def b_law_put : Fd := ⟨3, 4, [.ite (.isi (.loc 0) [.str]) [.ret (.ite (.cmp .eq (.loc 0) (.loc 1)) (.loc 2) (.loc 0))] [], .ret (.bin .add (.slice false (.loc 0) .nop (.int 1)) (.bi .tuple false (.comp false [3] (.nm 3) .on [.slice false (.loc 0) (.int 1) .nop] (.bl true) (.call 23 [.loc 3, .loc 1, .loc 2] [] [] [0, 1, 2]))))]⟩
def b_law_right : Fd := ⟨3, 11, [.par 8 9 (.bi .repr false (.lst false [.loc 0, .loc 2])) (.call 21 [.loc 0] [] [] [0]), .asg (.nm 3) (.comp false [10] (.nm 10) .on [.loc 9] (.isi (.loc 10) [.str]) (.loc 10)), .asg (.nm 4) (.lst true [.call 18 [.loc 0] [] [] [0], .call 22 [.loc 9] [] [] [0], .bi .len false (.loc 9)]), .exp (.me .append (.loc 4) [.bi .tuple false (.bi .sorted false (.bi .set false (.comp false [10] (.nm 10) .on [.loc 3] (.call 20 [.loc 10] [] [] [0]) (.loc 10))))]), .exp (.me .append (.loc 4) [.bi .tuple false (.bi .sorted false (.bi .set false (.comp false [10] (.nm 10) .on [.loc 3] (.call 19 [.loc 10] [] [] [0]) (.loc 10))))]), .frz 4, .asg (.nm 5) (.lst false [.call 4 [.loc 0] [] [] [0], .call 6 [.loc 0] [] [] [0], .call 7 [.loc 0] [] [] [0], .call 8 [.loc 0] [] [] [0], .call 9 [.loc 0] [] [] [0]]), .asg (.nm 6) (.lst false [.call 4 [] [.loc 0] [] [0], .call 6 [] [.loc 0] [] [0], .call 7 [] [.loc 0] [] [0], .call 8 [] [.loc 0] [] [0], .call 9 [] [.loc 0] [] [0]]), .ite (.cmp .ne (.bi .repr false (.lst false [.loc 5, .loc 6])) (.bi .repr false (.lst false [.loc 4, .loc 4]))) [.ret (.bl false)] [], .asg (.nm 7) (.lst false [.call 11 [.loc 0, .loc 1, .loc 2] [] [] [0, 1, 2], .call 11 [] [.loc 2, .loc 1, .loc 0] [] [2, 1, 0]]), .ret (.and (.cmp .eq (.bi .repr false (.loc 7)) (.bi .repr false (.bin .mul (.lst false [.call 23 [.loc 0, .loc 1, .loc 2] [] [] [0, 1, 2]]) (.int 2)))) (.cmp .eq (.bi .repr false (.lst false [.loc 0, .loc 2])) (.loc 8)))]⟩
def b_law : Fd := ⟨1, 11, [.asg (.nm 1) (.call 12 [.loc 0] [] [] [0]), .for (.nm 2) .rng [.int 4] [.asg (.tup [7, 8]) (.call 16 [.loc 1] [] [] [0]), .asg (.nm 5) (.idx (.lst false [.lst false [.str "a", .str "K"], .lst false [.str "a", .str "b", .str "K", .str "L", .str "K1"], .lst false [.str "K"], .lst false [.str "half", .str "Zz", .str "Z", .str "Za"]]) (.loc 2)), .for (.nm 6) .rng [.int 4] [.asg (.nm 9) (.call 17 [.loc 1, .loc 7, .loc 5, .ite (.cmp .gt (.loc 6) (.int 0)) (.bin .add (.int 1) (.call 13 [.loc 1, .int 12] [] [] [0, 1])) (.int 30), .int 11] [] [] [0, 1, 2, 3, 4]), .asg (.nm 10) (.call 17 [.loc 1, .loc 7, .loc 5, .bin .add (.int 1) (.call 13 [.loc 1, .int 5] [] [] [0, 1]), .int 4] [] [] [0, 1, 2, 3, 4]), .ite (.not (.call 24 [.loc 9, .call 14 [.loc 1, .lst false [.str "K", .str "L", .str "Z", .str "Q9"]] [] [] [0, 1], .loc 10] [] [] [0, 1, 2])) [.ret (.bl false)] []]], .asg (.nm 3) (.str "K"), .for (.nm 4) .rng [.int 11] [.asg (.nm 3) (.tup [.str "half", .loc 3])], .ret (.and (.call 24 [.loc 3, .str "K", .loc 3] [] [] [0, 1, 2]) (.and (.call 24 [.str "a", .str "K", .str "b"] [] [] [0, 1, 2]) (.call 24 [.str "K", .str "K", .str "K"] [] [] [0, 1, 2])))]⟩
def pr : List Fd := [b_is_short, b_is_word, b_is_name, b_parts_of, b_text_of, b_pieces_in, b_pieces_of, b_size_of, b_names_in, b_words_in, b_with_others, b_replaced, b_law_deck, b_law_draw, b_law_pick, b_law_need, b_law_kit, b_law_thing, b_law_text, b_law_is_word, b_law_is_name, b_law_lot, b_law_sorted, b_law_put, b_law_right, b_law]
end K03

set_option Elab.async false
set_option linter.all false
set_option maxRecDepth 100000
set_option maxHeartbeats 8000000
namespace K03
open PySem PySem.Spec L2 Iv
def top (i : Nat) : Stmt := PySem.Challenge.pw_sealedalike_k03_pieces_sizes_and_names.main.body.getD i (.Pass ⟨0, 0, 0, 0⟩)
def i_is_short : Info := ⟨⟨("is_short", none), "is_short", "is_short", defArgs (top 8), defBody (top 8), defScope (top 8), [], []⟩, ["thing"], b_is_short, [⟨1, [], [], [0]⟩]⟩
def i_is_word : Info := ⟨⟨("is_word", none), "is_word", "is_word", defArgs (top 9), defBody (top 9), defScope (top 9), [], []⟩, ["thing", "sign"], b_is_word, [⟨1, [], [], [0]⟩]⟩
def i_is_name : Info := ⟨⟨("is_name", none), "is_name", "is_name", defArgs (top 10), defBody (top 10), defScope (top 10), [], []⟩, ["thing", "sign"], b_is_name, [⟨1, [], [], [0]⟩]⟩
def i_parts_of : Info := ⟨⟨("parts_of", none), "parts_of", "parts_of", defArgs (top 11), defBody (top 11), defScope (top 11), [], []⟩, ["thing"], b_parts_of, [⟨1, [], [], [0]⟩]⟩
def i_text_of : Info := ⟨⟨("text_of", none), "text_of", "text_of", defArgs (top 12), defBody (top 12), defScope (top 12), [], []⟩, ["thing", "part"], b_text_of, [⟨1, [], [], [0]⟩, ⟨0, ["thing"], [], [0]⟩]⟩
def i_pieces_in : Info := ⟨⟨("pieces_in", none), "pieces_in", "pieces_in", defArgs (top 13), defBody (top 13), defScope (top 13), [], []⟩, ["things", "found", "waiting", "here", "text"], b_pieces_in, [⟨1, [], [], [0]⟩]⟩
def i_pieces_of : Info := ⟨⟨("pieces_of", none), "pieces_of", "pieces_of", defArgs (top 14), defBody (top 14), defScope (top 14), [], []⟩, ["thing"], b_pieces_of, [⟨1, [], [], [0]⟩, ⟨0, ["thing"], [], [0]⟩]⟩
def i_size_of : Info := ⟨⟨("size_of", none), "size_of", "size_of", defArgs (top 15), defBody (top 15), defScope (top 15), [], []⟩, ["thing", "part"], b_size_of, [⟨1, [], [], [0]⟩, ⟨0, ["thing"], [], [0]⟩]⟩
def i_names_in : Info := ⟨⟨("names_in", none), "names_in", "names_in", defArgs (top 16), defBody (top 16), defScope (top 16), [], []⟩, ["thing", "piece"], b_names_in, [⟨1, [], [], [0]⟩, ⟨0, ["thing"], [], [0]⟩]⟩
def i_words_in : Info := ⟨⟨("words_in", none), "words_in", "words_in", defArgs (top 17), defBody (top 17), defScope (top 17), [], []⟩, ["thing", "piece"], b_words_in, [⟨1, [], [], [0]⟩, ⟨0, ["thing"], [], [0]⟩]⟩
def i_with_others : Info := ⟨⟨("with_others", none), "with_others", "with_others", defArgs (top 18), defBody (top 18), defScope (top 18), [], []⟩, ["thing", "others", "part"], b_with_others, [⟨2, [], [], [0, 1]⟩]⟩
def i_replaced : Info := ⟨⟨("replaced", none), "replaced", "replaced", defArgs (top 19), defBody (top 19), defScope (top 19), [], []⟩, ["thing", "name", "other"], b_replaced, [⟨3, [], [], [0, 1, 2]⟩, ⟨0, ["other", "name", "thing"], [], [2, 1, 0]⟩]⟩
def i_law_deck : Info := ⟨⟨("_law_deck", none), "_law_deck", "_law_deck", defArgs (top 21), defBody (top 21), defScope (top 21), [], []⟩, ["_law_script", "_law_cell", "_law_cells", "_law_mixed"], b_law_deck, [⟨1, [], [], [0]⟩]⟩
def i_law_draw : Info := ⟨⟨("_law_draw", none), "_law_draw", "_law_draw", defArgs (top 22), defBody (top 22), defScope (top 22), [], []⟩, ["_law_deck_here", "_law_below", "_law_figure", "_law_turn", "_law_cell"], b_law_draw, [⟨2, [], [], [0, 1]⟩]⟩
def i_law_pick : Info := ⟨⟨("_law_pick", none), "_law_pick", "_law_pick", defArgs (top 23), defBody (top 23), defScope (top 23), [], []⟩, ["_law_deck_here", "_law_some"], b_law_pick, [⟨2, [], [], [0, 1]⟩]⟩
def i_law_need : Info := ⟨⟨("_law_need", none), "_law_need", "_law_need", defArgs (top 24), defBody (top 24), defScope (top 24), [], []⟩, ["_law_deck_here", "_law_singles", "_law_many", "_law_c", "_law_way", "_law_j"], b_law_need, [⟨3, [], [], [0, 1, 2]⟩]⟩
def i_law_kit : Info := ⟨⟨("_law_kit", none), "_law_kit", "_law_kit", defArgs (top 25), defBody (top 25), defScope (top 25), [], []⟩, ["_law_deck_here", "_law_word", "_law_makes", "_law_singles", "_law_taking", "_law_needs", "_law_many", "_law_word_of", "_law_go"], b_law_kit, [⟨1, [], [], [0]⟩]⟩
def i_law_thing : Info := ⟨⟨("_law_thing", none), "_law_thing", "_law_thing", defArgs (top 26), defBody (top 26), defScope (top 26), [], []⟩, ["_law_deck_here", "_law_makes", "_law_leaves", "_law_top", "_law_deep", "_law_fit", "_law_k", "_law_word", "_law_many", "_law_found", "_law_left", "_law_own", "_law_item"], b_law_thing, [⟨5, [], [], [0, 1, 2, 3, 4]⟩]⟩
def i_law_text : Info := ⟨⟨("_law_text", none), "_law_text", "_law_text", defArgs (top 27), defBody (top 27), defScope (top 27), [], []⟩, ["_law_it", "_law_bit"], b_law_text, [⟨1, [], [], [0]⟩]⟩
def i_law_is_word : Info := ⟨⟨("_law_is_word", none), "_law_is_word", "_law_is_word", defArgs (top 28), defBody (top 28), defScope (top 28), [], []⟩, ["_law_it", "_law_sign"], b_law_is_word, [⟨1, [], [], [0]⟩]⟩
def i_law_is_name : Info := ⟨⟨("_law_is_name", none), "_law_is_name", "_law_is_name", defArgs (top 29), defBody (top 29), defScope (top 29), [], []⟩, ["_law_it", "_law_sign"], b_law_is_name, [⟨1, [], [], [0]⟩]⟩
def i_law_lot : Info := ⟨⟨("_law_lot", none), "_law_lot", "_law_lot", defArgs (top 30), defBody (top 30), defScope (top 30), [], []⟩, ["_law_it", "_law_found", "_law_bit"], b_law_lot, [⟨1, [], [], [0]⟩]⟩
def i_law_sorted : Info := ⟨⟨("_law_sorted", none), "_law_sorted", "_law_sorted", defArgs (top 31), defBody (top 31), defScope (top 31), [], []⟩, ["_law_lot_here", "_law_known", "_law_unit", "_law_page"], b_law_sorted, [⟨1, [], [], [0]⟩]⟩
def i_law_put : Info := ⟨⟨("_law_put", none), "_law_put", "_law_put", defArgs (top 32), defBody (top 32), defScope (top 32), [], []⟩, ["_law_it", "_law_label", "_law_mate", "_law_bit"], b_law_put, [⟨3, [], [], [0, 1, 2]⟩]⟩
def i_law_right : Info := ⟨⟨("_law_right", none), "_law_right", "_law_right", defArgs (top 33), defBody (top 33), defScope (top 33), [], []⟩, ["_law_it", "_law_label", "_law_mate", "_law_plain", "_law_due", "_law_told", "_law_named", "_law_made", "_law_was", "_law_lot_here", "_law_unit"], b_law_right, [⟨3, [], [], [0, 1, 2]⟩]⟩
def i_law : Info := ⟨⟨("law", none), "law", "law", defArgs (top 34), defBody (top 34), defScope (top 34), [], []⟩, ["_law_script", "_law_deck_here", "_law_turn", "_law_chain", "_law_go", "_law_leaves", "_law_again", "_law_makes", "_law_taking", "_law_it", "_law_mate"], b_law, [⟨1, [], [], [0]⟩]⟩
def infos : List Info := [i_is_short, i_is_word, i_is_name, i_parts_of, i_text_of, i_pieces_in, i_pieces_of, i_size_of, i_names_in, i_words_in, i_with_others, i_replaced, i_law_deck, i_law_draw, i_law_pick, i_law_need, i_law_kit, i_law_thing, i_law_text, i_law_is_word, i_law_is_name, i_law_lot, i_law_sorted, i_law_put, i_law_right, i_law]
def glo : List (Str × D) := [("SMALL", .str "abcdefghijklmnopqrstuvwxyz"), ("CAPITALS", .str "ABCDEFGHIJKLMNOPQRSTUVWXYZ"), ("DIGITS", .str "0123456789"), ("MOST_SIGNS", .int 8), ("COMMA", .str ","), ("LEFT", .str "("), ("RIGHT", .str ")")]
def g : Sg := ⟨[("is_short", 0, [⟨1, [], [], [0]⟩]), ("is_word", 1, [⟨1, [], [], [0]⟩]), ("is_name", 2, [⟨1, [], [], [0]⟩]), ("parts_of", 3, [⟨1, [], [], [0]⟩]), ("text_of", 4, [⟨1, [], [], [0]⟩, ⟨0, ["thing"], [], [0]⟩]), ("pieces_in", 5, [⟨1, [], [], [0]⟩]), ("pieces_of", 6, [⟨1, [], [], [0]⟩, ⟨0, ["thing"], [], [0]⟩]), ("size_of", 7, [⟨1, [], [], [0]⟩, ⟨0, ["thing"], [], [0]⟩]), ("names_in", 8, [⟨1, [], [], [0]⟩, ⟨0, ["thing"], [], [0]⟩]), ("words_in", 9, [⟨1, [], [], [0]⟩, ⟨0, ["thing"], [], [0]⟩]), ("with_others", 10, [⟨2, [], [], [0, 1]⟩]), ("replaced", 11, [⟨3, [], [], [0, 1, 2]⟩, ⟨0, ["other", "name", "thing"], [], [2, 1, 0]⟩]), ("_law_deck", 12, [⟨1, [], [], [0]⟩]), ("_law_draw", 13, [⟨2, [], [], [0, 1]⟩]), ("_law_pick", 14, [⟨2, [], [], [0, 1]⟩]), ("_law_need", 15, [⟨3, [], [], [0, 1, 2]⟩]), ("_law_kit", 16, [⟨1, [], [], [0]⟩]), ("_law_thing", 17, [⟨5, [], [], [0, 1, 2, 3, 4]⟩]), ("_law_text", 18, [⟨1, [], [], [0]⟩]), ("_law_is_word", 19, [⟨1, [], [], [0]⟩]), ("_law_is_name", 20, [⟨1, [], [], [0]⟩]), ("_law_lot", 21, [⟨1, [], [], [0]⟩]), ("_law_sorted", 22, [⟨1, [], [], [0]⟩]), ("_law_put", 23, [⟨3, [], [], [0, 1, 2]⟩]), ("_law_right", 24, [⟨3, [], [], [0, 1, 2]⟩]), ("law", 25, [⟨1, [], [], [0]⟩])], glo⟩
theorem ok_is_short : infoC g 100 i_is_short = true := by decide +kernel
theorem ok_is_word : infoC g 100 i_is_word = true := by decide +kernel
theorem ok_is_name : infoC g 100 i_is_name = true := by decide +kernel
theorem ok_parts_of : infoC g 100 i_parts_of = true := by decide +kernel
theorem ok_text_of : infoC g 100 i_text_of = true := by decide +kernel
theorem ok_pieces_in : infoC g 100 i_pieces_in = true := by decide +kernel
theorem ok_pieces_of : infoC g 100 i_pieces_of = true := by decide +kernel
theorem ok_size_of : infoC g 100 i_size_of = true := by decide +kernel
theorem ok_names_in : infoC g 100 i_names_in = true := by decide +kernel
theorem ok_words_in : infoC g 100 i_words_in = true := by decide +kernel
theorem ok_with_others : infoC g 100 i_with_others = true := by decide +kernel
theorem ok_replaced : infoC g 100 i_replaced = true := by decide +kernel
theorem ok_law_deck : infoC g 100 i_law_deck = true := by decide +kernel
theorem ok_law_draw : infoC g 100 i_law_draw = true := by decide +kernel
theorem ok_law_pick : infoC g 100 i_law_pick = true := by decide +kernel
theorem ok_law_need : infoC g 100 i_law_need = true := by decide +kernel
theorem ok_law_kit : infoC g 100 i_law_kit = true := by decide +kernel
theorem ok_law_thing : infoC g 100 i_law_thing = true := by decide +kernel
theorem ok_law_text : infoC g 100 i_law_text = true := by decide +kernel
theorem ok_law_is_word : infoC g 100 i_law_is_word = true := by decide +kernel
theorem ok_law_is_name : infoC g 100 i_law_is_name = true := by decide +kernel
theorem ok_law_lot : infoC g 100 i_law_lot = true := by decide +kernel
theorem ok_law_sorted : infoC g 100 i_law_sorted = true := by decide +kernel
theorem ok_law_put : infoC g 100 i_law_put = true := by decide +kernel
theorem ok_law_right : infoC g 100 i_law_right = true := by decide +kernel
theorem ok_law : infoC g 100 i_law = true := by decide +kernel
theorem ok_all : ∀ i ∈ infos, infoC g 100 i = true := by
  intro i hi
  simp only [infos, List.mem_cons, List.not_mem_nil, or_false] at hi
  rcases hi with rfl | rfl | rfl | rfl | rfl | rfl | rfl | rfl | rfl | rfl | rfl | rfl | rfl | rfl | rfl | rfl | rfl | rfl | rfl | rfl | rfl | rfl | rfl | rfl | rfl | rfl
  · exact ok_is_short
  · exact ok_is_word
  · exact ok_is_name
  · exact ok_parts_of
  · exact ok_text_of
  · exact ok_pieces_in
  · exact ok_pieces_of
  · exact ok_size_of
  · exact ok_names_in
  · exact ok_words_in
  · exact ok_with_others
  · exact ok_replaced
  · exact ok_law_deck
  · exact ok_law_draw
  · exact ok_law_pick
  · exact ok_law_need
  · exact ok_law_kit
  · exact ok_law_thing
  · exact ok_law_text
  · exact ok_law_is_word
  · exact ok_law_is_name
  · exact ok_law_lot
  · exact ok_law_sorted
  · exact ok_law_put
  · exact ok_law_right
  · exact ok_law
theorem sh_is_short : ShsOk i_is_short := by
  intro P w K f fd F sh hs
  simp only [i_is_short, List.mem_cons, List.not_mem_nil, or_false] at hs
  rcases hs with rfl
  · exact shp_of F fun kV doc pm an cdv ct us ws h1 h2 => match us, h1, ws, h2 with
    | [u0], _, [], _ => ⟨[u0], rfl, rfl⟩
theorem sh_is_word : ShsOk i_is_word := by
  intro P w K f fd F sh hs
  simp only [i_is_word, List.mem_cons, List.not_mem_nil, or_false] at hs
  rcases hs with rfl
  · exact shp_of F fun kV doc pm an cdv ct us ws h1 h2 => match us, h1, ws, h2 with
    | [u0], _, [], _ => ⟨[u0], rfl, rfl⟩
theorem sh_is_name : ShsOk i_is_name := by
  intro P w K f fd F sh hs
  simp only [i_is_name, List.mem_cons, List.not_mem_nil, or_false] at hs
  rcases hs with rfl
  · exact shp_of F fun kV doc pm an cdv ct us ws h1 h2 => match us, h1, ws, h2 with
    | [u0], _, [], _ => ⟨[u0], rfl, rfl⟩
theorem sh_parts_of : ShsOk i_parts_of := by
  intro P w K f fd F sh hs
  simp only [i_parts_of, List.mem_cons, List.not_mem_nil, or_false] at hs
  rcases hs with rfl
  · exact shp_of F fun kV doc pm an cdv ct us ws h1 h2 => match us, h1, ws, h2 with
    | [u0], _, [], _ => ⟨[u0], rfl, rfl⟩
theorem sh_text_of : ShsOk i_text_of := by
  intro P w K f fd F sh hs
  simp only [i_text_of, List.mem_cons, List.not_mem_nil, or_false] at hs
  rcases hs with rfl | rfl
  · exact shp_of F fun kV doc pm an cdv ct us ws h1 h2 => match us, h1, ws, h2 with
    | [u0], _, [], _ => ⟨[u0], rfl, rfl⟩
  · exact shp_of F fun kV doc pm an cdv ct us ws h1 h2 => match us, h1, ws, h2 with
    | [], _, [w0], _ => ⟨[w0], rfl, rfl⟩
theorem sh_pieces_in : ShsOk i_pieces_in := by
  intro P w K f fd F sh hs
  simp only [i_pieces_in, List.mem_cons, List.not_mem_nil, or_false] at hs
  rcases hs with rfl
  · exact shp_of F fun kV doc pm an cdv ct us ws h1 h2 => match us, h1, ws, h2 with
    | [u0], _, [], _ => ⟨[u0], rfl, rfl⟩
theorem sh_pieces_of : ShsOk i_pieces_of := by
  intro P w K f fd F sh hs
  simp only [i_pieces_of, List.mem_cons, List.not_mem_nil, or_false] at hs
  rcases hs with rfl | rfl
  · exact shp_of F fun kV doc pm an cdv ct us ws h1 h2 => match us, h1, ws, h2 with
    | [u0], _, [], _ => ⟨[u0], rfl, rfl⟩
  · exact shp_of F fun kV doc pm an cdv ct us ws h1 h2 => match us, h1, ws, h2 with
    | [], _, [w0], _ => ⟨[w0], rfl, rfl⟩
theorem sh_size_of : ShsOk i_size_of := by
  intro P w K f fd F sh hs
  simp only [i_size_of, List.mem_cons, List.not_mem_nil, or_false] at hs
  rcases hs with rfl | rfl
  · exact shp_of F fun kV doc pm an cdv ct us ws h1 h2 => match us, h1, ws, h2 with
    | [u0], _, [], _ => ⟨[u0], rfl, rfl⟩
  · exact shp_of F fun kV doc pm an cdv ct us ws h1 h2 => match us, h1, ws, h2 with
    | [], _, [w0], _ => ⟨[w0], rfl, rfl⟩
theorem sh_names_in : ShsOk i_names_in := by
  intro P w K f fd F sh hs
  simp only [i_names_in, List.mem_cons, List.not_mem_nil, or_false] at hs
  rcases hs with rfl | rfl
  · exact shp_of F fun kV doc pm an cdv ct us ws h1 h2 => match us, h1, ws, h2 with
    | [u0], _, [], _ => ⟨[u0], rfl, rfl⟩
  · exact shp_of F fun kV doc pm an cdv ct us ws h1 h2 => match us, h1, ws, h2 with
    | [], _, [w0], _ => ⟨[w0], rfl, rfl⟩
theorem sh_words_in : ShsOk i_words_in := by
  intro P w K f fd F sh hs
  simp only [i_words_in, List.mem_cons, List.not_mem_nil, or_false] at hs
  rcases hs with rfl | rfl
  · exact shp_of F fun kV doc pm an cdv ct us ws h1 h2 => match us, h1, ws, h2 with
    | [u0], _, [], _ => ⟨[u0], rfl, rfl⟩
  · exact shp_of F fun kV doc pm an cdv ct us ws h1 h2 => match us, h1, ws, h2 with
    | [], _, [w0], _ => ⟨[w0], rfl, rfl⟩
theorem sh_with_others : ShsOk i_with_others := by
  intro P w K f fd F sh hs
  simp only [i_with_others, List.mem_cons, List.not_mem_nil, or_false] at hs
  rcases hs with rfl
  · exact shp_of F fun kV doc pm an cdv ct us ws h1 h2 => match us, h1, ws, h2 with
    | [u0, u1], _, [], _ => ⟨[u0, u1], rfl, rfl⟩
theorem sh_replaced : ShsOk i_replaced := by
  intro P w K f fd F sh hs
  simp only [i_replaced, List.mem_cons, List.not_mem_nil, or_false] at hs
  rcases hs with rfl | rfl
  · exact shp_of F fun kV doc pm an cdv ct us ws h1 h2 => match us, h1, ws, h2 with
    | [u0, u1, u2], _, [], _ => ⟨[u0, u1, u2], rfl, rfl⟩
  · exact shp_of F fun kV doc pm an cdv ct us ws h1 h2 => match us, h1, ws, h2 with
    | [], _, [w0, w1, w2], _ => ⟨[w2, w1, w0], rfl, rfl⟩
theorem sh_law_deck : ShsOk i_law_deck := by
  intro P w K f fd F sh hs
  simp only [i_law_deck, List.mem_cons, List.not_mem_nil, or_false] at hs
  rcases hs with rfl
  · exact shp_of F fun kV doc pm an cdv ct us ws h1 h2 => match us, h1, ws, h2 with
    | [u0], _, [], _ => ⟨[u0], rfl, rfl⟩
theorem sh_law_draw : ShsOk i_law_draw := by
  intro P w K f fd F sh hs
  simp only [i_law_draw, List.mem_cons, List.not_mem_nil, or_false] at hs
  rcases hs with rfl
  · exact shp_of F fun kV doc pm an cdv ct us ws h1 h2 => match us, h1, ws, h2 with
    | [u0, u1], _, [], _ => ⟨[u0, u1], rfl, rfl⟩
theorem sh_law_pick : ShsOk i_law_pick := by
  intro P w K f fd F sh hs
  simp only [i_law_pick, List.mem_cons, List.not_mem_nil, or_false] at hs
  rcases hs with rfl
  · exact shp_of F fun kV doc pm an cdv ct us ws h1 h2 => match us, h1, ws, h2 with
    | [u0, u1], _, [], _ => ⟨[u0, u1], rfl, rfl⟩
theorem sh_law_need : ShsOk i_law_need := by
  intro P w K f fd F sh hs
  simp only [i_law_need, List.mem_cons, List.not_mem_nil, or_false] at hs
  rcases hs with rfl
  · exact shp_of F fun kV doc pm an cdv ct us ws h1 h2 => match us, h1, ws, h2 with
    | [u0, u1, u2], _, [], _ => ⟨[u0, u1, u2], rfl, rfl⟩
theorem sh_law_kit : ShsOk i_law_kit := by
  intro P w K f fd F sh hs
  simp only [i_law_kit, List.mem_cons, List.not_mem_nil, or_false] at hs
  rcases hs with rfl
  · exact shp_of F fun kV doc pm an cdv ct us ws h1 h2 => match us, h1, ws, h2 with
    | [u0], _, [], _ => ⟨[u0], rfl, rfl⟩
theorem sh_law_thing : ShsOk i_law_thing := by
  intro P w K f fd F sh hs
  simp only [i_law_thing, List.mem_cons, List.not_mem_nil, or_false] at hs
  rcases hs with rfl
  · exact shp_of F fun kV doc pm an cdv ct us ws h1 h2 => match us, h1, ws, h2 with
    | [u0, u1, u2, u3, u4], _, [], _ => ⟨[u0, u1, u2, u3, u4], rfl, rfl⟩
theorem sh_law_text : ShsOk i_law_text := by
  intro P w K f fd F sh hs
  simp only [i_law_text, List.mem_cons, List.not_mem_nil, or_false] at hs
  rcases hs with rfl
  · exact shp_of F fun kV doc pm an cdv ct us ws h1 h2 => match us, h1, ws, h2 with
    | [u0], _, [], _ => ⟨[u0], rfl, rfl⟩
theorem sh_law_is_word : ShsOk i_law_is_word := by
  intro P w K f fd F sh hs
  simp only [i_law_is_word, List.mem_cons, List.not_mem_nil, or_false] at hs
  rcases hs with rfl
  · exact shp_of F fun kV doc pm an cdv ct us ws h1 h2 => match us, h1, ws, h2 with
    | [u0], _, [], _ => ⟨[u0], rfl, rfl⟩
theorem sh_law_is_name : ShsOk i_law_is_name := by
  intro P w K f fd F sh hs
  simp only [i_law_is_name, List.mem_cons, List.not_mem_nil, or_false] at hs
  rcases hs with rfl
  · exact shp_of F fun kV doc pm an cdv ct us ws h1 h2 => match us, h1, ws, h2 with
    | [u0], _, [], _ => ⟨[u0], rfl, rfl⟩
theorem sh_law_lot : ShsOk i_law_lot := by
  intro P w K f fd F sh hs
  simp only [i_law_lot, List.mem_cons, List.not_mem_nil, or_false] at hs
  rcases hs with rfl
  · exact shp_of F fun kV doc pm an cdv ct us ws h1 h2 => match us, h1, ws, h2 with
    | [u0], _, [], _ => ⟨[u0], rfl, rfl⟩
theorem sh_law_sorted : ShsOk i_law_sorted := by
  intro P w K f fd F sh hs
  simp only [i_law_sorted, List.mem_cons, List.not_mem_nil, or_false] at hs
  rcases hs with rfl
  · exact shp_of F fun kV doc pm an cdv ct us ws h1 h2 => match us, h1, ws, h2 with
    | [u0], _, [], _ => ⟨[u0], rfl, rfl⟩
theorem sh_law_put : ShsOk i_law_put := by
  intro P w K f fd F sh hs
  simp only [i_law_put, List.mem_cons, List.not_mem_nil, or_false] at hs
  rcases hs with rfl
  · exact shp_of F fun kV doc pm an cdv ct us ws h1 h2 => match us, h1, ws, h2 with
    | [u0, u1, u2], _, [], _ => ⟨[u0, u1, u2], rfl, rfl⟩
theorem sh_law_right : ShsOk i_law_right := by
  intro P w K f fd F sh hs
  simp only [i_law_right, List.mem_cons, List.not_mem_nil, or_false] at hs
  rcases hs with rfl
  · exact shp_of F fun kV doc pm an cdv ct us ws h1 h2 => match us, h1, ws, h2 with
    | [u0, u1, u2], _, [], _ => ⟨[u0, u1, u2], rfl, rfl⟩
theorem sh_law : ShsOk i_law := by
  intro P w K f fd F sh hs
  simp only [i_law, List.mem_cons, List.not_mem_nil, or_false] at hs
  rcases hs with rfl
  · exact shp_of F fun kV doc pm an cdv ct us ws h1 h2 => match us, h1, ws, h2 with
    | [u0], _, [], _ => ⟨[u0], rfl, rfl⟩
theorem sh_all : ∀ i ∈ infos, ShsOk i := by
  intro i hi
  simp only [infos, List.mem_cons, List.not_mem_nil, or_false] at hi
  rcases hi with rfl | rfl | rfl | rfl | rfl | rfl | rfl | rfl | rfl | rfl | rfl | rfl | rfl | rfl | rfl | rfl | rfl | rfl | rfl | rfl | rfl | rfl | rfl | rfl | rfl | rfl
  · exact sh_is_short
  · exact sh_is_word
  · exact sh_is_name
  · exact sh_parts_of
  · exact sh_text_of
  · exact sh_pieces_in
  · exact sh_pieces_of
  · exact sh_size_of
  · exact sh_names_in
  · exact sh_words_in
  · exact sh_with_others
  · exact sh_replaced
  · exact sh_law_deck
  · exact sh_law_draw
  · exact sh_law_pick
  · exact sh_law_need
  · exact sh_law_kit
  · exact sh_law_thing
  · exact sh_law_text
  · exact sh_law_is_word
  · exact sh_law_is_name
  · exact sh_law_lot
  · exact sh_law_sorted
  · exact sh_law_put
  · exact sh_law_right
  · exact sh_law
end K03

set_option Elab.async false
set_option linter.all false
set_option maxRecDepth 100000
set_option maxHeartbeats 0
namespace K03
open PySem PySem.Spec L2 Iv
abbrev R : PySem.W.OpenRow := PySem.W.OpenLaw.row PySem.Challenge.rw_sealedalike_k03_pieces_sizes_and_names
abbrev hk : PySem.W.Hook := hookI 4 infos glo
def ob (s : PySem.W.SharedT) : AlI := obI 4 infos glo s
theorem ob_eq (s : PySem.W.SharedT) : ob s = hk.obs s.abs := obI_eq s
def loose : List Str := (["__name__", "SMALL", "CAPITALS", "DIGITS", "MOST_SIGNS", "COMMA", "LEFT", "RIGHT", "is_short", "is_word", "is_name", "parts_of"] : List Str) ++ (["text_of", "pieces_in", "pieces_of", "size_of", "names_in", "words_in", "with_others", "replaced", "_law_deck", "_law_draw", "_law_pick", "_law_need"] : List Str) ++ (["_law_kit", "_law_thing", "_law_text", "_law_is_word", "_law_is_name", "_law_lot", "_law_sorted", "_law_put", "_law_right"] : List Str)
theorem run (w : World) : HandSHeadRun.RunEq R (PySem.W.view R.prog [34]) hk ob 2000 loose w := by
  intro os
  kernel_rfl
end K03

set_option Elab.async false
set_option linter.all false
/-! running the evaluator by hand -/
namespace Iv
open PySem L2
noncomputable def fin (σ : Store) : Out → Res D
  | .nx _ σ1 => leave σ .non σ1
  | .rt d σ1 => leave σ d σ1
  | .exc c d σ1 => .exc c d σ1
  | _ => .bad
theorem callK_run {pr : List Fd} {k f : Nat} {fd : Fd} {ds : List D} {σ : Store} (h : pr[f]? = some fd) (hl : ds.length = fd.np) :
    callK pr (k + 1) f ds σ = fin σ (exs (callK pr k) fd.body (ds.map some ++ List.replicate (fd.ns - ds.length) none) σ) := by
  rw [callK]
  rw [h]
  dsimp only
  rw [if_pos hl]
  cases exs (callK pr k) fd.body (ds.map some ++ List.replicate (fd.ns - ds.length) none) σ <;> rfl
theorem leave_len {σ σ1 : Store} {d : D} (h : σ1.length = σ.length) : leave σ d σ1 = .ok d σ1 := by
  unfold leave
  split
  · rw [← h, List.take_length]
  · rfl
theorem leave_same {σ : Store} {d : D} : leave σ d σ = .ok d σ := leave_len rfl
/-- the callee's own cells go -/
theorem leave_app {σ σ1 ext : Store} {d : D} (hl : σ1.length = σ.length) (hd : d.under σ.length = true) (hc : ∀ (i : Nat) (c : Cell), σ1[i]? = some c → (σ[i]? = some c ∨ c.under σ.length = true)) : leave σ d (σ1 ++ ext) = .ok d σ1 := by
  unfold leave
  rw [if_pos]
  · rw [← hl, List.take_left]
  · refine ⟨hd, fun i c hi e => ?_⟩
    rw [List.getElem?_append_left (by omega)] at e
    exact hc i c e
/-- a comprehension that changes no cell -/
theorem compL_fm {t : Tg} {c elt : Env → Store → Res D} {ρ : Env} {σ : Store} (p : D → Bool) (f : D → D) : ∀ {ds acc : List D}, (∀ d ∈ ds, ∃ ρ', tgD t d ρ = some ρ' ∧ c ρ' σ = .ok (.bl (p d)) σ ∧ (p d = true → elt ρ' σ = .ok (f d) σ)) → acc.length + ds.length ≤ lim →
    compL t c elt ρ ds acc σ = .ok (acc ++ (ds.filter p).map f) σ
  | [], acc, _, _ => by unfold compL; simp
  | d :: ds, acc, h, hl => by
    obtain ⟨ρ', h1, h2, h3⟩ := h d List.mem_cons_self
    have hr : ∀ e ∈ ds, ∃ ρ', tgD t e ρ = some ρ' ∧ c ρ' σ = .ok (.bl (p e)) σ ∧ (p e = true → elt ρ' σ = .ok (f e) σ) := fun e he => h e (List.mem_cons_of_mem _ he)
    rw [List.length_cons] at hl
    unfold compL
    rw [h1]
    dsimp only
    rw [h2]
    dsimp only
    cases hp : p d with
    | false =>
      show compL t c elt ρ ds acc σ = _
      rw [compL_fm p f hr (by omega), List.filter_cons, hp]
      simp
    | true =>
      show (match elt ρ' σ with
        | .ok v σ2 => if acc.length < lim then compL t c elt ρ ds (acc ++ [v]) σ2 else .bad
        | _ => .bad) = _
      rw [h3 hp]
      dsimp only
      rw [if_pos (by omega), compL_fm p f hr (by simp; omega), List.filter_cons, hp]
      simp
theorem compL_map {i : Nat} {Φ : CallSem} {elt : Ex} {ρ : Env} {σ : Store} (f : D → D) {ds : List D} (h : ∀ d ∈ ds, ev Φ elt (ρ.set i (some d)) σ = .ok (f d) σ) (hl : ds.length ≤ lim) :
    compL (.nm i) (ev Φ (.bl true)) (ev Φ elt) ρ ds [] σ = .ok (ds.map f) σ := by
  rw [compL_fm (fun _ => true) f (fun d hd => ⟨ρ.set i (some d), rfl, by unfold ev; rfl, fun _ => h d hd⟩) (by simpa using hl)]
  rw [List.filter_eq_self.mpr fun _ _ => rfl]; rfl
/-- the same, the items given as images -/
theorem compL_fT {α : Type} {t : Tg} {c elt : Env → Store → Res D} {ρ : Env} {σ : Store} (g : α → D) (p : α → Bool) (f : α → D) : ∀ {xs : List α} {acc : List D}, (∀ x ∈ xs, ∃ ρ', tgD t (g x) ρ = some ρ' ∧ c ρ' σ = .ok (.bl (p x)) σ ∧ (p x = true → elt ρ' σ = .ok (f x) σ)) → acc.length + xs.length ≤ lim →
    compL t c elt ρ (xs.map g) acc σ = .ok (acc ++ (xs.filter p).map f) σ
  | [], acc, _, _ => by unfold compL; simp
  | x :: xs, acc, h, hl => by
    obtain ⟨ρ', h1, h2, h3⟩ := h x List.mem_cons_self
    have hr : ∀ y ∈ xs, ∃ ρ', tgD t (g y) ρ = some ρ' ∧ c ρ' σ = .ok (.bl (p y)) σ ∧ (p y = true → elt ρ' σ = .ok (f y) σ) := fun y hy => h y (List.mem_cons_of_mem _ hy)
    rw [List.length_cons] at hl
    rw [List.map_cons]
    unfold compL
    rw [h1]
    dsimp only
    rw [h2]
    dsimp only
    cases hp : p x with
    | false =>
      show compL t c elt ρ (xs.map g) acc σ = _
      rw [compL_fT g p f hr (by omega), List.filter_cons, hp]
      simp
    | true =>
      show (match elt ρ' σ with
        | .ok v σ2 => if acc.length < lim then compL t c elt ρ (xs.map g) (acc ++ [v]) σ2 else .bad
        | _ => .bad) = _
      rw [h3 hp]
      dsimp only
      rw [if_pos (by omega), compL_fT g p f hr (by simp; omega), List.filter_cons, hp]
      simp
theorem compL_mapT {α : Type} {i : Nat} {Φ : CallSem} {elt : Ex} {ρ : Env} {σ : Store} (g f : α → D) {xs : List α} (h : ∀ x ∈ xs, ev Φ elt (ρ.set i (some (g x))) σ = .ok (f x) σ) (hl : xs.length ≤ lim) :
    compL (.nm i) (ev Φ (.bl true)) (ev Φ elt) ρ (xs.map g) [] σ = .ok (xs.map f) σ := by
  rw [compL_fT g (fun _ => true) f (fun x hx => ⟨ρ.set i (some (g x)), rfl, by unfold ev; rfl, fun _ => h x hx⟩) (by simpa using hl)]
  rw [List.filter_eq_self.mpr fun _ _ => rfl]; rfl
theorem cut_from1 {α : Type} (xs : List α) : cutL xs (some 1) none = xs.drop 1 := by
  unfold cutL
  have e1 : HT.sIx xs.length 0 (some 1) = min 1 xs.length := by unfold HT.sIx; simp
  have e2 : HT.sIx xs.length xs.length none = xs.length := by unfold HT.sIx; simp
  rw [e1, e2]
  cases xs with
  | nil => rfl
  | cons x r => simp
theorem cut_to1 {α : Type} (xs : List α) : cutL xs none (some 1) = xs.take 1 := by
  unfold cutL
  have e1 : HT.sIx xs.length 0 none = 0 := by unfold HT.sIx; simp
  have e2 : HT.sIx xs.length xs.length (some 1) = min 1 xs.length := by unfold HT.sIx; simp
  rw [e1, e2]
  cases xs with
  | nil => rfl
  | cons x r => simp
theorem cut_to63 {α : Type} (xs : List α) : cutL xs none (some 63) = xs.take 63 := by
  unfold cutL
  have e1 : HT.sIx xs.length 0 none = 0 := by unfold HT.sIx; simp
  have e2 : HT.sIx xs.length xs.length (some 63) = min 63 xs.length := by unfold HT.sIx; simp
  rw [e1, e2, List.drop_zero, Nat.sub_zero]
  rw [Nat.min_def]
  split
  · rfl
  · rename_i h
    rw [List.take_length, List.take_of_length_le (by omega)]
@[simp] theorem Res.bind_ok {α β : Type} {a : α} {σ : Store} {f : α → Store → Res β} : (Res.ok a σ).bind f = f a σ := (rfl)
@[simp] theorem Out.of_ok {α : Type} {a : α} {σ : Store} {f : α → Store → Out} : Out.of (Res.ok a σ) f = f a σ := (rfl)
@[simp] theorem fin_rt {σ σ1 : Store} {d : D} : fin σ (.rt d σ1) = leave σ d σ1 := (rfl)
@[simp] theorem fin_nx {σ σ1 : Store} {ρ : Env} : fin σ (.nx ρ σ1) = leave σ .non σ1 := (rfl)
theorem newL_f {xs : List D} {σ : Store} (h : xs.length ≤ lim) : newL false xs σ = .ok (.lst xs) σ := by unfold newL; rw [if_pos h]; rfl
theorem newL_t {xs : List D} {σ : Store} (h : xs.length ≤ lim) : newL true xs σ = .ok (.ref σ.length) (σ ++ [.lst xs]) := by unfold newL; rw [if_pos h]; rfl
theorem newT_ok {xs : List D} {σ : Store} (h : xs.length ≤ lim) : newT xs σ = .ok (.tup xs) σ := by unfold newT; rw [if_pos h]
section
variable {i : Nat} {b : Bool} {z : Int} {x : Str} {d : D} {op : BOp} {co co' : COp} {a b' c' : Ex} {es ks : List Ex} {ds : List D} {is : List Nat} {bb : Bi} {ts : List Ty} {m : Me} {tg : Tg} {ik : IK}
@[simp] theorem ns_0 : Ex.isStar (.nop) = false := (rfl)
@[simp] theorem ns_1 : Ex.isStar (.loc i) = false := (rfl)
@[simp] theorem ns_2 : Ex.isStar (.non) = false := (rfl)
@[simp] theorem ns_3 : Ex.isStar (.bl b) = false := (rfl)
@[simp] theorem ns_4 : Ex.isStar (.int z) = false := (rfl)
@[simp] theorem ns_5 : Ex.isStar (.str x) = false := (rfl)
@[simp] theorem ns_6 : Ex.isStar (.glo x d) = false := (rfl)
@[simp] theorem ns_7 : Ex.isStar (.bin op a b') = false := (rfl)
@[simp] theorem ns_8 : Ex.isStar (.neg a) = false := (rfl)
@[simp] theorem ns_9 : Ex.isStar (.cmp co a b') = false := (rfl)
@[simp] theorem ns_10 : Ex.isStar (.chain co co' a b' c') = false := (rfl)
@[simp] theorem ns_11 : Ex.isStar (.and a b') = false := (rfl)
@[simp] theorem ns_12 : Ex.isStar (.or a b') = false := (rfl)
@[simp] theorem ns_13 : Ex.isStar (.not a) = false := (rfl)
@[simp] theorem ns_14 : Ex.isStar (.ite a b' c') = false := (rfl)
@[simp] theorem ns_15 : Ex.isStar (.tup es) = false := (rfl)
@[simp] theorem ns_16 : Ex.isStar (.lst b es) = false := (rfl)
@[simp] theorem ns_17 : Ex.isStar (.dic b es) = false := (rfl)
@[simp] theorem ns_18 : Ex.isStar (.idx a b') = false := (rfl)
@[simp] theorem ns_19 : Ex.isStar (.slice b a b' c') = false := (rfl)
@[simp] theorem ns_20 : Ex.isStar (.rev b a) = false := (rfl)
@[simp] theorem ns_21 : Ex.isStar (.call i es ks ds is) = false := (rfl)
@[simp] theorem ns_22 : Ex.isStar (.bi bb b a) = false := (rfl)
@[simp] theorem ns_23 : Ex.isStar (.isi a ts) = false := (rfl)
@[simp] theorem ns_24 : Ex.isStar (.me m a es) = false := (rfl)
@[simp] theorem ns_25 : Ex.isStar (.comp b is tg ik es a b') = false := (rfl)
@[simp] theorem ns_star : Ex.isStar (.star a) = true := (rfl)
end
@[simp] theorem wipe_nil {ρ : Env} : wipeE ρ [] = ρ := (rfl)
@[simp] theorem wipe_cons {ρ : Env} {v : Nat} {vs : List Nat} : wipeE ρ (v :: vs) = (wipeE ρ vs).set v none := (rfl)
@[simp] theorem sa_nil {ρ : Env} : setAll [] [] ρ = some ρ := (rfl)
@[simp] theorem sa_cons {ρ : Env} {i : Nat} {is : List Nat} {d : D} {ds : List D} : setAll (i :: is) (d :: ds) ρ = setAll is ds (ρ.set i (some d)) := (rfl)
/-! ### the evaluator's equations, fully applied -/
def tb {α : Type} (o : Option Bool) (a b c : α) : α := match o with
  | some true => a
  | some false => b
  | none => c
@[simp] theorem tb_some {α : Type} {b : Bool} {x y z : α} : tb (some b) x y z = if b = true then x else y := by cases b <;> rfl
def cb (r : D) (a b : Res D) : Res D := match r with
  | .bl true => a
  | .bl false => b
  | _ => .bad
@[simp] theorem cb_bl {b : Bool} {x y : Res D} : cb (.bl b) x y = if b = true then x else y := by cases b <;> rfl
def Out.then (o : Out) (k : Env → Store → Out) : Out := match o with
  | .nx ρ σ => k ρ σ
  | o => o
@[simp] theorem then_nx {ρ : Env} {σ : Store} {k : Env → Store → Out} : (Out.nx ρ σ).then k = k ρ σ := (rfl)
@[simp] theorem then_rt {d : D} {σ : Store} {k : Env → Store → Out} : (Out.rt d σ).then k = .rt d σ := (rfl)
@[simp] theorem then_bk {ρ : Env} {σ : Store} {k : Env → Store → Out} : (Out.bk ρ σ).then k = .bk ρ σ := (rfl)
@[simp] theorem then_ct {ρ : Env} {σ : Store} {k : Env → Store → Out} : (Out.ct ρ σ).then k = .ct ρ σ := (rfl)
section
variable {Φ : CallSem} {ρ : Env} {σ : Store}
@[simp] theorem view_non : view σ .non = .non := (rfl)
@[simp] theorem view_bl {b : Bool} : view σ (.bl b) = .bl b := (rfl)
@[simp] theorem view_int {i : Int} : view σ (.int i) = .int i := (rfl)
@[simp] theorem view_str {x : Str} : view σ (.str x) = .str x := (rfl)
@[simp] theorem view_tup' {xs : List D} : view σ (.tup xs) = .tup xs := (rfl)
@[simp] theorem view_lst {xs : List D} : view σ (.lst xs) = .lst xs := (rfl)
@[simp] theorem view_ro {xs : List D} : view σ (.ro xs) = .ro xs := (rfl)
@[simp] theorem view_dic {ks : List Key} {xs : List D} : view σ (.dic ks xs) = .dic ks xs := (rfl)
@[simp] theorem view_set {xs : List Str} : view σ (.set xs) = .set xs := (rfl)
theorem view_cell {n : Nat} {xs : List D} (h : σ[n]? = some (.lst xs)) : view σ (.ref n) = .lst xs := by unfold view; dsimp only; rw [h]
theorem view_celld {n : Nat} {ks : List Key} {xs : List D} (h : σ[n]? = some (.dic ks xs)) : view σ (.ref n) = .dic ks xs := by unfold view; dsimp only; rw [h]
@[simp] theorem tr_non : truthD .non = some false := (rfl)
@[simp] theorem tr_bl {b : Bool} : truthD (.bl b) = some b := (rfl)
@[simp] theorem tr_int {i : Int} : truthD (.int i) = some (i != 0) := (rfl)
@[simp] theorem tr_tup {xs : List D} : truthD (.tup xs) = some (!xs.isEmpty) := (rfl)
@[simp] theorem tr_lst {xs : List D} : truthD (.lst xs) = some (!xs.isEmpty) := (rfl)
@[simp] theorem ev_nop : ev Φ .nop ρ σ = .ok .non σ := by rw [ev] <;> rfl
@[simp] theorem ev_loc {i : Nat} : ev Φ (.loc i) ρ σ = match ρ[i]? with
    | some (some d) => .ok d σ
    | _ => .bad := by rw [ev] <;> rfl
@[simp] theorem ev_non : ev Φ .non ρ σ = .ok .non σ := by rw [ev] <;> rfl
@[simp] theorem ev_bl {b : Bool} : ev Φ (.bl b) ρ σ = .ok (.bl b) σ := by rw [ev] <;> rfl
@[simp] theorem ev_int {i : Int} : ev Φ (.int i) ρ σ = .ok (.int i) σ := by rw [ev] <;> rfl
@[simp] theorem ev_str {x : Str} : ev Φ (.str x) ρ σ = .ok (.str x) σ := by rw [ev] <;> rfl
@[simp] theorem ev_glo {x : Str} {d : D} : ev Φ (.glo x d) ρ σ = .ok d σ := by rw [ev] <;> rfl
@[simp] theorem ev_bin {op : BOp} {a b : Ex} : ev Φ (.bin op a b) ρ σ = (ev Φ a ρ σ).bind fun x σ1 => (ev Φ b ρ σ1).bind fun y σ2 => binD op x y σ2 := by rw [ev] <;> rfl
@[simp] theorem ev_neg_int {i : Int} : ev Φ (.neg (.int i)) ρ σ = .ok (.int (-i)) σ := by rw [ev, ev_int]; rfl
@[simp] theorem ev_cmp {op : COp} {a b : Ex} : ev Φ (.cmp op a b) ρ σ = (ev Φ a ρ σ).bind fun x σ1 => (ev Φ b ρ σ1).bind fun y σ2 => cmpD op x y σ2 := by rw [ev] <;> rfl
@[simp] theorem ev_chain {op op' : COp} {a b c : Ex} : ev Φ (.chain op op' a b c) ρ σ = (ev Φ a ρ σ).bind fun x σ1 => (ev Φ b ρ σ1).bind fun y σ2 => (cmpD op x y σ2).bind fun r σ3 => cb r ((ev Φ c ρ σ3).bind fun z σ4 => cmpD op' y z σ4) (.ok (.bl false) σ3) := by
  rw [ev] <;> rfl
@[simp] theorem ev_and {a b : Ex} : ev Φ (.and a b) ρ σ = (ev Φ a ρ σ).bind fun x σ1 => tb (truthD (view σ1 x)) (ev Φ b ρ σ1) (.ok x σ1) .bad := by rw [ev] <;> rfl
@[simp] theorem ev_or {a b : Ex} : ev Φ (.or a b) ρ σ = (ev Φ a ρ σ).bind fun x σ1 => tb (truthD (view σ1 x)) (.ok x σ1) (ev Φ b ρ σ1) .bad := by rw [ev] <;> rfl
@[simp] theorem ev_not {a : Ex} : ev Φ (.not a) ρ σ = (ev Φ a ρ σ).bind fun x σ1 => match truthD (view σ1 x) with
    | some b => .ok (.bl (!b)) σ1
    | none => .bad := by rw [ev] <;> rfl
@[simp] theorem ev_ite {c a b : Ex} : ev Φ (.ite c a b) ρ σ = (ev Φ c ρ σ).bind fun x σ1 => tb (truthD (view σ1 x)) (ev Φ a ρ σ1) (ev Φ b ρ σ1) .bad := by rw [ev] <;> rfl
@[simp] theorem ev_tup {es : List Ex} : ev Φ (.tup es) ρ σ = (evs Φ es ρ σ).bind fun ds σ1 => newT ds σ1 := by rw [ev] <;> rfl
@[simp] theorem ev_lst {mu : Bool} {es : List Ex} : ev Φ (.lst mu es) ρ σ = (evs Φ es ρ σ).bind fun ds σ1 => newL mu ds σ1 := by rw [ev] <;> rfl
@[simp] theorem ev_dic {mu : Bool} {es : List Ex} : ev Φ (.dic mu es) ρ σ = (evs Φ es ρ σ).bind fun ds σ1 => match pairUp ds with
    | some kvs => if kvs.length ≤ 15 then newD mu ((mergeD [] kvs).map (·.1)) ((mergeD [] kvs).map (·.2)) σ1 else .bad
    | none => .bad := by rw [ev] <;> rfl
@[simp] theorem ev_star {a : Ex} : ev Φ (.star a) ρ σ = ev Φ a ρ σ := by rw [ev] <;> rfl
@[simp] theorem ev_idx {a b : Ex} : ev Φ (.idx a b) ρ σ = (ev Φ a ρ σ).bind fun x σ1 => (ev Φ b ρ σ1).bind fun y σ2 => idxD x y σ2 := by rw [ev] <;> rfl
@[simp] theorem ev_slice {mu : Bool} {a lo hi : Ex} : ev Φ (.slice mu a lo hi) ρ σ = (ev Φ a ρ σ).bind fun x σ1 => (ev Φ lo ρ σ1).bind fun l σ2 => if (optI l).isSome then (ev Φ hi ρ σ2).bind fun h σ3 => if (optI h).isSome then sliceD mu x l h σ3 else .bad else .bad := by rw [ev] <;> rfl
@[simp] theorem ev_rev {mu : Bool} {a : Ex} : ev Φ (.rev mu a) ρ σ = (ev Φ a ρ σ).bind fun x σ1 => revD mu x σ1 := by rw [ev] <;> rfl
@[simp] theorem ev_call {f : Nat} {es ks : List Ex} {dv : List D} {pm : List Nat} : ev Φ (.call f es ks dv pm) ρ σ = (evs Φ es ρ σ).bind fun xs σ1 => (evs Φ ks ρ σ1).bind fun ys σ2 => match permD (xs ++ ys ++ dv) pm with
    | some ds => Φ f ds σ2
    | none => .bad := by rw [ev] <;> rfl
@[simp] theorem ev_bi {b : Bi} {mu : Bool} {a : Ex} : ev Φ (.bi b mu a) ρ σ = (ev Φ a ρ σ).bind fun x σ1 => biD b mu x σ1 := by rw [ev] <;> rfl
@[simp] theorem ev_isi {a : Ex} {ts : List Ty} : ev Φ (.isi a ts) ρ σ = (ev Φ a ρ σ).bind fun x σ1 => isiD ts x σ1 := by rw [ev] <;> rfl
@[simp] theorem ev_me {m : Me} {o : Ex} {es : List Ex} : ev Φ (.me m o es) ρ σ = (ev Φ o ρ σ).bind fun x σ1 => if meOk m (view σ1 x) then (evs Φ es ρ σ1).bind fun ds σ2 => meD m x ds σ2 else .bad := by rw [ev] <;> rfl
@[simp] theorem ev_comp {mu : Bool} {own : List Nat} {t : Tg} {k : IK} {its : List Ex} {c elt : Ex} : ev Φ (.comp mu own t k its c elt) ρ σ = (evs Φ its ρ σ).bind fun ds σ1 => match itemsOf σ1 k ds with
    | some xs => (compL t (ev Φ c) (ev Φ elt) (wipeE ρ own) xs [] σ1).bind fun ys σ2 => newL mu ys σ2
    | none => .bad := by rw [ev] <;> rfl
@[simp] theorem evs_nil : evs Φ [] ρ σ = .ok [] σ := by rw [evs] <;> rfl
@[simp] theorem evs_cons' {e : Ex} {es : List Ex} : evs Φ (e :: es) ρ σ = (ev Φ e ρ σ).bind fun x σ1 => match splice e.isStar x σ1 with
    | some xs => (evs Φ es ρ σ1).bind fun ds σ2 => .ok (xs ++ ds) σ2
    | none => .bad := by rw [evs] <;> rfl
@[simp] theorem splice_f {x : D} : splice false x σ = some [x] := (rfl)
@[simp] theorem splice_t {x : D} : splice true x σ = match view σ x with
    | .lst xs => some xs
    | .tup xs => some xs
    | _ => none := rfl
@[simp] theorem perm_nil {ds : List D} : permD ds [] = some [] := (rfl)
@[simp] theorem perm_cons {ds : List D} {i : Nat} {pm : List Nat} : permD ds (i :: pm) = (ds[i]?).bind fun x => (permD ds pm).bind fun r => some (x :: r) := by
  unfold permD; rw [List.mapM_cons]; rfl
@[simp] theorem it_lst {xs : List D} : itemsOf σ .on [.lst xs] = some xs := (rfl)
@[simp] theorem it_ro {xs : List D} : itemsOf σ .on [.ro xs] = some xs := (rfl)
@[simp] theorem it_tup {xs : List D} : itemsOf σ .on [.tup xs] = some xs := (rfl)
@[simp] theorem it_str {x : Str} : itemsOf σ .on [.str x] = some (x.cps.toList.map fun c => D.str ⟨#[c]⟩) := (rfl)
theorem it_rng {n : Int} (h : n < 2 ^ 62 ∧ -(2 ^ 62) ≤ n) : itemsOf σ .rng [.int n] = some ((List.range n.toNat).map fun (i : Nat) => D.int (i : Int)) := if_pos h
@[simp] theorem tg_nm {i : Nat} {d : D} : tgD (.nm i) d ρ = some (ρ.set i (some d)) := (rfl)
@[simp] theorem tg_tup {is : List Nat} {ds : List D} : tgD (.tup is) (.tup ds) ρ = setAll is ds ρ := (rfl)
@[simp] theorem isi_str {ts : List Ty} {x : Str} : isiD ts (.str x) σ = .ok (.bl (ts.any fun t => isTy t (.str x))) σ := (rfl)
@[simp] theorem isi_tup {ts : List Ty} {x : List D} : isiD ts (.tup x) σ = .ok (.bl (ts.any fun t => isTy t (.tup x))) σ := (rfl)
@[simp] theorem isi_int {ts : List Ty} {x : Int} : isiD ts (.int x) σ = .ok (.bl (ts.any fun t => isTy t (.int x))) σ := (rfl)
@[simp] theorem isi_lst {ts : List Ty} {x : List D} : isiD ts (.lst x) σ = .ok (.bl (ts.any fun t => isTy t (.lst x))) σ := (rfl)
@[simp] theorem ty_ss {x : Str} : isTy .str (.str x) = true := (rfl)
@[simp] theorem ty_st {x : List D} : isTy .str (.tup x) = false := (rfl)
@[simp] theorem ty_ts {x : Str} : isTy .tup (.str x) = false := (rfl)
@[simp] theorem ty_tt {x : List D} : isTy .tup (.tup x) = true := (rfl)
@[simp] theorem opt_non : optI .non = some none := (rfl)
@[simp] theorem opt_int {i : Int} : optI (.int i) = some (some i) := (rfl)
@[simp] theorem mo_join {x : Str} : meOk .join (.str x) = true := (rfl)
@[simp] theorem mo_app {x : List D} : meOk .append (.lst x) = true := (rfl)
@[simp] theorem mo_pop {x : List D} : meOk .pop (.lst x) = true := (rfl)
@[simp] theorem mo_ext {x : List D} : meOk .extend (.lst x) = true := (rfl)
@[simp] theorem mo_get {k : List Key} {x : List D} : meOk .get (.dic k x) = true := (rfl)
/-! operators -/
@[simp] theorem b_add {i j : Int} : binD .add (.int i) (.int j) σ = .ok (.int (i + j)) σ := (rfl)
@[simp] theorem b_sub {i j : Int} : binD .sub (.int i) (.int j) σ = .ok (.int (i - j)) σ := (rfl)
theorem b_mul {i j : Int} (h : mulOk i j = true) : binD .mul (.int i) (.int j) σ = .ok (.int (i * j)) σ := if_pos h
theorem b_fdiv {i j : Int} (h : j ≠ 0 ∧ j.natAbs < 1073741824) : binD .fdiv (.int i) (.int j) σ = .ok (.int (i.fdiv j)) σ := if_pos h
theorem b_mod {i j : Int} (h : j ≠ 0) : binD .mod (.int i) (.int j) σ = .ok (.int (i.fmod j)) σ := if_pos h
theorem b_pow {i j : Int} (h : 0 ≤ j ∧ j ≤ 1000000 ∧ i.natAbs < 2 ^ 64) : binD .pow (.int i) (.int j) σ = .ok (.int (i ^ j.toNat)) σ := if_pos h
theorem b_adds {x y : Str} (h : x.length + y.length ≤ lim) : binD .add (.str x) (.str y) σ = .ok (.str (x ++ y)) σ := if_pos h
@[simp] theorem b_addl {x y : List D} : binD .add (.lst x) (.lst y) σ = newL false (x ++ y) σ := (rfl)
@[simp] theorem b_addt {x y : List D} : binD .add (.tup x) (.tup y) σ = newT (x ++ y) σ := (rfl)
@[simp] theorem c_eqi {i j : Int} : cmpD .eq (.int i) (.int j) σ = .ok (.bl (decide (i = j))) σ := (rfl)
@[simp] theorem c_eqs {i j : Str} : cmpD .eq (.str i) (.str j) σ = .ok (.bl (decide (i = j))) σ := (rfl)
@[simp] theorem c_nei {i j : Int} : cmpD .ne (.int i) (.int j) σ = .ok (.bl (!decide (i = j))) σ := (rfl)
@[simp] theorem c_nes {i j : Str} : cmpD .ne (.str i) (.str j) σ = .ok (.bl (!decide (i = j))) σ := (rfl)
@[simp] theorem c_lti {i j : Int} : cmpD .lt (.int i) (.int j) σ = .ok (.bl (decide (i < j))) σ := (rfl)
@[simp] theorem c_lei {i j : Int} : cmpD .le (.int i) (.int j) σ = .ok (.bl (decide (i ≤ j))) σ := (rfl)
@[simp] theorem c_gti {i j : Int} : cmpD .gt (.int i) (.int j) σ = .ok (.bl (decide (j < i))) σ := (rfl)
@[simp] theorem c_gei {i j : Int} : cmpD .ge (.int i) (.int j) σ = .ok (.bl (decide (j ≤ i))) σ := (rfl)
@[simp] theorem c_les {i j : Str} : cmpD .le (.str i) (.str j) σ = .ok (.bl (!strLt j i)) σ := (rfl)
@[simp] theorem c_ins {i j : Str} : cmpD .isin (.str i) (.str j) σ = .ok (.bl (!(Builtin.Str.occurrences j i 0 j.length 1).isEmpty)) σ := (rfl)
@[simp] theorem i_tup {xs : List D} {i : Int} : idxD (.tup xs) (.int i) σ = match atI xs i with
    | some d => .ok d σ
    | none => .bad := rfl
@[simp] theorem i_lst {xs : List D} {i : Int} : idxD (.lst xs) (.int i) σ = match atI xs i with
    | some d => .ok d σ
    | none => .bad := rfl
@[simp] theorem sl_tup' {mu : Bool} {xs : List D} {l h : D} {lo hi : Option Int} (h1 : optI l = some lo) (h2 : optI h = some hi) : sliceD mu (.tup xs) l h σ = newT (cutL xs lo hi) σ := by unfold sliceD; rw [h1, h2]; rfl
theorem sl_str' {mu : Bool} {x : Str} {l h : D} {lo hi : Option Int} (hx : x.length ≤ lim) (h1 : optI l = some lo) (h2 : optI h = some hi) : sliceD mu (.str x) l h σ = .ok (.str ⟨(cutL x.cps.toList lo hi).toArray⟩) σ := by unfold sliceD; rw [h1, h2]; exact if_pos hx
@[simp] theorem bi_lenl {mu : Bool} {xs : List D} : biD .len mu (.lst xs) σ = .ok (.int xs.length) σ := (rfl)
@[simp] theorem bi_lent {mu : Bool} {xs : List D} : biD .len mu (.tup xs) σ = .ok (.int xs.length) σ := (rfl)
theorem bi_lens {mu : Bool} {x : Str} (h : x.length ≤ lim) : biD .len mu (.str x) σ = .ok (.int x.length) σ := if_pos h
@[simp] theorem bi_listl {mu : Bool} {xs : List D} : biD .list mu (.lst xs) σ = newL mu xs σ := (rfl)
@[simp] theorem bi_listt {mu : Bool} {xs : List D} : biD .list mu (.tup xs) σ = newL mu xs σ := (rfl)
@[simp] theorem bi_listd {mu : Bool} {ks : List Key} {xs : List D} : biD .list mu (.dic ks xs) σ = newL mu (ks.map keyD) σ := (rfl)
@[simp] theorem bi_tupl {mu : Bool} {xs : List D} : biD .tuple mu (.lst xs) σ = newT xs σ := (rfl)
@[simp] theorem bi_int {mu : Bool} {i : Int} : biD .int mu (.int i) σ = .ok (.int i) σ := (rfl)
@[simp] theorem ex_asg {t : Tg} {e : Ex} : ex Φ (.asg t e) ρ σ = Out.of (ev Φ e ρ σ) fun x σ1 => match tgD t x ρ with
    | some ρ1 => .nx ρ1 σ1
    | none => .bad := by rw [ex] <;> rfl
@[simp] theorem ex_par {i j : Nat} {a b : Ex} : ex Φ (.par i j a b) ρ σ = Out.of (ev Φ a ρ σ) fun x σ1 => Out.of (ev Φ b ρ σ1) fun y σ2 => .nx ((ρ.set i (some x)).set j (some y)) σ2 := by rw [ex] <;> rfl
@[simp] theorem ex_put {o k e : Ex} : ex Φ (.put o k e) ρ σ = Out.of (ev Φ e ρ σ) fun x σ1 => Out.of (ev Φ o ρ σ1) fun y σ2 => Out.of (ev Φ k ρ σ2) fun z σ3 => match putAt y z x σ3 with
    | some σ4 => .nx ρ σ4
    | none => .bad := by rw [ex] <;> rfl
@[simp] theorem ex_exp {e : Ex} : ex Φ (.exp e) ρ σ = Out.of (ev Φ e ρ σ) fun _ σ1 => .nx ρ σ1 := by rw [ex] <;> rfl
@[simp] theorem ex_ret {e : Ex} : ex Φ (.ret e) ρ σ = Out.of (ev Φ e ρ σ) fun x σ1 => .rt x σ1 := by rw [ex] <;> rfl
@[simp] theorem ex_ite {c : Ex} {a b : List Stt} : ex Φ (.ite c a b) ρ σ = Out.of (ev Φ c ρ σ) fun x σ1 => tb (truthD (view σ1 x)) (exs Φ a ρ σ1) (exs Φ b ρ σ1) .bad := by rw [ex] <;> rfl
@[simp] theorem ex_whl {c : Ex} {b : List Stt} : ex Φ (.whl c b) ρ σ = whlN (ev Φ c) (exs Φ b) whFuel ρ σ := by rw [ex] <;> rfl
@[simp] theorem ex_for {t : Tg} {k : IK} {its : List Ex} {b : List Stt} : ex Φ (.for t k its b) ρ σ = Out.of (evs Φ its ρ σ) fun ds σ1 => match itemsOf σ1 k ds with
    | some xs => forL t (exs Φ b) xs ρ σ1
    | none => .bad := by rw [ex] <;> rfl
@[simp] theorem ex_brk : ex Φ .brk ρ σ = .bk ρ σ := by rw [ex] <;> rfl
@[simp] theorem ex_cont : ex Φ .cont ρ σ = .ct ρ σ := by rw [ex] <;> rfl
@[simp] theorem ex_pass : ex Φ .pass ρ σ = .nx ρ σ := by rw [ex] <;> rfl
@[simp] theorem ex_frz {i : Nat} : ex Φ (.frz i) ρ σ = match ρ[i]? with
    | some (some (.ref n)) => match σ[n]? with
      | some (.lst xs) => .nx (ρ.set i (some (.lst xs))) (σ.set n .dead)
      | some (.dic ks vs) => .nx (ρ.set i (some (.dic ks vs))) (σ.set n .dead)
      | _ => .bad
    | _ => .bad := by rw [ex] <;> rfl
@[simp] theorem exs_nil : exs Φ [] ρ σ = .nx ρ σ := by rw [exs] <;> rfl
@[simp] theorem exs_cons {s : Stt} {ss : List Stt} : exs Φ (s :: ss) ρ σ = (ex Φ s ρ σ).then (fun ρ σ => exs Φ ss ρ σ) := by
  rw [exs]; cases ex Φ s ρ σ <;> rfl
end
theorem strs_of_map {α : Type} (f : α → Str) : ∀ xs : List α, strsOf (xs.map fun x => D.str (f x)) = some (xs.map f)
  | [] => rfl
  | x :: r => by rw [List.map_cons, strsOf, strs_of_map f r]; rfl
theorem ints_of_map {α : Type} (f : α → Int) : ∀ xs : List α, intsOf (xs.map fun x => D.int (f x)) = some (xs.map f)
  | [] => rfl
  | x :: r => by rw [List.map_cons, intsOf, ints_of_map f r]; rfl
theorem bls_of_map {α : Type} (f : α → Bool) : ∀ xs : List α, blsOf (xs.map fun x => D.bl (f x)) = some (xs.map f)
  | [] => rfl
  | x :: r => by rw [List.map_cons, blsOf, bls_of_map f r]; rfl
theorem me_join {x : Str} {xs : List D} {ss : List Str} {σ : Store} (h : strsOf xs = some ss) (hl : (ss.map (·.length)).sum + ss.length * x.length ≤ lim) : meD .join (.str x) [.lst xs] σ = .ok (.str (Txt.join x ss)) σ := by
  unfold meD
  simp only [view_lst, h]
  exact if_pos hl
theorem bi_sum {mu : Bool} {xs : List D} {ns : List Int} {σ : Store} (h : intsOf xs = some ns) : biD .sum mu (.lst xs) σ = .ok (.int ns.sum) σ := by
  unfold biD
  simp only [view_lst, h]
theorem bi_all {mu : Bool} {xs : List D} {ns : List Bool} {σ : Store} (h : blsOf xs = some ns) : biD .all mu (.lst xs) σ = .ok (.bl (ns.all id)) σ := by
  unfold biD
  simp only [view_lst, h]
theorem bi_sorted {mu : Bool} {xs : List D} {ss : List Str} {σ : Store} (h : strsOf xs = some ss) : biD .sorted mu (.lst xs) σ = newL mu ((sortS ss).map D.str) σ := by
  unfold biD
  simp only [view_lst, h]
theorem bi_sortedd {mu : Bool} {ks : List Key} {xs : List D} {ss : List Str} {σ : Store} (h : strsOf (ks.map keyD) = some ss) : biD .sorted mu (.dic ks xs) σ = newL mu ((sortS ss).map D.str) σ := by
  unfold biD
  simp only [view_dic, h]
theorem bi_sorteds {mu : Bool} {ss : List Str} {σ : Store} : biD .sorted mu (.set ss) σ = newL mu ((sortS ss).map D.str) σ := (rfl)
theorem bi_set {mu : Bool} {xs : List D} {ss : List Str} {σ : Store} (h : strsOf xs = some ss) (hl : ss.length < 1000) : biD .set mu (.lst xs) σ = .ok (.set ss.eraseDups) σ := by
  unfold biD
  simp only [view_lst, h]
  exact if_pos hl
@[simp] theorem atI_zero {α : Type} {x : α} {r : List α} : atI (x :: r) 0 = some x := by
  unfold atI; simp [ixN]
end Iv

set_option Elab.async false
set_option linter.all false
/-! plain values: comparing them, showing them -/
namespace Iv
open PySem L2
mutual
/-- plain values; with b = true also the ints are showable -/
def D.sim (b : Bool) : D → Bool
  | .non => true
  | .bl _ => true
  | .int i => !b || decide (i.natAbs.log2 < 1920)
  | .str x => PyData.strOk x
  | .tup xs => D.sims b xs
  | .lst xs => D.sims b xs
  | _ => false
def D.sims (b : Bool) : List D → Bool
  | [] => true
  | d :: ds => D.sim b d && D.sims b ds
end
mutual
def D.wt : D → Nat
  | .int i => (((toString i : String) : Str)).length
  | .str x => 10 * x.length + 2
  | .tup xs => 3 + D.wts xs
  | .lst xs => 3 + D.wts xs
  | _ => 5
def D.wts : List D → Nat
  | [] => 0
  | d :: ds => D.wt d + 2 + D.wts ds
end
mutual
def D.dp : D → Nat
  | .tup xs => D.dps xs + 1
  | .lst xs => D.dps xs + 1
  | _ => 0
def D.dps : List D → Nat
  | [] => 0
  | d :: ds => max (D.dp d) (D.dps ds)
end
theorem strok_lt {x : Str} (h : PyData.strOk x = true) : ∀ c ∈ x.cps.toList, c < 16 ^ 8 := by
  intro c hc
  unfold PyData.strOk at h
  rw [← Array.all_toList, List.all_eq_true] at h
  have := h c hc
  rw [decide_eq_true_eq] at this
  omega
mutual
theorem sim_all {b : Bool} : ∀ d : D, D.sim b d = true → d.pure = true ∧ d.py.canLay0 = true ∧ d.py.depth = d.dp ∧ (b = true → d.py.showable = true ∧ d.py.shown.length ≤ d.wt)
  | .non, _ => ⟨by unfold D.pure; rfl, by unfold D.py PyData.canLay0; rfl, by unfold D.py D.dp PyData.depth; rfl, fun _ => ⟨by unfold D.py PyData.showable; rfl, by unfold D.py D.wt; rw [PyData.shown_none]; decide +kernel⟩⟩
  | .bl c, _ => ⟨by unfold D.pure; rfl, by unfold D.py PyData.canLay0; rfl, by unfold D.py D.dp PyData.depth; rfl, fun _ => ⟨by unfold D.py PyData.showable; rfl, by unfold D.py D.wt; rw [PyData.shown_bool]; cases c <;> decide +kernel⟩⟩
  | .int i, h => ⟨by unfold D.pure; rfl, by unfold D.py PyData.canLay0; rfl, by unfold D.py D.dp PyData.depth; rfl, fun e => by
    subst e
    unfold D.sim at h
    exact ⟨by unfold D.py PyData.showable; simpa using h, by unfold D.py D.wt; rw [PyData.shown_int]; exact Nat.le_refl _⟩⟩
  | .str x, h => ⟨by unfold D.pure; rfl, by unfold D.py PyData.canLay0; unfold D.sim at h; exact h, by unfold D.py D.dp PyData.depth; rfl, fun _ => ⟨by unfold D.py PyData.showable; rfl, by
      unfold D.sim at h
      unfold D.py D.wt; rw [PyData.shown_str]; exact StrLaws.reprText_len x (strok_lt h)⟩⟩
  | .tup xs, h => by
    unfold D.sim at h
    obtain ⟨h1, h2, h3, h4⟩ := sims_all xs h
    refine ⟨by unfold D.pure; exact h1, by unfold D.py PyData.canLay0; exact h2, by unfold D.py D.dp PyData.depth; rw [h3], fun e => ⟨by unfold D.py PyData.showable; exact (h4 e).1, ?_⟩⟩
    unfold D.py D.wt
    rw [PyData.shown_tuple, Str.length_append, Str.length_append]
    have hj := StrLaws.join_length_le ", " (PyData.shownAll (D.pys xs))
    have h5 := (h4 e).2
    have e1 : (", " : Str).length = 2 := by decide +kernel
    have e2 : ("(" : Str).length = 1 := by decide +kernel
    have e3 : ∀ b : Bool, (((if b then ",)" else ")" : String)) : Str).length ≤ 2 := by decide +kernel
    have e4 := e3 ((D.pys xs).length == 1)
    rw [e1] at hj
    rw [e2]
    omega
  | .lst xs, h => by
    unfold D.sim at h
    obtain ⟨h1, h2, h3, h4⟩ := sims_all xs h
    refine ⟨by unfold D.pure; exact h1, by unfold D.py PyData.canLay0; exact h2, by unfold D.py D.dp PyData.depth; rw [h3], fun e => ⟨by unfold D.py PyData.showable; exact (h4 e).1, ?_⟩⟩
    unfold D.py D.wt
    rw [PyData.shown_list, Str.length_append, Str.length_append]
    have hj := StrLaws.join_length_le ", " (PyData.shownAll (D.pys xs))
    have h5 := (h4 e).2
    have e1 : (", " : Str).length = 2 := by decide +kernel
    have e2 : ("[" : Str).length = 1 := by decide +kernel
    have e3 : ("]" : Str).length = 1 := by decide +kernel
    rw [e1] at hj
    rw [e2, e3]
    omega
  | .dic _ _, h => by simp [D.sim] at h
  | .set _, h => by simp [D.sim] at h
  | .ro _, h => by simp [D.sim] at h
  | .ref _, h => by simp [D.sim] at h
theorem sims_all {b : Bool} : ∀ ds : List D, D.sims b ds = true → D.pures ds = true ∧ PyData.canLayAll0 (D.pys ds) = true ∧ PyData.depthAll (D.pys ds) = D.dps ds ∧ (b = true → PyData.showableAll (D.pys ds) = true ∧ ((PyData.shownAll (D.pys ds)).map (·.length)).sum + (PyData.shownAll (D.pys ds)).length * 2 ≤ D.wts ds)
  | [], _ => ⟨by unfold D.pures; rfl, by unfold D.pys PyData.canLayAll0; rfl, by unfold D.pys D.dps PyData.depthAll; rfl, fun _ => ⟨by unfold D.pys PyData.showableAll; rfl, by unfold D.pys D.wts; rw [PyData.shownAll_nil]; decide⟩⟩
  | d :: ds, h => by
    unfold D.sims at h
    rw [Bool.and_eq_true] at h
    obtain ⟨a1, a2, a3, a4⟩ := sim_all d h.1
    obtain ⟨b1, b2, b3, b4⟩ := sims_all ds h.2
    refine ⟨by unfold D.pures; rw [a1, b1]; rfl, by unfold D.pys PyData.canLayAll0; rw [a2, b2]; rfl, by unfold D.pys D.dps PyData.depthAll; rw [a3, b3], fun e => ⟨by unfold D.pys PyData.showableAll; rw [(a4 e).1, (b4 e).1]; rfl, ?_⟩⟩
    unfold D.pys D.wts
    rw [PyData.shownAll_cons]
    simp only [List.map_cons, List.sum_cons, List.length_cons]
    have := (a4 e).2
    have := (b4 e).2
    omega
end
theorem reprOk_of {d : D} (h : D.sim true d = true) (hw : d.wt ≤ lim) (hd : d.dp ≤ 100) : reprOk d = true := by
  obtain ⟨h1, h2, h3, h4⟩ := sim_all d h
  obtain ⟨h5, h6⟩ := h4 rfl
  unfold reprOk
  rw [h1, h5, h3, decide_eq_true (Nat.le_trans h6 hw), decide_eq_true hd]
  rfl
theorem cmpable_of {b : Bool} {d : D} (h : D.sim b d = true) (hd : d.dp ≤ 64) : cmpable d = true := by
  obtain ⟨h1, h2, h3, h4⟩ := sim_all d h
  unfold cmpable
  rw [h1, h2, h3, decide_eq_true hd]
  rfl
theorem bi_repr {mu : Bool} {d : D} {σ : Store} (hv : view σ d = d) (h : reprOk d = true) : biD .repr mu d σ = .ok (.str d.py.shown) σ := by
  unfold biD
  cases d <;> simp_all
theorem eqv_nil (xs : List D) : PyData.eqv (.list (D.pys xs)) (.list []) = xs.isEmpty := by
  cases xs with
  | nil => unfold D.pys PyData.eqv PyData.eqvAll; rfl
  | cons d ds => unfold D.pys PyData.eqv PyData.eqvAll; rfl
theorem cmp_nil {b : Bool} {xs : List D} (h : D.sims b xs = true) (hd : D.dps xs ≤ 63) : cmpable (.lst xs) = true ∧ cmpable (.lst []) = true ∧ PyData.eqv (D.py (.lst xs)) (D.py (.lst [])) = xs.isEmpty := by
  refine ⟨cmpable_of (b := b) (by unfold D.sim; exact h) (by unfold D.dp; omega), by decide +kernel, ?_⟩
  unfold D.py
  rw [show D.pys [] = [] by unfold D.pys; rfl]
  exact eqv_nil xs
theorem c_eqnil {b : Bool} {x : D} {xs : List D} {σ : Store} (hv : view σ x = .lst xs) (h : D.sims b xs = true) (hd : D.dps xs ≤ 63) : cmpD .eq x (.lst []) σ = .ok (.bl xs.isEmpty) σ := by
  obtain ⟨h1, h2, h3⟩ := cmp_nil h hd
  unfold cmpD
  rw [hv, view_lst]
  dsimp only
  rw [h1, h2, h3]
  rfl
theorem c_nenil {b : Bool} {x : D} {xs : List D} {σ : Store} (hv : view σ x = .lst xs) (h : D.sims b xs = true) (hd : D.dps xs ≤ 63) : cmpD .ne x (.lst []) σ = .ok (.bl (!xs.isEmpty)) σ := by
  obtain ⟨h1, h2, h3⟩ := cmp_nil h hd
  unfold cmpD
  rw [hv, view_lst]
  dsimp only
  rw [h1, h2, h3]
  rfl
theorem sims_map {α : Type} {b : Bool} {f : α → D} : ∀ {xs : List α}, (∀ x ∈ xs, D.sim b (f x) = true) → D.sims b (xs.map f) = true
  | [], _ => by unfold List.map D.sims; rfl
  | x :: r, h => by
    unfold List.map D.sims
    rw [h x List.mem_cons_self, sims_map fun y hy => h y (List.mem_cons_of_mem _ hy)]
    rfl
theorem dps_map {α : Type} {n : Nat} {f : α → D} : ∀ {xs : List α}, (∀ x ∈ xs, (f x).dp ≤ n) → D.dps (xs.map f) ≤ n
  | [], _ => by unfold List.map D.dps; exact Nat.zero_le _
  | x :: r, h => by
    unfold List.map D.dps
    have a := h x List.mem_cons_self
    have b := dps_map fun y hy => h y (List.mem_cons_of_mem _ hy)
    exact Nat.max_le.mpr ⟨a, b⟩
theorem wts_map {α : Type} {n : Nat} {f : α → D} : ∀ {xs : List α}, (∀ x ∈ xs, (f x).wt + 2 ≤ n) → D.wts (xs.map f) ≤ xs.length * n
  | [], _ => by unfold List.map D.wts; exact Nat.zero_le _
  | x :: r, h => by
    unfold List.map D.wts
    have a := h x List.mem_cons_self
    have b := wts_map fun y hy => h y (List.mem_cons_of_mem _ hy)
    rw [List.length_cons, Nat.succ_mul]
    omega
end Iv

set_option Elab.async false
set_option linter.all false
/-! what an evaluation ends in: conditions behind it -/
namespace Iv
open PySem L2
@[irreducible] def Res.sat {α : Type} (r : Res α) (Q : α → Store → Prop) : Prop := match r with
  | .ok a σ => Q a σ
  | _ => False
@[irreducible] def Out.sat (o : Out) (N : Env → Store → Prop) (R : D → Store → Prop) : Prop := match o with
  | .nx ρ σ => N ρ σ
  | .rt d σ => R d σ
  | _ => False
section
variable {α β : Type} {Q : α → Store → Prop} {S : β → Store → Prop} {N M : Env → Store → Prop} {R : D → Store → Prop} {σ : Store} {ρ : Env}
@[simp] theorem sat_ok {a : α} : (Res.ok a σ).sat Q = Q a σ := by unfold Res.sat; rfl
@[simp] theorem sat_bad : (Res.bad : Res α).sat Q = False := by unfold Res.sat; rfl
@[simp] theorem sat_exc {c : Nat} {d : D} : (Res.exc c d σ : Res α).sat Q = False := by unfold Res.sat; rfl
theorem sat_bind {r : Res α} {f : α → Store → Res β} : (r.bind f).sat S = r.sat fun a σ => (f a σ).sat S := by unfold Res.sat; cases r <;> rfl
@[simp] theorem osat_nx : (Out.nx ρ σ).sat N R = N ρ σ := by unfold Out.sat; rfl
@[simp] theorem osat_rt {d : D} : (Out.rt d σ).sat N R = R d σ := by unfold Out.sat; rfl
theorem osat_then {o : Out} {k : Env → Store → Out} : (o.then k).sat N R = o.sat (fun ρ σ => (k ρ σ).sat N R) R := by unfold Out.sat; cases o <;> rfl
theorem osat_of {r : Res α} {f : α → Store → Out} : (Out.of r f).sat N R = r.sat fun a σ => (f a σ).sat N R := by unfold Res.sat Out.sat; cases r <;> rfl
theorem sat_fin {S : D → Store → Prop} {o : Out} {σ0 : Store} : (fin σ0 o).sat S = o.sat (fun _ σ => (leave σ0 .non σ).sat S) (fun d σ => (leave σ0 d σ).sat S) := by unfold Res.sat Out.sat; cases o <;> rfl
theorem Res.sat.mono {r : Res α} {P : α → Store → Prop} (h : r.sat P) (i : ∀ a σ, P a σ → Q a σ) : r.sat Q := by
  unfold Res.sat at *
  cases r with
  | ok a σ => exact i a σ h
  | _ => exact h
theorem Out.sat.mono {o : Out} {N' : Env → Store → Prop} {R' : D → Store → Prop} (h : o.sat N R) (i : ∀ ρ σ, N ρ σ → N' ρ σ) (j : ∀ d σ, R d σ → R' d σ) : o.sat N' R' := by
  unfold Out.sat at *
  cases o with
  | nx ρ σ => exact i ρ σ h
  | rt d σ => exact j d σ h
  | _ => exact h
theorem Res.sat.ex {r : Res α} (h : r.sat Q) : ∃ a σ, r = .ok a σ ∧ Q a σ := by
  unfold Res.sat at h
  cases r with
  | ok a σ => exact ⟨a, σ, rfl, h⟩
  | _ => exact h.elim
theorem sat_eq {r : Res α} {a : α} (h : r = .ok a σ) (q : Q a σ) : r.sat Q := by rw [h, sat_ok]; exact q
/-- a call, run -/
theorem sat_call {pr : List Fd} {k f : Nat} {fd : Fd} {ds : List D} {Q : D → Store → Prop} (h : pr[f]? = some fd) (hl : ds.length = fd.np)
    (g : (exs (callK pr k) fd.body (ds.map some ++ List.replicate (fd.ns - ds.length) none) σ).sat (fun _ σ1 => (leave σ .non σ1).sat Q) (fun d σ1 => (leave σ d σ1).sat Q)) : (callK pr (k + 1) f ds σ).sat Q := by
  rw [callK_run h hl, sat_fin]; exact g
/-- for: over items that are images -/
theorem osat_for {γ : Type} {t : Tg} {b : Env → Store → Out} (g : γ → D) (I : List γ → Env → Store → Prop) {xs : List γ} (h0 : I xs ρ σ)
    (hs : ∀ x r ρ σ, I (x :: r) ρ σ → ∃ ρ1, tgD t (g x) ρ = some ρ1 ∧ (b ρ1 σ).sat (I r) R) (hd : ∀ ρ σ, I [] ρ σ → N ρ σ) : (forL t b (xs.map g) ρ σ).sat N R := by
  induction xs generalizing ρ σ with
  | nil => rw [List.map_nil, forL, osat_nx]; exact hd ρ σ h0
  | cons x r ih =>
    obtain ⟨ρ1, e, h⟩ := hs x r ρ σ h0
    rw [List.map_cons, forL, e]
    dsimp only
    cases q : b ρ1 σ with
    | nx ρ2 σ2 => rw [q, osat_nx] at h; exact ih h
    | rt d σ2 => rw [q, osat_rt] at h; rw [osat_rt]; exact h
    | _ => rw [q] at h; unfold Out.sat at h; exact h.elim
/-- .. told by numbers -/
theorem osat_forN {γ : Type} {t : Tg} {b : Env → Store → Out} (g : γ → D) {xs : List γ} (I : Nat → Env → Store → Prop) (h0 : I 0 ρ σ)
    (hs : ∀ i (h : i < xs.length) ρ σ, I i ρ σ → ∃ ρ1, tgD t (g xs[i]) ρ = some ρ1 ∧ (b ρ1 σ).sat (I (i + 1)) R) (hd : ∀ ρ σ, I xs.length ρ σ → N ρ σ) : (forL t b (xs.map g) ρ σ).sat N R := by
  refine osat_for g (fun r ρ σ => ∃ i, xs.drop i = r ∧ i ≤ xs.length ∧ I i ρ σ) ⟨0, rfl, Nat.zero_le _, h0⟩ ?_ ?_
  · rintro x r ρ σ ⟨i, e, hi, h⟩
    have hlt : i < xs.length := by
      have := congrArg List.length e
      rw [List.length_drop, List.length_cons] at this
      omega
    have e2 := List.drop_eq_getElem_cons hlt
    rw [e] at e2
    injection e2 with e3 e4
    obtain ⟨ρ1, h1, h2⟩ := hs i hlt ρ σ h
    subst e3
    exact ⟨ρ1, h1, h2.mono (fun ρ σ h => ⟨i + 1, e4.symm, hlt, h⟩) fun _ _ h => h⟩
  · rintro ρ σ ⟨i, e, hi, h⟩
    have : i = xs.length := by
      have := congrArg List.length e
      rw [List.length_drop, List.length_nil] at this
      omega
    subst this
    exact hd ρ σ h
theorem osat_range {t : Tg} {b : Env → Store → Out} {n : Nat} (I : Nat → Env → Store → Prop) (h0 : I 0 ρ σ)
    (hs : ∀ i, i < n → ∀ ρ σ, I i ρ σ → ∃ ρ1, tgD t (.int (i : Int)) ρ = some ρ1 ∧ (b ρ1 σ).sat (I (i + 1)) R) (hd : ∀ ρ σ, I n ρ σ → N ρ σ) : (forL t b ((List.range n).map fun (i : Nat) => D.int (i : Int)) ρ σ).sat N R := by
  refine osat_forN (fun (i : Nat) => D.int (i : Int)) I h0 (fun i h ρ σ q => ?_) (by rw [List.length_range]; exact hd)
  rw [List.getElem_range]
  exact hs i (by rwa [List.length_range] at h) ρ σ q
/-- a comprehension, its items told one by one -/
theorem sat_comp {γ : Type} {t : Tg} {c elt : Env → Store → Res D} (g : γ → D) (I : List γ → List D → Store → Prop) {Q : List D → Store → Prop} {xs : List γ} {acc : List D} (h0 : I xs acc σ)
    (hs : ∀ x r acc σ, I (x :: r) acc σ → ∃ ρ1, tgD t (g x) ρ = some ρ1 ∧ (c ρ1 σ).sat fun b σ1 => ∃ b', truthD (view σ1 b) = some b' ∧ if b' then acc.length < lim ∧ (elt ρ1 σ1).sat (fun v σ2 => I r (acc ++ [v]) σ2) else I r acc σ1)
    (hd : ∀ acc σ, I [] acc σ → Q acc σ) : (compL t c elt ρ (xs.map g) acc σ).sat Q := by
  induction xs generalizing acc σ with
  | nil => rw [List.map_nil, compL, sat_ok]; exact hd acc σ h0
  | cons x r ih =>
    obtain ⟨ρ1, e, h⟩ := hs x r acc σ h0
    rw [List.map_cons, compL, e]
    dsimp only
    obtain ⟨b, σ1, e1, b', e2, h⟩ := h.ex
    rw [e1]
    dsimp only
    rw [e2]
    cases b' with
    | false => exact ih h
    | true =>
      rw [if_pos rfl] at h
      obtain ⟨v, σ2, e3, h3⟩ := h.2.ex
      dsimp only
      rw [e3]
      dsimp only
      rw [if_pos h.1]
      exact ih h3
end
end Iv

set_option Elab.async false
set_option linter.all false
/-! the evaluator in frames: each waits for one outcome; nothing is looked into before it is there -/
namespace Iv
open PySem L2
variable {Φ : CallSem} {ρ : Env} {σ : Store}
/-! statements -/
def thenS (Φ : CallSem) (ss : List Stt) (o : Out) : Out := o.then fun ρ σ => exs Φ ss ρ σ
theorem thenS_nx {ss : List Stt} : thenS Φ ss (.nx ρ σ) = exs Φ ss ρ σ := (rfl)
theorem thenS_rt {ss : List Stt} {d : D} : thenS Φ ss (.rt d σ) = .rt d σ := (rfl)
theorem thenS_exc {ss : List Stt} {c : Nat} {d : D} : thenS Φ ss (.exc c d σ) = .exc c d σ := (rfl)
theorem thenS_nil {o : Out} : thenS Φ [] o = o := by cases o <;> first | rfl | (unfold thenS Out.then; exact exs_nil)
theorem fx_nil : exs Φ [] ρ σ = .nx ρ σ := exs_nil
theorem fx_one {s : Stt} : exs Φ [s] ρ σ = ex Φ s ρ σ := by rw [exs_cons]; exact thenS_nil
theorem fx_cons {s s' : Stt} {ss : List Stt} : exs Φ (s :: s' :: ss) ρ σ = thenS Φ (s' :: ss) (ex Φ s ρ σ) := exs_cons
theorem osat_thenS {ss : List Stt} {o : Out} {N : Env → Store → Prop} {R : D → Store → Prop} (h : o.sat (fun ρ σ => (exs Φ ss ρ σ).sat N R) R) : (thenS Φ ss o).sat N R := by
  unfold thenS; rw [osat_then]; exact h
def asgT (o : Option Env) (σ : Store) : Out := match o with
  | some ρ1 => .nx ρ1 σ
  | none => .bad
theorem asgT_some {ρ1 : Env} : asgT (some ρ1) σ = .nx ρ1 σ := (rfl)
def asgK (t : Tg) (ρ : Env) (r : Res D) : Out := Out.of r fun x σ1 => asgT (tgD t x ρ) σ1
theorem asgK_ok {t : Tg} {x : D} : asgK t ρ (.ok x σ) = asgT (tgD t x ρ) σ := (rfl)
theorem asgK_exc {t : Tg} {c : Nat} {x : D} : asgK t ρ (.exc c x σ) = .exc c x σ := (rfl)
theorem fx_asg {t : Tg} {e : Ex} : ex Φ (.asg t e) ρ σ = asgK t ρ (ev Φ e ρ σ) := ex_asg
def parB (i j : Nat) (ρ : Env) (x : D) (r : Res D) : Out := Out.of r fun y σ2 => .nx ((ρ.set i (some x)).set j (some y)) σ2
def parA (Φ : CallSem) (i j : Nat) (b : Ex) (ρ : Env) (r : Res D) : Out := Out.of r fun x σ1 => parB i j ρ x (ev Φ b ρ σ1)
theorem parA_ok {i j : Nat} {b : Ex} {x : D} : parA Φ i j b ρ (.ok x σ) = parB i j ρ x (ev Φ b ρ σ) := (rfl)
theorem parB_ok {i j : Nat} {x y : D} : parB i j ρ x (.ok y σ) = .nx ((ρ.set i (some x)).set j (some y)) σ := (rfl)
theorem fx_par {i j : Nat} {a b : Ex} : ex Φ (.par i j a b) ρ σ = parA Φ i j b ρ (ev Φ a ρ σ) := ex_par
def putR (o : Option Store) (ρ : Env) : Out := match o with
  | some σ4 => .nx ρ σ4
  | none => .bad
theorem putR_some : putR (some σ) ρ = .nx ρ σ := (rfl)
def putC (ρ : Env) (x y : D) (r : Res D) : Out := Out.of r fun z σ3 => putR (putAt y z x σ3) ρ
def putB (Φ : CallSem) (k : Ex) (ρ : Env) (x : D) (r : Res D) : Out := Out.of r fun y σ2 => putC ρ x y (ev Φ k ρ σ2)
def putA (Φ : CallSem) (o k : Ex) (ρ : Env) (r : Res D) : Out := Out.of r fun x σ1 => putB Φ k ρ x (ev Φ o ρ σ1)
theorem putA_ok {o k : Ex} {x : D} : putA Φ o k ρ (.ok x σ) = putB Φ k ρ x (ev Φ o ρ σ) := (rfl)
theorem putB_ok {k : Ex} {x y : D} : putB Φ k ρ x (.ok y σ) = putC ρ x y (ev Φ k ρ σ) := (rfl)
theorem putC_ok {x y z : D} : putC ρ x y (.ok z σ) = putR (putAt y z x σ) ρ := (rfl)
theorem fx_put {o k e : Ex} : ex Φ (.put o k e) ρ σ = putA Φ o k ρ (ev Φ e ρ σ) := ex_put
def expK (ρ : Env) (r : Res D) : Out := Out.of r fun _ σ1 => .nx ρ σ1
theorem expK_ok {x : D} : expK ρ (.ok x σ) = .nx ρ σ := (rfl)
theorem expK_exc {c : Nat} {x : D} : expK ρ (.exc c x σ) = .exc c x σ := (rfl)
theorem fx_exp {e : Ex} : ex Φ (.exp e) ρ σ = expK ρ (ev Φ e ρ σ) := ex_exp
def retK (r : Res D) : Out := Out.of r fun x σ1 => .rt x σ1
theorem retK_ok {x : D} : retK (.ok x σ) = .rt x σ := (rfl)
theorem retK_exc {c : Nat} {x : D} : retK (.exc c x σ) = .exc c x σ := (rfl)
theorem fx_ret {e : Ex} : ex Φ (.ret e) ρ σ = retK (ev Φ e ρ σ) := ex_ret
def iteB (Φ : CallSem) (a b : List Stt) (ρ : Env) (σ : Store) (o : Option Bool) : Out := tb o (exs Φ a ρ σ) (exs Φ b ρ σ) .bad
def iteK (Φ : CallSem) (a b : List Stt) (ρ : Env) (r : Res D) : Out := Out.of r fun x σ1 => iteB Φ a b ρ σ1 (truthD (view σ1 x))
theorem iteB_t {a b : List Stt} : iteB Φ a b ρ σ (some true) = exs Φ a ρ σ := (rfl)
theorem iteB_f {a b : List Stt} : iteB Φ a b ρ σ (some false) = exs Φ b ρ σ := (rfl)
theorem iteK_ok {a b : List Stt} {x : D} : iteK Φ a b ρ (.ok x σ) = iteB Φ a b ρ σ (truthD (view σ x)) := (rfl)
theorem fx_ite {c : Ex} {a b : List Stt} : ex Φ (.ite c a b) ρ σ = iteK Φ a b ρ (ev Φ c ρ σ) := ex_ite
def forB (Φ : CallSem) (t : Tg) (b : List Stt) (ρ : Env) (σ : Store) (o : Option (List D)) : Out := match o with
  | some xs => forL t (exs Φ b) xs ρ σ
  | none => .bad
def forA (Φ : CallSem) (t : Tg) (k : IK) (b : List Stt) (ρ : Env) (r : Res (List D)) : Out := Out.of r fun ds σ1 => forB Φ t b ρ σ1 (itemsOf σ1 k ds)
theorem forA_ok {t : Tg} {k : IK} {b : List Stt} {ds : List D} : forA Φ t k b ρ (.ok ds σ) = forB Φ t b ρ σ (itemsOf σ k ds) := (rfl)
theorem forB_some {t : Tg} {b : List Stt} {xs : List D} : forB Φ t b ρ σ (some xs) = forL t (exs Φ b) xs ρ σ := (rfl)
theorem fx_for {t : Tg} {k : IK} {its : List Ex} {b : List Stt} : ex Φ (.for t k its b) ρ σ = forA Φ t k b ρ (evs Φ its ρ σ) := ex_for
theorem fx_pass : ex Φ .pass ρ σ = .nx ρ σ := ex_pass
def frzB (i n : Nat) (ρ : Env) (σ : Store) (c : Option Cell) : Out := match c with
  | some (.lst xs) => .nx (ρ.set i (some (.lst xs))) (σ.set n .dead)
  | some (.dic ks vs) => .nx (ρ.set i (some (.dic ks vs))) (σ.set n .dead)
  | _ => .bad
theorem frzB_l {i n : Nat} {xs : List D} : frzB i n ρ σ (some (.lst xs)) = .nx (ρ.set i (some (.lst xs))) (σ.set n .dead) := (rfl)
theorem frzB_d {i n : Nat} {ks : List Key} {xs : List D} : frzB i n ρ σ (some (.dic ks xs)) = .nx (ρ.set i (some (.dic ks xs))) (σ.set n .dead) := (rfl)
def frzA (i : Nat) (ρ : Env) (σ : Store) (o : Option (Option D)) : Out := match o with
  | some (some (.ref n)) => frzB i n ρ σ σ[n]?
  | _ => .bad
theorem frzA_ref {i n : Nat} : frzA i ρ σ (some (some (.ref n))) = frzB i n ρ σ σ[n]? := (rfl)
theorem fx_frz {i : Nat} : ex Φ (.frz i) ρ σ = frzA i ρ σ ρ[i]? := ex_frz
/-! expressions -/
def getK (o : Option (Option D)) (σ : Store) : Res D := match o with
  | some (some d) => .ok d σ
  | _ => .bad
theorem getK_s {d : D} : getK (some (some d)) σ = .ok d σ := (rfl)
theorem fv_loc {i : Nat} : ev Φ (.loc i) ρ σ = getK ρ[i]? σ := ev_loc
def binB (op : BOp) (x : D) (r : Res D) : Res D := r.bind fun y σ2 => binD op x y σ2
def binA (Φ : CallSem) (op : BOp) (b : Ex) (ρ : Env) (r : Res D) : Res D := r.bind fun x σ1 => binB op x (ev Φ b ρ σ1)
theorem binA_ok {op : BOp} {b : Ex} {x : D} : binA Φ op b ρ (.ok x σ) = binB op x (ev Φ b ρ σ) := (rfl)
theorem binB_ok {op : BOp} {x y : D} : binB op x (.ok y σ) = binD op x y σ := (rfl)
theorem fv_bin {op : BOp} {a b : Ex} : ev Φ (.bin op a b) ρ σ = binA Φ op b ρ (ev Φ a ρ σ) := ev_bin
def cmpB (op : COp) (x : D) (r : Res D) : Res D := r.bind fun y σ2 => cmpD op x y σ2
def cmpA (Φ : CallSem) (op : COp) (b : Ex) (ρ : Env) (r : Res D) : Res D := r.bind fun x σ1 => cmpB op x (ev Φ b ρ σ1)
theorem cmpA_ok {op : COp} {b : Ex} {x : D} : cmpA Φ op b ρ (.ok x σ) = cmpB op x (ev Φ b ρ σ) := (rfl)
theorem cmpB_ok {op : COp} {x y : D} : cmpB op x (.ok y σ) = cmpD op x y σ := (rfl)
theorem fv_cmp {op : COp} {a b : Ex} : ev Φ (.cmp op a b) ρ σ = cmpA Φ op b ρ (ev Φ a ρ σ) := ev_cmp
def chC (Φ : CallSem) (op' : COp) (c : Ex) (ρ : Env) (y : D) (r : Res D) : Res D := r.bind fun r σ3 => cb r (cmpB op' y (ev Φ c ρ σ3)) (.ok (.bl false) σ3)
def chB (Φ : CallSem) (op op' : COp) (c : Ex) (ρ : Env) (x : D) (r : Res D) : Res D := r.bind fun y σ2 => chC Φ op' c ρ y (cmpD op x y σ2)
def chA (Φ : CallSem) (op op' : COp) (b c : Ex) (ρ : Env) (r : Res D) : Res D := r.bind fun x σ1 => chB Φ op op' c ρ x (ev Φ b ρ σ1)
theorem chA_ok {op op' : COp} {b c : Ex} {x : D} : chA Φ op op' b c ρ (.ok x σ) = chB Φ op op' c ρ x (ev Φ b ρ σ) := (rfl)
theorem chB_ok {op op' : COp} {c : Ex} {x y : D} : chB Φ op op' c ρ x (.ok y σ) = chC Φ op' c ρ y (cmpD op x y σ) := (rfl)
theorem chC_t {op' : COp} {c : Ex} {y : D} : chC Φ op' c ρ y (.ok (.bl true) σ) = cmpB op' y (ev Φ c ρ σ) := (rfl)
theorem chC_f {op' : COp} {c : Ex} {y : D} : chC Φ op' c ρ y (.ok (.bl false) σ) = .ok (.bl false) σ := (rfl)
theorem fv_chain {op op' : COp} {a b c : Ex} : ev Φ (.chain op op' a b c) ρ σ = chA Φ op op' b c ρ (ev Φ a ρ σ) := ev_chain
def andB (Φ : CallSem) (b : Ex) (ρ : Env) (x : D) (σ : Store) (o : Option Bool) : Res D := tb o (ev Φ b ρ σ) (.ok x σ) .bad
def andK (Φ : CallSem) (b : Ex) (ρ : Env) (r : Res D) : Res D := r.bind fun x σ1 => andB Φ b ρ x σ1 (truthD (view σ1 x))
theorem andK_ok {b : Ex} {x : D} : andK Φ b ρ (.ok x σ) = andB Φ b ρ x σ (truthD (view σ x)) := (rfl)
theorem andB_t {b : Ex} {x : D} : andB Φ b ρ x σ (some true) = ev Φ b ρ σ := (rfl)
theorem andB_f {b : Ex} {x : D} : andB Φ b ρ x σ (some false) = .ok x σ := (rfl)
theorem fv_and {a b : Ex} : ev Φ (.and a b) ρ σ = andK Φ b ρ (ev Φ a ρ σ) := ev_and
def orB (Φ : CallSem) (b : Ex) (ρ : Env) (x : D) (σ : Store) (o : Option Bool) : Res D := tb o (.ok x σ) (ev Φ b ρ σ) .bad
def orK (Φ : CallSem) (b : Ex) (ρ : Env) (r : Res D) : Res D := r.bind fun x σ1 => orB Φ b ρ x σ1 (truthD (view σ1 x))
theorem orK_ok {b : Ex} {x : D} : orK Φ b ρ (.ok x σ) = orB Φ b ρ x σ (truthD (view σ x)) := (rfl)
theorem orB_t {b : Ex} {x : D} : orB Φ b ρ x σ (some true) = .ok x σ := (rfl)
theorem orB_f {b : Ex} {x : D} : orB Φ b ρ x σ (some false) = ev Φ b ρ σ := (rfl)
theorem fv_or {a b : Ex} : ev Φ (.or a b) ρ σ = orK Φ b ρ (ev Φ a ρ σ) := ev_or
def notB (σ : Store) (o : Option Bool) : Res D := match o with
  | some b => .ok (.bl (!b)) σ
  | none => .bad
def notK (r : Res D) : Res D := r.bind fun x σ1 => notB σ1 (truthD (view σ1 x))
theorem notK_ok {x : D} : notK (.ok x σ) = notB σ (truthD (view σ x)) := (rfl)
theorem notB_s {b : Bool} : notB σ (some b) = .ok (.bl (!b)) σ := (rfl)
theorem fv_not {a : Ex} : ev Φ (.not a) ρ σ = notK (ev Φ a ρ σ) := ev_not
def iteEB (Φ : CallSem) (a b : Ex) (ρ : Env) (σ : Store) (o : Option Bool) : Res D := tb o (ev Φ a ρ σ) (ev Φ b ρ σ) .bad
def iteE (Φ : CallSem) (a b : Ex) (ρ : Env) (r : Res D) : Res D := r.bind fun x σ1 => iteEB Φ a b ρ σ1 (truthD (view σ1 x))
theorem iteE_ok {a b : Ex} {x : D} : iteE Φ a b ρ (.ok x σ) = iteEB Φ a b ρ σ (truthD (view σ x)) := (rfl)
theorem iteEB_t {a b : Ex} : iteEB Φ a b ρ σ (some true) = ev Φ a ρ σ := (rfl)
theorem iteEB_f {a b : Ex} : iteEB Φ a b ρ σ (some false) = ev Φ b ρ σ := (rfl)
theorem fv_ite {c a b : Ex} : ev Φ (.ite c a b) ρ σ = iteE Φ a b ρ (ev Φ c ρ σ) := ev_ite
def tupK (r : Res (List D)) : Res D := r.bind fun ds σ1 => newT ds σ1
theorem tupK_ok {ds : List D} : tupK (.ok ds σ) = newT ds σ := (rfl)
theorem fv_tup {es : List Ex} : ev Φ (.tup es) ρ σ = tupK (evs Φ es ρ σ) := ev_tup
def lstK (mu : Bool) (r : Res (List D)) : Res D := r.bind fun ds σ1 => newL mu ds σ1
theorem lstK_ok {mu : Bool} {ds : List D} : lstK mu (.ok ds σ) = newL mu ds σ := (rfl)
theorem fv_lst {mu : Bool} {es : List Ex} : ev Φ (.lst mu es) ρ σ = lstK mu (evs Φ es ρ σ) := ev_lst
def dicB (mu : Bool) (σ : Store) (o : Option (List (Key × D))) : Res D := match o with
  | some kvs => if kvs.length ≤ 15 then newD mu ((mergeD [] kvs).map (·.1)) ((mergeD [] kvs).map (·.2)) σ else .bad
  | none => .bad
def dicK (mu : Bool) (r : Res (List D)) : Res D := r.bind fun ds σ1 => dicB mu σ1 (pairUp ds)
theorem dicK_ok {mu : Bool} {ds : List D} : dicK mu (.ok ds σ) = dicB mu σ (pairUp ds) := (rfl)
theorem dicB_some {mu : Bool} {kvs : List (Key × D)} (h : kvs.length ≤ 15) : dicB mu σ (some kvs) = newD mu ((mergeD [] kvs).map (·.1)) ((mergeD [] kvs).map (·.2)) σ := if_pos h
theorem fv_dic {mu : Bool} {es : List Ex} : ev Φ (.dic mu es) ρ σ = dicK mu (evs Φ es ρ σ) := ev_dic
theorem fv_star {a : Ex} : ev Φ (.star a) ρ σ = ev Φ a ρ σ := ev_star
def idxB (x : D) (r : Res D) : Res D := r.bind fun y σ2 => idxD x y σ2
def idxA (Φ : CallSem) (b : Ex) (ρ : Env) (r : Res D) : Res D := r.bind fun x σ1 => idxB x (ev Φ b ρ σ1)
theorem idxA_ok {b : Ex} {x : D} : idxA Φ b ρ (.ok x σ) = idxB x (ev Φ b ρ σ) := (rfl)
theorem idxB_ok {x y : D} : idxB x (.ok y σ) = idxD x y σ := (rfl)
theorem fv_idx {a b : Ex} : ev Φ (.idx a b) ρ σ = idxA Φ b ρ (ev Φ a ρ σ) := ev_idx
def slC (mu : Bool) (x l : D) (r : Res D) : Res D := r.bind fun h σ3 => if (optI h).isSome then sliceD mu x l h σ3 else .bad
def slB (Φ : CallSem) (mu : Bool) (hi : Ex) (ρ : Env) (x : D) (r : Res D) : Res D := r.bind fun l σ2 => if (optI l).isSome then slC mu x l (ev Φ hi ρ σ2) else .bad
def slA (Φ : CallSem) (mu : Bool) (lo hi : Ex) (ρ : Env) (r : Res D) : Res D := r.bind fun x σ1 => slB Φ mu hi ρ x (ev Φ lo ρ σ1)
theorem slA_ok {mu : Bool} {lo hi : Ex} {x : D} : slA Φ mu lo hi ρ (.ok x σ) = slB Φ mu hi ρ x (ev Φ lo ρ σ) := (rfl)
theorem slB_n {mu : Bool} {hi : Ex} {x : D} : slB Φ mu hi ρ x (.ok .non σ) = slC mu x .non (ev Φ hi ρ σ) := (rfl)
theorem slB_i {mu : Bool} {hi : Ex} {x : D} {i : Int} : slB Φ mu hi ρ x (.ok (.int i) σ) = slC mu x (.int i) (ev Φ hi ρ σ) := (rfl)
theorem slC_n {mu : Bool} {x l : D} : slC mu x l (.ok .non σ) = sliceD mu x l .non σ := (rfl)
theorem slC_i {mu : Bool} {x l : D} {i : Int} : slC mu x l (.ok (.int i) σ) = sliceD mu x l (.int i) σ := (rfl)
theorem fv_slice {mu : Bool} {a lo hi : Ex} : ev Φ (.slice mu a lo hi) ρ σ = slA Φ mu lo hi ρ (ev Φ a ρ σ) := ev_slice
def revK (mu : Bool) (r : Res D) : Res D := r.bind fun x σ1 => revD mu x σ1
theorem revK_ok {mu : Bool} {x : D} : revK mu (.ok x σ) = revD mu x σ := (rfl)
theorem fv_rev {mu : Bool} {a : Ex} : ev Φ (.rev mu a) ρ σ = revK mu (ev Φ a ρ σ) := ev_rev
def clC (Φ : CallSem) (f : Nat) (σ : Store) (o : Option (List D)) : Res D := match o with
  | some ds => Φ f ds σ
  | none => .bad
def clB (Φ : CallSem) (f : Nat) (dv : List D) (pm : List Nat) (xs : List D) (r : Res (List D)) : Res D := r.bind fun ys σ2 => clC Φ f σ2 (permD (xs ++ ys ++ dv) pm)
def clA (Φ : CallSem) (f : Nat) (ks : List Ex) (dv : List D) (pm : List Nat) (ρ : Env) (r : Res (List D)) : Res D := r.bind fun xs σ1 => clB Φ f dv pm xs (evs Φ ks ρ σ1)
theorem clA_ok {f : Nat} {ks : List Ex} {dv xs : List D} {pm : List Nat} : clA Φ f ks dv pm ρ (.ok xs σ) = clB Φ f dv pm xs (evs Φ ks ρ σ) := (rfl)
theorem clB_ok {f : Nat} {dv xs ys : List D} {pm : List Nat} : clB Φ f dv pm xs (.ok ys σ) = clC Φ f σ (permD (xs ++ ys ++ dv) pm) := (rfl)
theorem clC_s {f : Nat} {ds : List D} : clC Φ f σ (some ds) = Φ f ds σ := (rfl)
theorem fv_call {f : Nat} {es ks : List Ex} {dv : List D} {pm : List Nat} : ev Φ (.call f es ks dv pm) ρ σ = clA Φ f ks dv pm ρ (evs Φ es ρ σ) := ev_call
def biK (b : Bi) (mu : Bool) (r : Res D) : Res D := r.bind fun x σ1 => biD b mu x σ1
theorem biK_ok {b : Bi} {mu : Bool} {x : D} : biK b mu (.ok x σ) = biD b mu x σ := (rfl)
theorem fv_bi {b : Bi} {mu : Bool} {a : Ex} : ev Φ (.bi b mu a) ρ σ = biK b mu (ev Φ a ρ σ) := ev_bi
def isiK (ts : List Ty) (r : Res D) : Res D := r.bind fun x σ1 => isiD ts x σ1
theorem isiK_ok {ts : List Ty} {x : D} : isiK ts (.ok x σ) = isiD ts x σ := (rfl)
theorem fv_isi {a : Ex} {ts : List Ty} : ev Φ (.isi a ts) ρ σ = isiK ts (ev Φ a ρ σ) := ev_isi
def meC (m : Me) (x : D) (r : Res (List D)) : Res D := r.bind fun ds σ2 => meD m x ds σ2
def meB (Φ : CallSem) (m : Me) (es : List Ex) (ρ : Env) (x : D) (σ : Store) (b : Bool) : Res D := if b then meC m x (evs Φ es ρ σ) else .bad
def meA (Φ : CallSem) (m : Me) (es : List Ex) (ρ : Env) (r : Res D) : Res D := r.bind fun x σ1 => meB Φ m es ρ x σ1 (meOk m (view σ1 x))
theorem meA_ok {m : Me} {es : List Ex} {x : D} : meA Φ m es ρ (.ok x σ) = meB Φ m es ρ x σ (meOk m (view σ x)) := (rfl)
theorem meB_t {m : Me} {es : List Ex} {x : D} : meB Φ m es ρ x σ true = meC m x (evs Φ es ρ σ) := (rfl)
theorem meC_ok {m : Me} {x : D} {ds : List D} : meC m x (.ok ds σ) = meD m x ds σ := (rfl)
theorem fv_me {m : Me} {o : Ex} {es : List Ex} : ev Φ (.me m o es) ρ σ = meA Φ m es ρ (ev Φ o ρ σ) := ev_me
def cmC (mu : Bool) (r : Res (List D)) : Res D := r.bind fun ys σ2 => newL mu ys σ2
def cmB (Φ : CallSem) (mu : Bool) (own : List Nat) (t : Tg) (c elt : Ex) (ρ : Env) (σ : Store) (o : Option (List D)) : Res D := match o with
  | some xs => cmC mu (compL t (ev Φ c) (ev Φ elt) (wipeE ρ own) xs [] σ)
  | none => .bad
def cmA (Φ : CallSem) (mu : Bool) (own : List Nat) (t : Tg) (k : IK) (c elt : Ex) (ρ : Env) (r : Res (List D)) : Res D := r.bind fun ds σ1 => cmB Φ mu own t c elt ρ σ1 (itemsOf σ1 k ds)
theorem cmA_ok {mu : Bool} {own : List Nat} {t : Tg} {k : IK} {c elt : Ex} {ds : List D} : cmA Φ mu own t k c elt ρ (.ok ds σ) = cmB Φ mu own t c elt ρ σ (itemsOf σ k ds) := (rfl)
theorem cmB_s {mu : Bool} {own : List Nat} {t : Tg} {c elt : Ex} {xs : List D} : cmB Φ mu own t c elt ρ σ (some xs) = cmC mu (compL t (ev Φ c) (ev Φ elt) (wipeE ρ own) xs [] σ) := (rfl)
theorem cmC_ok {mu : Bool} {ys : List D} : cmC mu (.ok ys σ) = newL mu ys σ := (rfl)
theorem fv_comp {mu : Bool} {own : List Nat} {t : Tg} {k : IK} {its : List Ex} {c elt : Ex} : ev Φ (.comp mu own t k its c elt) ρ σ = cmA Φ mu own t k c elt ρ (evs Φ its ρ σ) := ev_comp
def esC (xs : List D) (r : Res (List D)) : Res (List D) := r.bind fun ds σ2 => .ok (xs ++ ds) σ2
def esB (Φ : CallSem) (es : List Ex) (ρ : Env) (σ : Store) (o : Option (List D)) : Res (List D) := match o with
  | some xs => esC xs (evs Φ es ρ σ)
  | none => .bad
def esA (Φ : CallSem) (st : Bool) (es : List Ex) (ρ : Env) (r : Res D) : Res (List D) := r.bind fun x σ1 => esB Φ es ρ σ1 (splice st x σ1)
theorem esA_f {es : List Ex} {x : D} : esA Φ false es ρ (.ok x σ) = esB Φ es ρ σ (some [x]) := (rfl)
def spl (d : D) : Option (List D) := match d with
  | .lst xs => some xs
  | .tup xs => some xs
  | _ => none
theorem spl_l {xs : List D} : spl (.lst xs) = some xs := (rfl)
theorem spl_t {xs : List D} : spl (.tup xs) = some xs := (rfl)
theorem esA_t {es : List Ex} {x : D} : esA Φ true es ρ (.ok x σ) = esB Φ es ρ σ (spl (view σ x)) := by
  show esB Φ es ρ σ (splice true x σ) = _
  rw [splice_t]; unfold spl; rfl
theorem esB_s {es : List Ex} {xs : List D} : esB Φ es ρ σ (some xs) = esC xs (evs Φ es ρ σ) := (rfl)
theorem esC_ok {xs ds : List D} : esC xs (.ok ds σ) = .ok (xs ++ ds) σ := (rfl)
theorem fvs_cons {e : Ex} {es : List Ex} : evs Φ (e :: es) ρ σ = esA Φ e.isStar es ρ (ev Φ e ρ σ) := evs_cons'
/-! loops -/
theorem fx_whl {c : Ex} {b : List Stt} : ex Φ (.whl c b) ρ σ = whlN (ev Φ c) (exs Φ b) whFuel ρ σ := ex_whl
/-- permutations of arguments, as they come -/
def prC (x : D) (o : Option (List D)) : Option (List D) := o.map (x :: ·)
theorem prC_s {x : D} {r : List D} : prC x (some r) = some (x :: r) := (rfl)
def prB (ds : List D) (pm : List Nat) (o : Option D) : Option (List D) := o.bind fun x => prC x (permD ds pm)
theorem prB_s {ds : List D} {pm : List Nat} {x : D} : prB ds pm (some x) = prC x (permD ds pm) := (rfl)
theorem pr_nil {ds : List D} : permD ds [] = some [] := (rfl)
theorem pr_cons {ds : List D} {i : Nat} {pm : List Nat} : permD ds (i :: pm) = prB ds pm ds[i]? := by
  rw [perm_cons]; unfold prB; cases ds[i]? <;> first | rfl | (cases h : permD ds pm <;> first | rfl | (simp [prC, h]))
/-! the end of a call -/
theorem fin_rt' {d : D} {σ1 : Store} : fin σ (.rt d σ1) = leave σ d σ1 := (rfl)
theorem fin_nx' {σ1 : Store} : fin σ (.nx ρ σ1) = leave σ .non σ1 := (rfl)
/-- one part of a goal that ends well, then the rest -/
theorem focus {α : Type} {r : Res α} {P : α → Store → Prop} {C : Res α → Prop} (h : r.sat P) (k : ∀ a σ, P a σ → C (.ok a σ)) : C r := by
  obtain ⟨a, σ, e, h⟩ := h.ex
  rw [e]; exact k a σ h
theorem focusO {o : Out} {N : Env → Store → Prop} {C : Out → Prop} (h : o.sat N fun _ _ => False) (k : ∀ ρ σ, N ρ σ → C (.nx ρ σ)) : C o := by
  unfold Out.sat at h
  cases o with
  | nx ρ σ => exact k ρ σ h
  | _ => exact h.elim
/-- in the midst of a def -/
theorem fsat {Φ : CallSem} {σ0 : Store} {ss : List Stt} {o : Out} {Q : D → Store → Prop} (h : o.sat (fun ρ σ => (fin σ0 (exs Φ ss ρ σ)).sat Q) (fun d σ => (leave σ0 d σ).sat Q)) : (fin σ0 (thenS Φ ss o)).sat Q := by
  unfold thenS
  rw [sat_fin, osat_then]
  refine h.mono (fun ρ σ q => ?_) fun d σ q => q
  rw [sat_fin] at q; exact q
end Iv

set_option Elab.async false
set_option linter.all false
/-! what simp may look into; small lemmas -/
namespace Iv
open PySem L2
theorem tb_t {α : Type} {a b c : α} : tb (some true) a b c = a := (rfl)
theorem tb_f {α : Type} {a b c : α} : tb (some false) a b c = b := (rfl)
theorem cb_t {a b : Res D} : cb (.bl true) a b = a := (rfl)
theorem cb_f {a b : Res D} : cb (.bl false) a b = b := (rfl)
theorem ofStr_inj {x y : String} : (Str.ofString x = Str.ofString y) = (x = y) := by
  refine propext ⟨fun h => ?_, fun h => by rw [h]⟩
  rw [Str.ofString_eq_toList, Str.ofString_eq_toList] at h
  injection h with h
  have h := congrArg Array.toList h
  have h : x.toList.map Char.toNat = y.toList.map Char.toNat := h
  have inj : ∀ a b : List Char, a.map Char.toNat = b.map Char.toNat → a = b := by
    intro a
    induction a with
    | nil => intro b h; cases b <;> first | rfl | cases h
    | cons c r ih =>
      intro b h
      cases b with
      | nil => cases h
      | cons e t =>
        rw [List.map_cons, List.map_cons] at h
        injection h with h1 h2
        rw [ih t h2, Char.toNat_inj.mp h1]
  exact String.toList_injective (inj _ _ h)
theorem lim_v : lim = 16777216 := (rfl)
theorem nl_nil {σ : Store} : newL false [] σ = .ok (.lst []) σ := (rfl)
theorem nlm_nil {σ : Store} : newL true [] σ = .ok (.ref σ.length) (σ ++ [.lst []]) := (rfl)
theorem nl_cons1 {a : D} {σ : Store} : newL false [a] σ = .ok (.lst [a]) σ := newL_f (by simp [lim_v])
theorem nt0 {σ : Store} : newT [] σ = .ok (.tup []) σ := (rfl)
theorem nt1 {a : D} {σ : Store} : newT [a] σ = .ok (.tup [a]) σ := newT_ok (by simp [lim_v])
theorem nt2 {a b : D} {σ : Store} : newT [a, b] σ = .ok (.tup [a, b]) σ := newT_ok (by simp [lim_v])
theorem nt3 {a b c : D} {σ : Store} : newT [a, b, c] σ = .ok (.tup [a, b, c]) σ := newT_ok (by simp [lim_v])
theorem nt4 {a b c d : D} {σ : Store} : newT [a, b, c, d] σ = .ok (.tup [a, b, c, d]) σ := newT_ok (by simp [lim_v])
theorem nl2 {a b : D} {σ : Store} : newL false [a, b] σ = .ok (.lst [a, b]) σ := newL_f (by simp [lim_v])
theorem nl3 {a b c : D} {σ : Store} : newL false [a, b, c] σ = .ok (.lst [a, b, c]) σ := newL_f (by simp [lim_v])
theorem nl4 {a b c d : D} {σ : Store} : newL false [a, b, c, d] σ = .ok (.lst [a, b, c, d]) σ := newL_f (by simp [lim_v])
theorem nl5 {a b c d e : D} {σ : Store} : newL false [a, b, c, d, e] σ = .ok (.lst [a, b, c, d, e]) σ := newL_f (by simp [lim_v])
theorem nl6 {a b c d e f : D} {σ : Store} : newL false [a, b, c, d, e, f] σ = .ok (.lst [a, b, c, d, e, f]) σ := newL_f (by simp [lim_v])
theorem nl7 {a b c d e f g : D} {σ : Store} : newL false [a, b, c, d, e, f, g] σ = .ok (.lst [a, b, c, d, e, f, g]) σ := newL_f (by simp [lim_v])
theorem nl8 {a b c d e f g h : D} {σ : Store} : newL false [a, b, c, d, e, f, g, h] σ = .ok (.lst [a, b, c, d, e, f, g, h]) σ := newL_f (by simp [lim_v])
theorem me_pop {n : Nat} {xs : List D} {d : D} {σ : Store} (h : σ[n]? = some (.lst (xs ++ [d]))) : meD .pop (.ref n) [] σ = .ok d (σ.set n (.lst xs)) := by
  unfold meD
  dsimp only
  rw [h]
  simp
theorem me_ext {n : Nat} {xs ys : List D} {σ : Store} (h : σ[n]? = some (.lst xs)) (hl : xs.length + ys.length ≤ lim) : meD .extend (.ref n) [.lst ys] σ = .ok .non (σ.set n (.lst (xs ++ ys))) := by
  unfold meD
  dsimp only
  rw [h]
  exact if_pos hl
theorem me_app {n : Nat} {xs : List D} {d : D} {σ : Store} (h : σ[n]? = some (.lst xs)) (hl : xs.length < lim) : meD .append (.ref n) [d] σ = .ok .non (σ.set n (.lst (xs ++ [d]))) := by
  unfold meD
  dsimp only
  rw [h]
  exact if_pos hl
theorem put_dic {n : Nat} {ks : List Key} {vs : List D} {x : Str} {d : D} {σ : Store} (h : σ[n]? = some (.dic ks vs)) (hl : ks.length < lim) : Iv.putAt (.ref n) (.str x) d σ = some (σ.set n (.dic ((putD (ks.zip vs) (.inr x) d).map (·.1)) ((putD (ks.zip vs) (.inr x) d).map (·.2)))) := by
  unfold Iv.putAt
  dsimp only
  rw [h]
  exact if_pos hl
theorem atI_nat {xs : List D} {r : Nat} (h : r < xs.length) : atI xs (r : Int) = some xs[r] := by
  unfold atI ixN
  simp [h]
theorem map_isEmpty {α β : Type} {f : α → β} {xs : List α} : (xs.map f).isEmpty = xs.isEmpty := by cases xs <;> rfl
theorem it_rngN {n : Nat} {σ : Store} (h : n < 2 ^ 62) : itemsOf σ .rng [.int (n : Int)] = some ((List.range n).map fun (i : Nat) => D.int (i : Int)) := by
  rw [it_rng ⟨by omega, by omega⟩]
  rfl
example : ¬ (("abc" : Str) = "abd") := by simp only [ofStr_inj, String.reduceEq, not_false_eq_true]
theorem inrI {x y : Str} : ((Sum.inr x : Key) = .inr y) = (x = y) := propext ⟨fun h => by injection h, fun h => by rw [h]⟩
theorem inlI {x y : Int} : ((Sum.inl x : Key) = .inl y) = (x = y) := propext ⟨fun h => by injection h, fun h => by rw [h]⟩
theorem inlr {x : Int} {y : Str} : ((Sum.inl x : Key) = .inr y) = False := by simp
theorem inrl {x : Int} {y : Str} : ((Sum.inr y : Key) = .inl x) = False := by simp
theorem putD_nil {k : Key} {v : D} : putD [] k v = [(k, v)] := by unfold putD; simp
theorem putD_cons {k k' : Key} {v v' : D} {r : List (Key × D)} : putD ((k, v) :: r) k' v' = if k = k' then (k, v') :: r.map (fun kv => if kv.1 = k' then (kv.1, v') else kv) else (k, v) :: putD r k' v' := by
  unfold putD
  by_cases h : k = k'
  · simp [h]
  · simp only [List.any_cons, decide_eq_false h, Bool.false_or, List.map_cons, if_neg h, List.cons_append]
    split <;> rfl
theorem look_cons {k k' : Key} {v : D} {ks : List Key} {vs : List D} : look (k :: ks) (v :: vs) k' = if k = k' then some v else look ks vs k' := by
  unfold look
  rw [List.zip_cons_cons, List.find?_cons]
  by_cases h : k = k' <;> simp [h]
theorem look_nil {k : Key} {vs : List D} : look [] vs k = none := (rfl)
theorem mergeD_cons {kvs r : List (Key × D)} {k : Key} {v : D} : mergeD kvs ((k, v) :: r) = mergeD (putD kvs k v) r := (rfl)
theorem mergeD_nil {kvs : List (Key × D)} : mergeD kvs [] = kvs := (rfl)
theorem pairUp_nil : pairUp [] = some [] := (rfl)
def puB (k : Key) (v : D) (o : Option (List (Key × D))) : Option (List (Key × D)) := o.map ((k, v) :: ·)
theorem puB_s {k : Key} {v : D} {r : List (Key × D)} : puB k v (some r) = some ((k, v) :: r) := (rfl)
theorem pairUp_s {x : Str} {v : D} {r : List D} : pairUp (.str x :: v :: r) = puB (.inr x) v (pairUp r) := (rfl)
theorem pairUp_i {x : Int} {v : D} {r : List D} : pairUp (.int x :: v :: r) = puB (.inl x) v (pairUp r) := (rfl)
theorem newD_f {ks : List Key} {vs : List D} {σ : Store} : newD false ks vs σ = .ok (.dic ks vs) σ := (rfl)
theorem newD_t {ks : List Key} {vs : List D} {σ : Store} : newD true ks vs σ = .ok (.ref σ.length) (σ ++ [.dic ks vs]) := (rfl)
/-- a display of texts and ints as keys -/
theorem dicB_s {mu : Bool} {kvs : List (Key × D)} {σ : Store} (h : decide (kvs.length ≤ 15) = true) : dicB mu σ (some kvs) = newD mu ((mergeD [] kvs).map (·.1)) ((mergeD [] kvs).map (·.2)) σ := dicB_some (of_decide_eq_true h)
/-! cells: what stands at a place is looked up first -/
section
variable {σ : Store} {n : Nat}
def viewC (n : Nat) (o : Option Cell) : D := match o with
  | some (.lst xs) => .lst xs
  | some (.dic ks vs) => .dic ks vs
  | _ => .ref n
theorem vw_ref : view σ (.ref n) = viewC n σ[n]? := by unfold view viewC; rfl
theorem viewC_l {xs : List D} : viewC n (some (.lst xs)) = .lst xs := (rfl)
theorem viewC_d {ks : List Key} {vs : List D} : viewC n (some (.dic ks vs)) = .dic ks vs := (rfl)
theorem vw_vw {τ : Store} {d : D} : view σ (view σ d) = view σ d := by
  cases d with
  | ref n =>
    rw [vw_ref]
    unfold viewC
    cases h : σ[n]? with
    | none => show view σ (.ref n) = .ref n; rw [vw_ref, h]; rfl
    | some c =>
      cases c with
      | lst xs => rfl
      | dic ks vs => rfl
      | dead => show view σ (.ref n) = .ref n; rw [vw_ref, h]; rfl
  | _ => rfl
theorem rf_idx {i : D} : idxD (.ref n) i σ = idxD (viewC n σ[n]?) i σ := by
  rw [← vw_ref]; unfold idxD; rw [vw_vw (τ := σ)]
theorem rf_bi {b : Bi} {mu : Bool} : biD b mu (.ref n) σ = biD b mu (viewC n σ[n]?) σ := by
  rw [← vw_ref]; unfold biD; rw [vw_vw (τ := σ)]
theorem rf_slice {mu : Bool} {l h : D} : sliceD mu (.ref n) l h σ = sliceD mu (viewC n σ[n]?) l h σ := by
  rw [← vw_ref]; unfold sliceD; rw [vw_vw (τ := σ)]
theorem rf_rev {mu : Bool} : revD mu (.ref n) σ = revD mu (viewC n σ[n]?) σ := by
  rw [← vw_ref]; unfold revD; rw [vw_vw (τ := σ)]
theorem rf_cmp1 {op : COp} {y : D} : cmpD op (.ref n) y σ = cmpD op (viewC n σ[n]?) y σ := by
  rw [← vw_ref]; unfold cmpD; rw [vw_vw (τ := σ)]
theorem rf_cmp2 {op : COp} {y : D} : cmpD op y (.ref n) σ = cmpD op y (viewC n σ[n]?) σ := by
  rw [← vw_ref]; unfold cmpD; rw [vw_vw (τ := σ)]
theorem rf_bin1 {op : BOp} {y : D} : binD op (.ref n) y σ = binD op (viewC n σ[n]?) y σ := by
  rw [← vw_ref]; unfold binD; rw [vw_vw (τ := σ)]
theorem rf_bin2 {op : BOp} {y : D} : binD op y (.ref n) σ = binD op y (viewC n σ[n]?) σ := by
  rw [← vw_ref]; unfold binD; rw [vw_vw (τ := σ)]
def appC (n : Nat) (d : D) (σ : Store) (o : Option Cell) : Res D := match o with
  | some (.lst xs) => if xs.length < lim then .ok .non (σ.set n (.lst (xs ++ [d]))) else .bad
  | _ => .bad
theorem rf_app {d : D} : meD .append (.ref n) [d] σ = appC n d σ σ[n]? := by unfold meD appC; rfl
theorem appC_l {d : D} {xs : List D} (h : xs.length < lim) : appC n d σ (some (.lst xs)) = .ok .non (σ.set n (.lst (xs ++ [d]))) := if_pos h
def extC (n : Nat) (d : D) (σ : Store) (o : Option Cell) : Res D := match o, d with
  | some (.lst xs), .lst ys => if xs.length + ys.length ≤ lim then .ok .non (σ.set n (.lst (xs ++ ys))) else .bad
  | _, _ => .bad
theorem rf_ext {d : D} : meD .extend (.ref n) [d] σ = extC n (view σ d) σ σ[n]? := by unfold meD extC; rfl
theorem extC_l {xs ys : List D} (h : xs.length + ys.length ≤ lim) : extC n (.lst ys) σ (some (.lst xs)) = .ok .non (σ.set n (.lst (xs ++ ys))) := if_pos h
def popC (n : Nat) (σ : Store) (o : Option Cell) : Res D := match o with
  | some (.lst xs) => match xs[xs.length - 1]? with
    | some d => .ok d (σ.set n (.lst xs.dropLast))
    | none => .bad
  | _ => .bad
theorem rf_pop : meD .pop (.ref n) [] σ = popC n σ σ[n]? := by unfold meD popC; rfl
theorem popC_l {xs : List D} {d : D} : popC n σ (some (.lst (xs ++ [d]))) = .ok d (σ.set n (.lst xs)) := by unfold popC; simp
def putC' (n : Nat) (k v : D) (σ : Store) (o : Option Cell) : Option Store := match o with
  | some (.lst xs) => match k with
    | .int i => match ixN xs.length i with
      | some j => some (σ.set n (.lst (xs.set j v)))
      | none => none
    | _ => none
  | some (.dic ks vs) => match dKey k with
    | some k => if ks.length < lim then some (σ.set n (.dic ((putD (ks.zip vs) k v).map (·.1)) ((putD (ks.zip vs) k v).map (·.2)))) else none
    | none => none
  | _ => none
theorem rf_put {k v : D} : Iv.putAt (.ref n) k v σ = putC' n k v σ σ[n]? := by unfold Iv.putAt putC'; rfl
theorem putC_s {ks : List Key} {vs : List D} {x : Str} {v : D} (h : ks.length < lim) : putC' n (.str x) v σ (some (.dic ks vs)) = some (σ.set n (.dic ((putD (ks.zip vs) (.inr x) v).map (·.1)) ((putD (ks.zip vs) (.inr x) v).map (·.2)))) := if_pos h
theorem putC_i {ks : List Key} {vs : List D} {x : Int} {v : D} (h : ks.length < lim) : putC' n (.int x) v σ (some (.dic ks vs)) = some (σ.set n (.dic ((putD (ks.zip vs) (.inl x) v).map (·.1)) ((putD (ks.zip vs) (.inl x) v).map (·.2)))) := if_pos h
theorem rf_mok {m : Me} : meOk m (view σ (.ref n)) = meOk m (viewC n σ[n]?) := by rw [vw_ref]
end
end Iv

set_option Elab.async false
set_option linter.all false
set_option maxHeartbeats 4000000
set_option maxRecDepth 20000
/-! the deck of drawn numbers (laws k01 to k12, k58 to k61): any pr, any place -/
namespace Iv
open PySem L2
def kD : List Key := [.inr "cells", .inr "mixed", .inr "draws"]
structure Dk where
  cs : List Int
  mx : Int
  dr : Nat
def Dk.ok (δ : Dk) (n : Nat) : Prop := δ.cs.length ≤ 63 ∧ δ.dr ≤ n
/-- the deck: its cells, what was mixed, its draws -/
def S (δ : Dk) : Store := [.lst (δ.cs.map D.int), .dic kD [.ref 0, .int δ.mx, .int δ.dr]]
theorem Dk.ok.le {δ : Dk} {n m : Nat} (h : δ.ok n) (l : n ≤ m) : δ.ok m := ⟨h.1, Nat.le_trans h.2 l⟩
theorem kne1 : ¬ (Sum.inr "cells" : Key) = .inr "draws" := by decide +kernel
theorem kne2 : ¬ (Sum.inr "mixed" : Key) = .inr "draws" := by decide +kernel
theorem kne3 : ¬ (Sum.inr "cells" : Key) = .inr "mixed" := by decide +kernel
theorem look_d {a b c : D} : look kD [a, b, c] (.inr "draws") = some c := by
  unfold look kD
  simp only [List.zip_cons_cons, List.find?_cons, decide_eq_false kne1, decide_eq_false kne2, decide_true, Option.map_some]
theorem look_m {a b c : D} : look kD [a, b, c] (.inr "mixed") = some b := by
  unfold look kD
  simp only [List.zip_cons_cons, List.find?_cons, decide_eq_false kne3, decide_true, Option.map_some]
theorem look_c {a b c : D} : look kD [a, b, c] (.inr "cells") = some a := by
  unfold look kD
  simp only [List.zip_cons_cons, List.find?_cons, decide_true, Option.map_some]
section
variable {cs : List Int} {mx : Int} {dr : Nat} {X : Store}
theorem dv1 : view (S ⟨cs, mx, dr⟩ ++ X) (.ref 1) = .dic kD [.ref 0, .int mx, .int dr] := rfl
theorem dv0 : view (S ⟨cs, mx, dr⟩ ++ X) (.ref 0) = .lst (cs.map D.int) := rfl
theorem di_d : idxD (.ref 1) (.str "draws") (S ⟨cs, mx, dr⟩ ++ X) = .ok (.int dr) (S ⟨cs, mx, dr⟩ ++ X) := by
  unfold idxD; rw [dv1]; simp only [dKey, look_d]
theorem di_m : idxD (.ref 1) (.str "mixed") (S ⟨cs, mx, dr⟩ ++ X) = .ok (.int mx) (S ⟨cs, mx, dr⟩ ++ X) := by
  unfold idxD; rw [dv1]; simp only [dKey, look_m]
theorem di_c : idxD (.ref 1) (.str "cells") (S ⟨cs, mx, dr⟩ ++ X) = .ok (.ref 0) (S ⟨cs, mx, dr⟩ ++ X) := by
  unfold idxD; rw [dv1]; simp only [dKey, look_c]
theorem dp_d {n : Nat} : Iv.putAt (.ref 1) (.str "draws") (.int n) (S ⟨cs, mx, dr⟩ ++ X) = some (S ⟨cs, mx, n⟩ ++ X) := by
  rw [put_dic (ks := kD) (vs := [.ref 0, .int mx, .int dr]) rfl (by decide)]
  have e : putD (kD.zip [.ref 0, .int mx, .int dr]) (.inr "draws") (.int n) = kD.zip [.ref 0, .int mx, .int n] := by
    unfold putD kD
    simp only [List.zip_cons_cons, List.zip_nil_left, List.any_cons, List.any_nil, decide_eq_false kne1, decide_eq_false kne2, decide_true, Bool.or_true, Bool.true_or, if_true, List.map_cons, List.map_nil, if_neg kne1, if_neg kne2]
  rw [e]
  rfl
theorem dpop {c : Int} : meD .pop (.ref 0) [] (S ⟨cs ++ [c], mx, dr⟩ ++ X) = .ok (.int c) (S ⟨cs, mx, dr⟩ ++ X) := by
  rw [me_pop (xs := cs.map D.int) (d := .int c) (by unfold S; simp)]
  rfl
theorem dapp {c : Int} (h : cs.length < lim) : meD .append (.ref 0) [.int c] (S ⟨cs, mx, dr⟩ ++ X) = .ok .non (S ⟨cs ++ [c], mx, dr⟩ ++ X) := by
  rw [me_app (xs := cs.map D.int) rfl (by rw [List.length_map]; exact h)]
  unfold S
  simp
theorem dne : cmpD .ne (.ref 0) (.lst []) (S ⟨cs, mx, dr⟩ ++ X) = .ok (.bl (!cs.isEmpty)) (S ⟨cs, mx, dr⟩ ++ X) := by
  have h := c_nenil (b := false) (x := .ref 0) (σ := S ⟨cs, mx, dr⟩ ++ X) dv0 (sims_map fun z _ => by unfold D.sim; rfl) (Nat.le_trans (dps_map (n := 0) fun z _ => by unfold D.dp; exact Nat.le_refl _) (by decide))
  rw [map_isEmpty] at h
  exact h
end
theorem mulok2 {i j : Int} (h : -(2 ^ 64) < j ∧ j < 2 ^ 64) : mulOk i j = true := by unfold mulOk; exact decide_eq_true (.inr h)
theorem fmB {a b : Int} (h : 0 < b) : 0 ≤ a.fmod b ∧ a.fmod b < b := ⟨Int.fmod_nonneg_of_pos a h, Int.fmod_lt_of_pos a h⟩
theorem bm_lit {j : Int} {σ : Store} (h : -(2 ^ 64) < j ∧ j < 2 ^ 64) (x : Int) : binD .mul (.int x) (.int j) σ = .ok (.int (x * j)) σ := b_mul (mulok2 h)
section
variable {τ : Store}
theorem t2 : ∀ (x : Int), binD .mul (.int x) (.int 40692) τ = .ok (.int (x * 40692)) τ := bm_lit (by decide)
theorem t3 : ∀ (x : Int), binD .mul (.int x) (.int 39373) τ = .ok (.int (x * 39373)) τ := bm_lit (by decide)
theorem t4 : ∀ (x : Int), binD .mul (.int (x.fmod 2147483647)) (.int (x.fmod 2147483647)) τ = .ok (.int (x.fmod 2147483647 * x.fmod 2147483647)) τ := fun x => b_mul (mulok2 (by have := fmB (a := x) (b := 2147483647) (by decide); omega))
theorem t5 : ∀ (x : Int), binD .mod (.int x) (.int 2147483629) τ = .ok (.int (x.fmod 2147483629)) τ := fun x => b_mod (by decide)
theorem t6 : ∀ (x : Int), binD .mod (.int x) (.int 2147483647) τ = .ok (.int (x.fmod 2147483647)) τ := fun x => b_mod (by decide)
theorem t7 : ∀ (x : Int), binD .mod (.int x) (.int 2147483579) τ = .ok (.int (x.fmod 2147483579)) τ := fun x => b_mod (by decide)
theorem t8 : ∀ (x : Int), binD .mod (.int x) (.int 2147483563) τ = .ok (.int (x.fmod 2147483563)) τ := fun x => b_mod (by decide)
theorem t9 : ∀ (x : Int), binD .fdiv (.int x) (.int 64) τ = .ok (.int (x.fdiv 64)) τ := fun x => b_fdiv (by decide)
theorem t10 : ∀ (x : Int), binD .mul (.int x) (.int 48271) τ = .ok (.int (x * 48271)) τ := bm_lit (by decide)
theorem t11 : ∀ (x : Int), binD .mod (.int x) (.int 2147483587) τ = .ok (.int (x.fmod 2147483587)) τ := fun x => b_mod (by decide)
theorem pow18 : binD .pow (.int 10) (.int 18) τ = .ok (.int 1000000000000000000) τ := by
  rw [b_pow (by decide)]
  rfl
end
def mkDrawA (a b c : Int) : Fd := ⟨2, 5, [.put (.loc 0) (.str "draws") (.bin .add (.idx (.loc 0) (.str "draws")) (.int 1)), .par 3 4 (.idx (.loc 0) (.str "draws")) (.idx (.loc 0) (.str "mixed")), .ite (.cmp .ne (.idx (.loc 0) (.str "cells")) (.lst false [])) [.asg (.nm 4) (.me .pop (.idx (.loc 0) (.str "cells")) []), .ite (.cmp .ge (.loc 4) (.bin .pow (.int 10) (.int 18))) [.exp (.me .append (.idx (.loc 0) (.str "cells")) [.bin .fdiv (.loc 4) (.loc 1)]), .ret (.bin .mod (.bi .int false (.loc 4)) (.loc 1))] [], .asg (.nm 4) (.bin .add (.bi .int false (.loc 4)) (.idx (.loc 0) (.str "mixed")))] [], .asg (.nm 2) (.bin .mod (.bin .mul (.bi .int false (.bin .add (.bin .add (.bin .mod (.bi .int false (.loc 4)) (.int 2147483629)) (.bin .mul (.bin .mul (.int a) (.loc 3)) (.loc 3))) (.int b))) (.int 40692)) (.int 2147483647)), .asg (.nm 2) (.bin .mod (.bi .int false (.bin .add (.bin .add (.bin .mul (.loc 2) (.loc 2)) (.bin .mul (.int 69621) (.loc 3))) (.int c))) (.int 2147483579)), .ret (.bin .mod (.bin .fdiv (.bin .mod (.bi .int false (.bin .mul (.loc 2) (.int 39373))) (.int 2147483563)) (.int 64)) (.loc 1))]⟩
/-- what a drawing call gives: P of its value, the deck some draws further; nothing else has changed -/
def Drawn (δ : Dk) (X : Store) (m : Nat) (P : D → Prop) (r : Res D) : Prop := r.sat fun d σ => P d ∧ ∃ δ' : Dk, δ'.ok m ∧ σ = S δ' ++ X
theorem ed (dr : Nat) : (dr : Int) + 1 = ((dr + 1 : Nat) : Int) := by omega
section
variable {pr : List Fd} {i : Nat} {a b c : Int}
theorem draw_tail {m : Nat} (hm : 0 < m) {T : Int} (hT : 0 < T ∧ T ≤ 1000000000) {cell : Int} {z : Option D} {Φ : CallSem} {τ : Store} :
    ∃ r : Nat, r < m ∧ exs Φ ((mkDrawA a b c).body.drop 3) [some (.ref 1), some (.int m), z, some (.int T), some (.int cell)] τ = .rt (.int r) τ := by
  have hbp : (0 : Int) < m := by omega
  have hbn : (m : Int) ≠ 0 := by omega
  have key : ∀ x : Int, ∃ r : Nat, r < m ∧ x.fmod m = (r : Int) := by
    intro x
    obtain ⟨h1, h2⟩ := fmB (a := x) hbp
    exact ⟨(x.fmod m).toNat, by omega, by omega⟩
  have a1 : ∀ (x : Int), binD .mul (.int x) (.int T) τ = .ok (.int (x * T)) τ := bm_lit ⟨by omega, by omega⟩
  have a10 : ∀ (x : Int), binD .mod (.int x) (.int m) τ = .ok (.int (x.fmod m)) τ := fun x => b_mod hbn
  have e : ∃ x : Int, exs Φ ((mkDrawA a b c).body.drop 3) [some (.ref 1), some (.int m), z, some (.int T), some (.int cell)] τ = .rt (.int (x.fmod m)) τ := by
    constructor
    unfold mkDrawA
    dsimp only [List.drop]
    simp only [fx_nil, fx_one, fx_cons, fx_asg, fx_par, fx_put, fx_exp, fx_ret, fx_ite, fx_for, fx_pass, fx_frz, fv_loc, fv_bin, fv_cmp, fv_chain, fv_and, fv_or, fv_not, fv_ite, fv_tup, fv_lst, fv_dic, fv_star, fv_idx, fv_slice, fv_rev, fv_call, fv_bi, fv_isi, fv_me, fv_comp, fvs_cons, ev_nop, ev_non, ev_bl, ev_int, ev_str, ev_glo, ev_neg_int, evs_nil, thenS_nx, thenS_rt, thenS_exc, asgK_ok, asgK_exc, asgT_some, parA_ok, parB_ok, putA_ok, putB_ok, putC_ok, putR_some, expK_ok, expK_exc, retK_ok, retK_exc, iteK_ok, iteB_t, iteB_f, forA_ok, forB_some, frzA_ref, frzB_l, frzB_d, getK_s, binA_ok, binB_ok, cmpA_ok, cmpB_ok, chA_ok, chB_ok, chC_t, chC_f, andK_ok, andB_t, andB_f, orK_ok, orB_t, orB_f, notK_ok, notB_s, iteE_ok, iteEB_t, iteEB_f, tupK_ok, lstK_ok, dicK_ok, idxA_ok, idxB_ok, slA_ok, slB_n, slB_i, slC_n, slC_i, revK_ok, clA_ok, clB_ok, clC_s, biK_ok, isiK_ok, meA_ok, meB_t, meC_ok, cmA_ok, cmB_s, cmC_ok, esA_f, esA_t, spl_l, spl_t, esB_s, esC_ok, prC_s, prB_s, pr_nil, pr_cons, fin_rt', fin_nx', it_lst, it_ro, it_tup, it_str, tg_nm, tg_tup, sa_nil, sa_cons, ns_0, ns_1, ns_2, ns_3, ns_4, ns_5, ns_6, ns_7, ns_8, ns_9, ns_10, ns_11, ns_12, ns_13, ns_14, ns_15, ns_16, ns_17, ns_18, ns_19, ns_20, ns_21, ns_22, ns_23, ns_24, ns_25, ns_star, sat_ok, osat_nx, osat_rt, List.getElem?_cons_zero, List.getElem?_cons_succ, List.set, List.cons_append, List.nil_append, List.append_nil, wipe_nil, wipe_cons, view_non, view_bl, view_int, view_str, view_tup', view_lst, view_ro, view_dic, view_set, tr_non, tr_bl, tr_int, tr_tup, tr_lst, nl_nil, nl_cons1, nl2, nl3, nl4, nl5, nl6, nl7, nl8, nt0, nt1, nt2, nt3, nt4, mo_join, mo_app, mo_pop, mo_ext, mo_get, bi_lenl, bi_lent, bi_listl, bi_listt, bi_listd, bi_tupl, bi_int, b_add, b_sub, b_addl, b_addt, c_eqi, c_eqs, c_nei, c_nes, c_lti, c_lei, c_gti, c_gei, c_les, i_tup, i_lst, isi_str, isi_tup, isi_int, isi_lst, opt_non, opt_int, List.map_cons, List.map_nil, List.length_cons, List.length_nil, Nat.sub_self, List.replicate_zero, Nat.reduceAdd, Nat.reduceSub, List.reduceReplicate, Option.some.injEq, t2, t3, t4, t5, t6, t7, t8, t9, a1, a10]
    rfl
  obtain ⟨x, e⟩ := e
  obtain ⟨r, h1, h2⟩ := key x
  exact ⟨r, h1, by rw [← h2]; exact e⟩
theorem newLn {τ : Store} : newL false [] τ = .ok (.lst []) τ := rfl
theorem draw_0 {m : Nat} {mx : Int} {dr : Nat} {X : Store} {Φ : CallSem} : exs Φ ((mkDrawA a b c).body.take 3) [some (.ref 1), some (.int m), none, none, none] (S ⟨[], mx, dr⟩ ++ X) = .nx [some (.ref 1), some (.int m), none, some (.int ((dr + 1 : Nat) : Int)), some (.int mx)] (S ⟨[], mx, dr + 1⟩ ++ X) := by
  unfold mkDrawA
  dsimp only [List.take]
  simp only [fx_nil, fx_one, fx_cons, fx_asg, fx_par, fx_put, fx_exp, fx_ret, fx_ite, fx_for, fx_pass, fx_frz, fv_loc, fv_bin, fv_cmp, fv_chain, fv_and, fv_or, fv_not, fv_ite, fv_tup, fv_lst, fv_dic, fv_star, fv_idx, fv_slice, fv_rev, fv_call, fv_bi, fv_isi, fv_me, fv_comp, fvs_cons, ev_nop, ev_non, ev_bl, ev_int, ev_str, ev_glo, ev_neg_int, evs_nil, thenS_nx, thenS_rt, thenS_exc, asgK_ok, asgK_exc, asgT_some, parA_ok, parB_ok, putA_ok, putB_ok, putC_ok, putR_some, expK_ok, expK_exc, retK_ok, retK_exc, iteK_ok, iteB_t, iteB_f, forA_ok, forB_some, frzA_ref, frzB_l, frzB_d, getK_s, binA_ok, binB_ok, cmpA_ok, cmpB_ok, chA_ok, chB_ok, chC_t, chC_f, andK_ok, andB_t, andB_f, orK_ok, orB_t, orB_f, notK_ok, notB_s, iteE_ok, iteEB_t, iteEB_f, tupK_ok, lstK_ok, dicK_ok, idxA_ok, idxB_ok, slA_ok, slB_n, slB_i, slC_n, slC_i, revK_ok, clA_ok, clB_ok, clC_s, biK_ok, isiK_ok, meA_ok, meB_t, meC_ok, cmA_ok, cmB_s, cmC_ok, esA_f, esA_t, spl_l, spl_t, esB_s, esC_ok, prC_s, prB_s, pr_nil, pr_cons, fin_rt', fin_nx', it_lst, it_ro, it_tup, it_str, tg_nm, tg_tup, sa_nil, sa_cons, ns_0, ns_1, ns_2, ns_3, ns_4, ns_5, ns_6, ns_7, ns_8, ns_9, ns_10, ns_11, ns_12, ns_13, ns_14, ns_15, ns_16, ns_17, ns_18, ns_19, ns_20, ns_21, ns_22, ns_23, ns_24, ns_25, ns_star, sat_ok, osat_nx, osat_rt, List.getElem?_cons_zero, List.getElem?_cons_succ, List.set, List.cons_append, List.nil_append, List.append_nil, wipe_nil, wipe_cons, view_non, view_bl, view_int, view_str, view_tup', view_lst, view_ro, view_dic, view_set, tr_non, tr_bl, tr_int, tr_tup, tr_lst, nl_nil, nl_cons1, nl2, nl3, nl4, nl5, nl6, nl7, nl8, nt0, nt1, nt2, nt3, nt4, mo_join, mo_app, mo_pop, mo_ext, mo_get, bi_lenl, bi_lent, bi_listl, bi_listt, bi_listd, bi_tupl, bi_int, b_add, b_sub, b_addl, b_addt, c_eqi, c_eqs, c_nei, c_nes, c_lti, c_lei, c_gti, c_gei, c_les, i_tup, i_lst, isi_str, isi_tup, isi_int, isi_lst, opt_non, opt_int, List.map_cons, List.map_nil, List.length_cons, List.length_nil, Nat.sub_self, List.replicate_zero, Nat.reduceAdd, Nat.reduceSub, List.reduceReplicate, Option.some.injEq, di_d, di_m, di_c, ed, dp_d, dne, List.isEmpty_nil, Bool.not_true]
theorem ne_cc (cs : List Int) (c : Int) : (!(cs ++ [c]).isEmpty) = true := by simp
theorem draw_1 {m : Nat} (hbn : (m : Int) ≠ 0) (hb2 : m < 1073741824) {cs : List Int} {x : Int} (hc : cs.length < 100) (h : 1000000000000000000 ≤ x) {mx : Int} {dr : Nat} {X : Store} {Φ : CallSem} : exs Φ ((mkDrawA a b c).body.take 3) [some (.ref 1), some (.int m), none, none, none] (S ⟨cs ++ [x], mx, dr⟩ ++ X) = .rt (.int (x.fmod m)) (S ⟨cs ++ [x.fdiv m], mx, dr + 1⟩ ++ X) := by
  have a10 : ∀ (x : Int) (τ : Store), binD .mod (.int x) (.int m) τ = .ok (.int (x.fmod m)) τ := fun x τ => b_mod hbn
  have a11 : ∀ (x : Int) (τ : Store), binD .fdiv (.int x) (.int m) τ = .ok (.int (x.fdiv m)) τ := fun x τ => b_fdiv ⟨hbn, by omega⟩
  have ha : ∀ (dr : Nat), meD .append (.ref 0) [.int (x.fdiv m)] (S ⟨cs, mx, dr⟩ ++ X) = .ok .non (S ⟨cs ++ [x.fdiv m], mx, dr⟩ ++ X) := fun dr => dapp (by rw [lim_v]; omega)
  unfold mkDrawA
  dsimp only [List.take]
  simp only [fx_nil, fx_one, fx_cons, fx_asg, fx_par, fx_put, fx_exp, fx_ret, fx_ite, fx_for, fx_pass, fx_frz, fv_loc, fv_bin, fv_cmp, fv_chain, fv_and, fv_or, fv_not, fv_ite, fv_tup, fv_lst, fv_dic, fv_star, fv_idx, fv_slice, fv_rev, fv_call, fv_bi, fv_isi, fv_me, fv_comp, fvs_cons, ev_nop, ev_non, ev_bl, ev_int, ev_str, ev_glo, ev_neg_int, evs_nil, thenS_nx, thenS_rt, thenS_exc, asgK_ok, asgK_exc, asgT_some, parA_ok, parB_ok, putA_ok, putB_ok, putC_ok, putR_some, expK_ok, expK_exc, retK_ok, retK_exc, iteK_ok, iteB_t, iteB_f, forA_ok, forB_some, frzA_ref, frzB_l, frzB_d, getK_s, binA_ok, binB_ok, cmpA_ok, cmpB_ok, chA_ok, chB_ok, chC_t, chC_f, andK_ok, andB_t, andB_f, orK_ok, orB_t, orB_f, notK_ok, notB_s, iteE_ok, iteEB_t, iteEB_f, tupK_ok, lstK_ok, dicK_ok, idxA_ok, idxB_ok, slA_ok, slB_n, slB_i, slC_n, slC_i, revK_ok, clA_ok, clB_ok, clC_s, biK_ok, isiK_ok, meA_ok, meB_t, meC_ok, cmA_ok, cmB_s, cmC_ok, esA_f, esA_t, spl_l, spl_t, esB_s, esC_ok, prC_s, prB_s, pr_nil, pr_cons, fin_rt', fin_nx', it_lst, it_ro, it_tup, it_str, tg_nm, tg_tup, sa_nil, sa_cons, ns_0, ns_1, ns_2, ns_3, ns_4, ns_5, ns_6, ns_7, ns_8, ns_9, ns_10, ns_11, ns_12, ns_13, ns_14, ns_15, ns_16, ns_17, ns_18, ns_19, ns_20, ns_21, ns_22, ns_23, ns_24, ns_25, ns_star, sat_ok, osat_nx, osat_rt, List.getElem?_cons_zero, List.getElem?_cons_succ, List.set, List.cons_append, List.nil_append, List.append_nil, wipe_nil, wipe_cons, view_non, view_bl, view_int, view_str, view_tup', view_lst, view_ro, view_dic, view_set, tr_non, tr_bl, tr_int, tr_tup, tr_lst, nl_nil, nl_cons1, nl2, nl3, nl4, nl5, nl6, nl7, nl8, nt0, nt1, nt2, nt3, nt4, mo_join, mo_app, mo_pop, mo_ext, mo_get, bi_lenl, bi_lent, bi_listl, bi_listt, bi_listd, bi_tupl, bi_int, b_add, b_sub, b_addl, b_addt, c_eqi, c_eqs, c_nei, c_nes, c_lti, c_lei, c_gti, c_gei, c_les, i_tup, i_lst, isi_str, isi_tup, isi_int, isi_lst, opt_non, opt_int, List.map_cons, List.map_nil, List.length_cons, List.length_nil, Nat.sub_self, List.replicate_zero, Nat.reduceAdd, Nat.reduceSub, List.reduceReplicate, Option.some.injEq, di_d, di_m, di_c, ed, dp_d, dne, ne_cc, dv0, dpop, pow18, decide_eq_true h, a10, a11, ha]
theorem draw_2 {m : Nat} {cs : List Int} {x : Int} (h : ¬ 1000000000000000000 ≤ x) {mx : Int} {dr : Nat} {X : Store} {Φ : CallSem} : exs Φ ((mkDrawA a b c).body.take 3) [some (.ref 1), some (.int m), none, none, none] (S ⟨cs ++ [x], mx, dr⟩ ++ X) = .nx [some (.ref 1), some (.int m), none, some (.int ((dr + 1 : Nat) : Int)), some (.int (x + mx))] (S ⟨cs, mx, dr + 1⟩ ++ X) := by
  unfold mkDrawA
  dsimp only [List.take]
  simp only [fx_nil, fx_one, fx_cons, fx_asg, fx_par, fx_put, fx_exp, fx_ret, fx_ite, fx_for, fx_pass, fx_frz, fv_loc, fv_bin, fv_cmp, fv_chain, fv_and, fv_or, fv_not, fv_ite, fv_tup, fv_lst, fv_dic, fv_star, fv_idx, fv_slice, fv_rev, fv_call, fv_bi, fv_isi, fv_me, fv_comp, fvs_cons, ev_nop, ev_non, ev_bl, ev_int, ev_str, ev_glo, ev_neg_int, evs_nil, thenS_nx, thenS_rt, thenS_exc, asgK_ok, asgK_exc, asgT_some, parA_ok, parB_ok, putA_ok, putB_ok, putC_ok, putR_some, expK_ok, expK_exc, retK_ok, retK_exc, iteK_ok, iteB_t, iteB_f, forA_ok, forB_some, frzA_ref, frzB_l, frzB_d, getK_s, binA_ok, binB_ok, cmpA_ok, cmpB_ok, chA_ok, chB_ok, chC_t, chC_f, andK_ok, andB_t, andB_f, orK_ok, orB_t, orB_f, notK_ok, notB_s, iteE_ok, iteEB_t, iteEB_f, tupK_ok, lstK_ok, dicK_ok, idxA_ok, idxB_ok, slA_ok, slB_n, slB_i, slC_n, slC_i, revK_ok, clA_ok, clB_ok, clC_s, biK_ok, isiK_ok, meA_ok, meB_t, meC_ok, cmA_ok, cmB_s, cmC_ok, esA_f, esA_t, spl_l, spl_t, esB_s, esC_ok, prC_s, prB_s, pr_nil, pr_cons, fin_rt', fin_nx', it_lst, it_ro, it_tup, it_str, tg_nm, tg_tup, sa_nil, sa_cons, ns_0, ns_1, ns_2, ns_3, ns_4, ns_5, ns_6, ns_7, ns_8, ns_9, ns_10, ns_11, ns_12, ns_13, ns_14, ns_15, ns_16, ns_17, ns_18, ns_19, ns_20, ns_21, ns_22, ns_23, ns_24, ns_25, ns_star, sat_ok, osat_nx, osat_rt, List.getElem?_cons_zero, List.getElem?_cons_succ, List.set, List.cons_append, List.nil_append, List.append_nil, wipe_nil, wipe_cons, view_non, view_bl, view_int, view_str, view_tup', view_lst, view_ro, view_dic, view_set, tr_non, tr_bl, tr_int, tr_tup, tr_lst, nl_nil, nl_cons1, nl2, nl3, nl4, nl5, nl6, nl7, nl8, nt0, nt1, nt2, nt3, nt4, mo_join, mo_app, mo_pop, mo_ext, mo_get, bi_lenl, bi_lent, bi_listl, bi_listt, bi_listd, bi_tupl, bi_int, b_add, b_sub, b_addl, b_addt, c_eqi, c_eqs, c_nei, c_nes, c_lti, c_lei, c_gti, c_gei, c_les, i_tup, i_lst, isi_str, isi_tup, isi_int, isi_lst, opt_non, opt_int, List.map_cons, List.map_nil, List.length_cons, List.length_nil, Nat.sub_self, List.replicate_zero, Nat.reduceAdd, Nat.reduceSub, List.reduceReplicate, Option.some.injEq, di_d, di_m, di_c, ed, dp_d, dne, ne_cc, dv0, dpop, pow18, decide_eq_false h]
theorem exs_app {Φ : CallSem} : ∀ (xs ys : List Stt) (ρ : Iv.Env) (τ : Store), exs Φ (xs ++ ys) ρ τ = (exs Φ xs ρ τ).then fun ρ τ => exs Φ ys ρ τ
  | [], ys, ρ, τ => by simp
  | x :: xs, ys, ρ, τ => by
    rw [List.cons_append, exs_cons, exs_cons]
    have ih := exs_app (Φ := Φ) xs ys
    cases ex Φ x ρ τ <;> first | rfl | simp [ih]
theorem under_ints {n : Nat} : ∀ cs : List Int, D.unders n (cs.map D.int) = true
  | [] => by unfold List.map D.unders; rfl
  | x :: r => by unfold List.map D.unders; rw [under_ints r]; unfold D.under; rfl
/-- behind a call that has drawn: the callee's own cells go -/
theorem leave_S {δ δ' : Dk} {X Y : Store} {d : D} (h : d.under (2 + X.length) = true) : leave (S δ ++ X) d (S δ' ++ X ++ Y) = .ok d (S δ' ++ X) := by
  refine leave_app rfl ?_ fun i z e => ?_
  · have : (S δ ++ X).length = 2 + X.length := by rw [List.length_append]; rfl
    rw [this]; exact h
  · match i, e with
    | 0, e =>
      cases e
      exact .inr (under_ints _)
    | 1, e =>
      cases e
      right
      unfold Cell.under D.unders D.unders D.unders D.unders D.under
      simp [S]
    | i + 2, e => exact .inl e
theorem leave_S0 {δ δ' : Dk} {X : Store} {d : D} : leave (S δ ++ X) d (S δ' ++ X) = .ok d (S δ' ++ X) := leave_len rfl
/-- a draw -/
theorem w_draw (hi : pr[i]? = some (mkDrawA a b c)) {k m n : Nat} (hk : 1 ≤ k) (hb : 0 < m) (hb2 : m < 1073741824) {δ : Dk} (hδ : δ.ok n) (hn : n < 1000000000) {X : Store} :
    Drawn δ X (n + 1) (fun d => ∃ r : Nat, r < m ∧ d = .int r) (callK pr k i [.ref 1, .int m] (S δ ++ X)) := by
  obtain ⟨k, rfl⟩ : ∃ j, k = j + 1 := ⟨k - 1, by omega⟩
  obtain ⟨cs, mx, dr⟩ := δ
  have hbp : (0 : Int) < m := by omega
  have hbn : (m : Int) ≠ 0 := by omega
  have hc : cs.length ≤ 63 := hδ.1
  have hd : dr ≤ n := hδ.2
  have hsplit : (mkDrawA a b c).body = (mkDrawA a b c).body.take 3 ++ (mkDrawA a b c).body.drop 3 := rfl
  have henv : [D.ref 1, D.int m].map some ++ List.replicate ((mkDrawA a b c).ns - [D.ref 1, D.int m].length) none = [some (.ref 1), some (.int m), none, none, none] := rfl
  unfold Drawn
  rw [callK_run hi rfl, hsplit, exs_app, henv]
  rcases List.eq_nil_or_concat cs with e | ⟨cs1, x, e⟩
  · subst e
    obtain ⟨r, h1, h2⟩ := draw_tail (a := a) (b := b) (c := c) hb (T := ((dr + 1 : Nat) : Int)) (by omega) (cell := mx) (z := none) (Φ := callK pr k) (τ := S ⟨[], mx, dr + 1⟩ ++ X)
    rw [draw_0, then_nx, h2, fin_rt, leave_S0, sat_ok]
    exact ⟨⟨r, h1, rfl⟩, ⟨[], mx, dr + 1⟩, ⟨by simp, by show dr + 1 ≤ n + 1; omega⟩, rfl⟩
  · rw [List.concat_eq_append] at e
    subst e
    rw [List.length_append, List.length_singleton] at hc
    by_cases h : 1000000000000000000 ≤ x
    · obtain ⟨h1, h2⟩ := fmB (a := x) hbp
      have e1 : x.fmod m = (((x.fmod m).toNat : Nat) : Int) := by omega
      rw [draw_1 hbn hb2 (by omega) h, then_rt, fin_rt, leave_S0, sat_ok]
      exact ⟨⟨(x.fmod m).toNat, by omega, by rw [← e1]⟩, ⟨cs1 ++ [x.fdiv m], mx, dr + 1⟩, ⟨by show (cs1 ++ [x.fdiv m]).length ≤ 63; rw [List.length_append, List.length_singleton]; omega, by show dr + 1 ≤ n + 1; omega⟩, rfl⟩
    · obtain ⟨r, h1, h2⟩ := draw_tail (a := a) (b := b) (c := c) hb (T := ((dr + 1 : Nat) : Int)) (by omega) (cell := x + mx) (z := none) (Φ := callK pr k) (τ := S ⟨cs1, mx, dr + 1⟩ ++ X)
      rw [draw_2 h, then_nx, h2, fin_rt, leave_S0, sat_ok]
      exact ⟨⟨r, h1, rfl⟩, ⟨cs1, mx, dr + 1⟩, ⟨by show cs1.length ≤ 63; omega, by show dr + 1 ≤ n + 1; omega⟩, rfl⟩
end
/-! the deck of a script -/
def mkDeckA (a b : Int) : Fd := ⟨1, 4, [.par 2 3 (.bi .list false (.slice false (.loc 0) .nop (.int 63))) (.int a), .for (.nm 1) .on [.loc 2] [.asg (.nm 3) (.bin .mod (.bi .int false (.bin .add (.bin .add (.bin .mul (.loc 3) (.int 48271)) (.bin .mod (.bi .int false (.loc 1)) (.int 2147483629))) (.int b))) (.int 2147483587))], .ret (.dic true [.str "cells", .rev true (.loc 2), .str "mixed", .loc 3, .str "draws", .int 0])]⟩
theorem w_deck {pr : List Fd} {i k : Nat} {a b : Int} (hi : pr[i]? = some (mkDeckA a b)) (hk : 1 ≤ k) {ns : List Int} (hn : ns.length ≤ 63) :
    ∃ δ : Dk, δ.ok 0 ∧ callK pr k i [.ro (ns.map D.int)] [] = .ok (.ref 1) (S δ) := by
  obtain ⟨k, rfl⟩ : ∃ j, k = j + 1 := ⟨k - 1, by omega⟩
  have hl : (ns.map D.int).length ≤ lim := by rw [List.length_map, lim_v]; omega
  have s1 : sliceD false (.ro (ns.map D.int)) .non (.int 63) [] = .ok (.lst (ns.map D.int)) [] := by
    unfold sliceD
    show newL false (cutL (ns.map D.int) none (some 63)) [] = _
    rw [cut_to63, List.take_of_length_le (by rw [List.length_map]; exact hn), newL_f hl]
  have s2 : ∀ τ : Store, newL false (ns.map D.int) τ = .ok (.lst (ns.map D.int)) τ := fun τ => newL_f hl
  have h : (callK pr (k + 1) i [.ro (ns.map D.int)] []).sat fun d σ => d = .ref 1 ∧ ∃ mx, σ = S ⟨ns.reverse, mx, 0⟩ := by
    rw [callK_run hi rfl, sat_fin]
    unfold mkDeckA
    simp only [fx_nil, fx_one, fx_cons, fx_asg, fx_par, fx_put, fx_exp, fx_ret, fx_ite, fx_for, fx_pass, fx_frz, fv_loc, fv_bin, fv_cmp, fv_chain, fv_and, fv_or, fv_not, fv_ite, fv_tup, fv_lst, fv_dic, fv_star, fv_idx, fv_slice, fv_rev, fv_call, fv_bi, fv_isi, fv_me, fv_comp, fvs_cons, ev_nop, ev_non, ev_bl, ev_int, ev_str, ev_glo, ev_neg_int, evs_nil, thenS_nx, thenS_rt, thenS_exc, asgK_ok, asgK_exc, asgT_some, parA_ok, parB_ok, putA_ok, putB_ok, putC_ok, putR_some, expK_ok, expK_exc, retK_ok, retK_exc, iteK_ok, iteB_t, iteB_f, forA_ok, forB_some, frzA_ref, frzB_l, frzB_d, getK_s, binA_ok, binB_ok, cmpA_ok, cmpB_ok, chA_ok, chB_ok, chC_t, chC_f, andK_ok, andB_t, andB_f, orK_ok, orB_t, orB_f, notK_ok, notB_s, iteE_ok, iteEB_t, iteEB_f, tupK_ok, lstK_ok, dicK_ok, idxA_ok, idxB_ok, slA_ok, slB_n, slB_i, slC_n, slC_i, revK_ok, clA_ok, clB_ok, clC_s, biK_ok, isiK_ok, meA_ok, meB_t, meC_ok, cmA_ok, cmB_s, cmC_ok, esA_f, esA_t, spl_l, spl_t, esB_s, esC_ok, prC_s, prB_s, pr_nil, pr_cons, fin_rt', fin_nx', it_lst, it_ro, it_tup, it_str, tg_nm, tg_tup, sa_nil, sa_cons, ns_0, ns_1, ns_2, ns_3, ns_4, ns_5, ns_6, ns_7, ns_8, ns_9, ns_10, ns_11, ns_12, ns_13, ns_14, ns_15, ns_16, ns_17, ns_18, ns_19, ns_20, ns_21, ns_22, ns_23, ns_24, ns_25, ns_star, sat_ok, osat_nx, osat_rt, List.getElem?_cons_zero, List.getElem?_cons_succ, List.set, List.cons_append, List.nil_append, List.append_nil, wipe_nil, wipe_cons, view_non, view_bl, view_int, view_str, view_tup', view_lst, view_ro, view_dic, view_set, tr_non, tr_bl, tr_int, tr_tup, tr_lst, nl_nil, nl_cons1, nl2, nl3, nl4, nl5, nl6, nl7, nl8, nt0, nt1, nt2, nt3, nt4, mo_join, mo_app, mo_pop, mo_ext, mo_get, bi_lenl, bi_lent, bi_listl, bi_listt, bi_listd, bi_tupl, bi_int, b_add, b_sub, b_addl, b_addt, c_eqi, c_eqs, c_nei, c_nes, c_lti, c_lei, c_gti, c_gei, c_les, i_tup, i_lst, isi_str, isi_tup, isi_int, isi_lst, opt_non, opt_int, List.map_cons, List.map_nil, List.length_cons, List.length_nil, Nat.sub_self, List.replicate_zero, Nat.reduceAdd, Nat.reduceSub, List.reduceReplicate, Option.some.injEq, s1, s2]
    refine osat_thenS (osat_for D.int (fun r ρ σ => σ = [] ∧ ∃ (z : Option D) (m : Int), ρ = [some (.ro (ns.map D.int)), z, some (.lst (ns.map D.int)), some (.int m)]) ⟨rfl, _, _, rfl⟩ ?_ ?_)
    · rintro x r ρ σ ⟨rfl, z, m, rfl⟩
      refine ⟨_, rfl, ?_⟩
      simp only [fx_nil, fx_one, fx_cons, fx_asg, fx_par, fx_put, fx_exp, fx_ret, fx_ite, fx_for, fx_pass, fx_frz, fv_loc, fv_bin, fv_cmp, fv_chain, fv_and, fv_or, fv_not, fv_ite, fv_tup, fv_lst, fv_dic, fv_star, fv_idx, fv_slice, fv_rev, fv_call, fv_bi, fv_isi, fv_me, fv_comp, fvs_cons, ev_nop, ev_non, ev_bl, ev_int, ev_str, ev_glo, ev_neg_int, evs_nil, thenS_nx, thenS_rt, thenS_exc, asgK_ok, asgK_exc, asgT_some, parA_ok, parB_ok, putA_ok, putB_ok, putC_ok, putR_some, expK_ok, expK_exc, retK_ok, retK_exc, iteK_ok, iteB_t, iteB_f, forA_ok, forB_some, frzA_ref, frzB_l, frzB_d, getK_s, binA_ok, binB_ok, cmpA_ok, cmpB_ok, chA_ok, chB_ok, chC_t, chC_f, andK_ok, andB_t, andB_f, orK_ok, orB_t, orB_f, notK_ok, notB_s, iteE_ok, iteEB_t, iteEB_f, tupK_ok, lstK_ok, dicK_ok, idxA_ok, idxB_ok, slA_ok, slB_n, slB_i, slC_n, slC_i, revK_ok, clA_ok, clB_ok, clC_s, biK_ok, isiK_ok, meA_ok, meB_t, meC_ok, cmA_ok, cmB_s, cmC_ok, esA_f, esA_t, spl_l, spl_t, esB_s, esC_ok, prC_s, prB_s, pr_nil, pr_cons, fin_rt', fin_nx', it_lst, it_ro, it_tup, it_str, tg_nm, tg_tup, sa_nil, sa_cons, ns_0, ns_1, ns_2, ns_3, ns_4, ns_5, ns_6, ns_7, ns_8, ns_9, ns_10, ns_11, ns_12, ns_13, ns_14, ns_15, ns_16, ns_17, ns_18, ns_19, ns_20, ns_21, ns_22, ns_23, ns_24, ns_25, ns_star, sat_ok, osat_nx, osat_rt, List.getElem?_cons_zero, List.getElem?_cons_succ, List.set, List.cons_append, List.nil_append, List.append_nil, wipe_nil, wipe_cons, view_non, view_bl, view_int, view_str, view_tup', view_lst, view_ro, view_dic, view_set, tr_non, tr_bl, tr_int, tr_tup, tr_lst, nl_nil, nl_cons1, nl2, nl3, nl4, nl5, nl6, nl7, nl8, nt0, nt1, nt2, nt3, nt4, mo_join, mo_app, mo_pop, mo_ext, mo_get, bi_lenl, bi_lent, bi_listl, bi_listt, bi_listd, bi_tupl, bi_int, b_add, b_sub, b_addl, b_addt, c_eqi, c_eqs, c_nei, c_nes, c_lti, c_lei, c_gti, c_gei, c_les, i_tup, i_lst, isi_str, isi_tup, isi_int, isi_lst, opt_non, opt_int, List.map_cons, List.map_nil, List.length_cons, List.length_nil, Nat.sub_self, List.replicate_zero, Nat.reduceAdd, Nat.reduceSub, List.reduceReplicate, Option.some.injEq, t5, t10, t11]
      exact ⟨trivial, _, _, rfl⟩
    · rintro ρ σ ⟨rfl, z, m, rfl⟩
      have s3 : revD true (.lst (ns.map D.int)) [] = .ok (.ref 0) [.lst (ns.reverse.map D.int)] := by
        unfold revD
        show newL true (ns.map D.int).reverse [] = _
        rw [newL_t (by rw [List.length_reverse]; exact hl), List.map_reverse]
        rfl
      simp only [fx_nil, fx_one, fx_cons, fx_asg, fx_par, fx_put, fx_exp, fx_ret, fx_ite, fx_for, fx_pass, fx_frz, fv_loc, fv_bin, fv_cmp, fv_chain, fv_and, fv_or, fv_not, fv_ite, fv_tup, fv_lst, fv_dic, fv_star, fv_idx, fv_slice, fv_rev, fv_call, fv_bi, fv_isi, fv_me, fv_comp, fvs_cons, ev_nop, ev_non, ev_bl, ev_int, ev_str, ev_glo, ev_neg_int, evs_nil, thenS_nx, thenS_rt, thenS_exc, asgK_ok, asgK_exc, asgT_some, parA_ok, parB_ok, putA_ok, putB_ok, putC_ok, putR_some, expK_ok, expK_exc, retK_ok, retK_exc, iteK_ok, iteB_t, iteB_f, forA_ok, forB_some, frzA_ref, frzB_l, frzB_d, getK_s, binA_ok, binB_ok, cmpA_ok, cmpB_ok, chA_ok, chB_ok, chC_t, chC_f, andK_ok, andB_t, andB_f, orK_ok, orB_t, orB_f, notK_ok, notB_s, iteE_ok, iteEB_t, iteEB_f, tupK_ok, lstK_ok, dicK_ok, idxA_ok, idxB_ok, slA_ok, slB_n, slB_i, slC_n, slC_i, revK_ok, clA_ok, clB_ok, clC_s, biK_ok, isiK_ok, meA_ok, meB_t, meC_ok, cmA_ok, cmB_s, cmC_ok, esA_f, esA_t, spl_l, spl_t, esB_s, esC_ok, prC_s, prB_s, pr_nil, pr_cons, fin_rt', fin_nx', it_lst, it_ro, it_tup, it_str, tg_nm, tg_tup, sa_nil, sa_cons, ns_0, ns_1, ns_2, ns_3, ns_4, ns_5, ns_6, ns_7, ns_8, ns_9, ns_10, ns_11, ns_12, ns_13, ns_14, ns_15, ns_16, ns_17, ns_18, ns_19, ns_20, ns_21, ns_22, ns_23, ns_24, ns_25, ns_star, sat_ok, osat_nx, osat_rt, List.getElem?_cons_zero, List.getElem?_cons_succ, List.set, List.cons_append, List.nil_append, List.append_nil, wipe_nil, wipe_cons, view_non, view_bl, view_int, view_str, view_tup', view_lst, view_ro, view_dic, view_set, tr_non, tr_bl, tr_int, tr_tup, tr_lst, nl_nil, nl_cons1, nl2, nl3, nl4, nl5, nl6, nl7, nl8, nt0, nt1, nt2, nt3, nt4, mo_join, mo_app, mo_pop, mo_ext, mo_get, bi_lenl, bi_lent, bi_listl, bi_listt, bi_listd, bi_tupl, bi_int, b_add, b_sub, b_addl, b_addt, c_eqi, c_eqs, c_nei, c_nes, c_lti, c_lei, c_gti, c_gei, c_les, i_tup, i_lst, isi_str, isi_tup, isi_int, isi_lst, opt_non, opt_int, List.map_cons, List.map_nil, List.length_cons, List.length_nil, Nat.sub_self, List.replicate_zero, Nat.reduceAdd, Nat.reduceSub, List.reduceReplicate, Option.some.injEq, s3]
      have s6 : ∀ τ : Store, leave [] (.ref 1) τ = .ok (.ref 1) τ := fun τ => by
        unfold leave
        split
        · rename_i h; have := h.1; unfold D.under at this; simp at this
        · rfl
      simp only [fx_nil, fx_one, fx_cons, fx_asg, fx_par, fx_put, fx_exp, fx_ret, fx_ite, fx_for, fx_pass, fx_frz, fv_loc, fv_bin, fv_cmp, fv_chain, fv_and, fv_or, fv_not, fv_ite, fv_tup, fv_lst, fv_dic, fv_star, fv_idx, fv_slice, fv_rev, fv_call, fv_bi, fv_isi, fv_me, fv_comp, fvs_cons, ev_nop, ev_non, ev_bl, ev_int, ev_str, ev_glo, ev_neg_int, evs_nil, thenS_nx, thenS_rt, thenS_exc, asgK_ok, asgK_exc, asgT_some, parA_ok, parB_ok, putA_ok, putB_ok, putC_ok, putR_some, expK_ok, expK_exc, retK_ok, retK_exc, iteK_ok, iteB_t, iteB_f, forA_ok, forB_some, frzA_ref, frzB_l, frzB_d, getK_s, binA_ok, binB_ok, cmpA_ok, cmpB_ok, chA_ok, chB_ok, chC_t, chC_f, andK_ok, andB_t, andB_f, orK_ok, orB_t, orB_f, notK_ok, notB_s, iteE_ok, iteEB_t, iteEB_f, tupK_ok, lstK_ok, dicK_ok, idxA_ok, idxB_ok, slA_ok, slB_n, slB_i, slC_n, slC_i, revK_ok, clA_ok, clB_ok, clC_s, biK_ok, isiK_ok, meA_ok, meB_t, meC_ok, cmA_ok, cmB_s, cmC_ok, esA_f, esA_t, spl_l, spl_t, esB_s, esC_ok, prC_s, prB_s, pr_nil, pr_cons, fin_rt', fin_nx', it_lst, it_ro, it_tup, it_str, tg_nm, tg_tup, sa_nil, sa_cons, ns_0, ns_1, ns_2, ns_3, ns_4, ns_5, ns_6, ns_7, ns_8, ns_9, ns_10, ns_11, ns_12, ns_13, ns_14, ns_15, ns_16, ns_17, ns_18, ns_19, ns_20, ns_21, ns_22, ns_23, ns_24, ns_25, ns_star, sat_ok, osat_nx, osat_rt, List.getElem?_cons_zero, List.getElem?_cons_succ, List.set, List.cons_append, List.nil_append, List.append_nil, wipe_nil, wipe_cons, view_non, view_bl, view_int, view_str, view_tup', view_lst, view_ro, view_dic, view_set, tr_non, tr_bl, tr_int, tr_tup, tr_lst, nl_nil, nl_cons1, nl2, nl3, nl4, nl5, nl6, nl7, nl8, nt0, nt1, nt2, nt3, nt4, mo_join, mo_app, mo_pop, mo_ext, mo_get, bi_lenl, bi_lent, bi_listl, bi_listt, bi_listd, bi_tupl, bi_int, b_add, b_sub, b_addl, b_addt, c_eqi, c_eqs, c_nei, c_nes, c_lti, c_lei, c_gti, c_gei, c_les, i_tup, i_lst, isi_str, isi_tup, isi_int, isi_lst, opt_non, opt_int, List.map_cons, List.map_nil, List.length_cons, List.length_nil, Nat.sub_self, List.replicate_zero, Nat.reduceAdd, Nat.reduceSub, List.reduceReplicate, Option.some.injEq, pairUp_s, pairUp_nil, puB_s, dicB_s, mergeD_cons, mergeD_nil, putD_nil, putD_cons, inrI, ofStr_inj, String.reduceEq, if_false, newD_t, s6, Nat.reduceLeDiff, decide_true, Nat.zero_add, Nat.reduceAdd]
      exact ⟨trivial, m, rfl⟩
  obtain ⟨d, σ, e, rfl, mx, rfl⟩ := h.ex
  exact ⟨_, ⟨by show ns.reverse.length ≤ 63; rw [List.length_reverse]; exact hn, Nat.le_refl _⟩, e⟩
end Iv

set_option Elab.async false
set_option linter.all false
set_option maxHeartbeats 4000000
set_option maxRecDepth 20000
namespace Iv
open PySem L2
def b_is_short : Fd := ⟨1, 1, [.ret (.and (.isi (.loc 0) [.str]) (.chain .le .le (.int 1) (.bi .len false (.loc 0)) (.glo "MOST_SIGNS" (.int 8))))]⟩
def b_is_word : Fd := ⟨1, 2, [.ret (.and (.call 0 [.loc 0] [] [] [0]) (.bi .all false (.comp false [1] (.nm 1) .on [.loc 0] (.bl true) (.cmp .isin (.loc 1) (.glo "SMALL" (.str "abcdefghijklmnopqrstuvwxyz"))))))]⟩
def b_is_name : Fd := ⟨1, 2, [.ret (.and (.call 0 [.loc 0] [] [] [0]) (.and (.cmp .isin (.idx (.loc 0) (.int 0)) (.glo "CAPITALS" (.str "ABCDEFGHIJKLMNOPQRSTUVWXYZ"))) (.bi .all false (.comp false [1] (.nm 1) .on [.slice false (.loc 0) (.int 1) .nop] (.bl true) (.cmp .isin (.loc 1) (.bin .add (.glo "SMALL" (.str "abcdefghijklmnopqrstuvwxyz")) (.glo "DIGITS" (.str "0123456789"))))))))]⟩
def b_parts_of : Fd := ⟨1, 1, [.ret (.ite (.isi (.loc 0) [.str]) (.tup []) (.slice false (.loc 0) (.int 1) .nop))]⟩
def b_text_of : Fd := ⟨1, 2, [.ite (.isi (.loc 0) [.str]) [.ret (.loc 0)] [], .ret (.bin .add (.bin .add (.bin .add (.idx (.loc 0) (.int 0)) (.glo "LEFT" (.str "("))) (.me .join (.glo "COMMA" (.str ",")) [.comp false [1] (.nm 1) .on [.call 3 [.loc 0] [] [] [0]] (.bl true) (.call 4 [.loc 1] [] [] [0])])) (.glo "RIGHT" (.str ")")))]⟩
def b_pieces_in : Fd := ⟨1, 5, [.asg (.nm 1) (.dic true []), .asg (.nm 2) (.lst true [.star (.loc 0)]), .whl (.cmp .ne (.loc 2) (.lst false [])) [.asg (.nm 3) (.me .pop (.loc 2) []), .asg (.nm 4) (.call 4 [.loc 3] [] [] [0]), .ite (.cmp .notin (.loc 4) (.loc 1)) [.put (.loc 1) (.loc 4) (.loc 3), .exp (.me .extend (.loc 2) [.bi .list false (.call 3 [.loc 3] [] [] [0])])] []], .frz 1, .ret (.bi .tuple false (.comp false [4] (.nm 4) .on [.bi .sorted false (.loc 1)] (.bl true) (.idx (.loc 1) (.loc 4))))]⟩
def b_pieces_of : Fd := ⟨1, 1, [.ret (.call 5 [.lst false [.loc 0]] [] [] [0])]⟩
def b_size_of : Fd := ⟨1, 2, [.ret (.bin .add (.int 1) (.bi .sum false (.comp false [1] (.nm 1) .on [.call 3 [.loc 0] [] [] [0]] (.bl true) (.call 7 [.loc 1] [] [] [0]))))]⟩
def b_names_in : Fd := ⟨1, 2, [.ret (.bi .tuple false (.comp false [1] (.nm 1) .on [.call 6 [.loc 0] [] [] [0]] (.call 2 [.loc 1] [] [] [0]) (.loc 1)))]⟩
def b_words_in : Fd := ⟨1, 2, [.ret (.bi .tuple false (.comp false [1] (.nm 1) .on [.call 6 [.loc 0] [] [] [0]] (.call 1 [.loc 1] [] [] [0]) (.loc 1)))]⟩
def b_with_others : Fd := ⟨2, 3, [.ite (.isi (.loc 0) [.str]) [.ret (.me .get (.loc 1) [.loc 0, .loc 0])] [], .ret (.tup [.idx (.loc 0) (.int 0), .star (.comp false [2] (.nm 2) .on [.call 3 [.loc 0] [] [] [0]] (.bl true) (.call 10 [.loc 2, .loc 1] [] [] [0, 1]))])]⟩
def b_replaced : Fd := ⟨3, 3, [.ret (.call 10 [.loc 0, .dic false [.loc 1, .loc 2]] [] [] [0, 1])]⟩
def b_law_text : Fd := ⟨1, 2, [.ite (.isi (.loc 0) [.str]) [.ret (.loc 0)] [], .ret (.bin .add (.bin .add (.bin .add (.idx (.loc 0) (.int 0)) (.str "(")) (.me .join (.str ",") [.comp false [1] (.nm 1) .on [.slice false (.loc 0) (.int 1) .nop] (.bl true) (.call 18 [.loc 1] [] [] [0])])) (.str ")"))]⟩
def b_law_is_word : Fd := ⟨1, 2, [.ite (.or (.not (.isi (.loc 0) [.str])) (.or (.cmp .lt (.bi .len false (.loc 0)) (.int 1)) (.cmp .gt (.bi .len false (.loc 0)) (.int 8)))) [.ret (.bl false)] [], .ret (.cmp .eq (.comp false [1] (.nm 1) .on [.loc 0] (.not (.chain .le .le (.str "a") (.loc 1) (.str "z"))) (.loc 1)) (.lst false []))]⟩
def b_law_is_name : Fd := ⟨1, 2, [.ite (.or (.not (.isi (.loc 0) [.str])) (.or (.cmp .lt (.bi .len false (.loc 0)) (.int 1)) (.or (.cmp .gt (.bi .len false (.loc 0)) (.int 8)) (.not (.chain .le .le (.str "A") (.idx (.loc 0) (.int 0)) (.str "Z")))))) [.ret (.bl false)] [], .ret (.cmp .eq (.comp false [1] (.nm 1) .on [.slice false (.loc 0) (.int 1) .nop] (.and (.not (.chain .le .le (.str "a") (.loc 1) (.str "z"))) (.not (.chain .le .le (.str "0") (.loc 1) (.str "9")))) (.loc 1)) (.lst false []))]⟩
def b_law_lot : Fd := ⟨1, 3, [.asg (.nm 1) (.lst false [.loc 0]), .for (.nm 2) .on [.ite (.isi (.loc 0) [.tup]) (.slice false (.loc 0) (.int 1) .nop) (.tup [])] [.asg (.nm 1) (.bin .add (.loc 1) (.call 21 [.loc 2] [] [] [0]))], .ret (.loc 1)]⟩
def b_law_sorted : Fd := ⟨1, 4, [.asg (.nm 1) (.bi .dict false (.comp false [2] (.nm 2) .on [.loc 0] (.bl true) (.tup [.call 18 [.loc 2] [] [] [0], .loc 2]))), .ret (.bi .tuple false (.comp false [3] (.nm 3) .on [.bi .sorted false (.bi .list false (.loc 1))] (.bl true) (.idx (.loc 1) (.loc 3))))]⟩
def b_law_put : Fd := ⟨3, 4, [.ite (.isi (.loc 0) [.str]) [.ret (.ite (.cmp .eq (.loc 0) (.loc 1)) (.loc 2) (.loc 0))] [], .ret (.bin .add (.slice false (.loc 0) .nop (.int 1)) (.bi .tuple false (.comp false [3] (.nm 3) .on [.slice false (.loc 0) (.int 1) .nop] (.bl true) (.call 23 [.loc 3, .loc 1, .loc 2] [] [] [0, 1, 2]))))]⟩
/-- the functions of things, at their numbers -/
class Things (pr : List Fd) : Prop where
  is_short : pr[0]? = some b_is_short
  is_word : pr[1]? = some b_is_word
  is_name : pr[2]? = some b_is_name
  parts_of : pr[3]? = some b_parts_of
  text_of : pr[4]? = some b_text_of
  pieces_in : pr[5]? = some b_pieces_in
  pieces_of : pr[6]? = some b_pieces_of
  size_of : pr[7]? = some b_size_of
  names_in : pr[8]? = some b_names_in
  words_in : pr[9]? = some b_words_in
  with_others : pr[10]? = some b_with_others
  replaced : pr[11]? = some b_replaced
/-- the law's own -/
class LawA (pr : List Fd) : Prop where
  law_text : pr[18]? = some b_law_text
  law_is_word : pr[19]? = some b_law_is_word
  law_is_name : pr[20]? = some b_law_is_name
  law_lot : pr[21]? = some b_law_lot
  law_sorted : pr[22]? = some b_law_sorted
  law_put : pr[23]? = some b_law_put
end Iv

set_option Elab.async false
set_option linter.all false
set_option maxHeartbeats 4000000
set_option maxRecDepth 20000

/-! things: what the package's and the law's functions say of them -/
namespace Iv
open PySem L2
inductive Th where
  | leaf (x : Str) | node (w : Str) (ps : List Th)
  deriving Inhabited
mutual
def Th.d : Th → D
  | .leaf x => .str x
  | .node w ps => .tup (.str w :: Th.ds ps)
def Th.ds : List Th → List D
  | [] => []
  | t :: r => t.d :: Th.ds r
end
mutual
def Th.sz : Th → Nat
  | .leaf _ => 1
  | .node _ ps => 1 + Th.szs ps
def Th.szs : List Th → Nat
  | [] => 0
  | t :: r => t.sz + Th.szs r
end
mutual
def Th.dp : Th → Nat
  | .leaf _ => 0
  | .node _ ps => 1 + Th.dps ps
def Th.dps : List Th → Nat
  | [] => 0
  | t :: r => max t.dp (Th.dps r)
end
/-- a word or a name: short, of plain signs -/
def gd (x : Str) : Bool := decide (x.length ≤ 8) && decide (1 ≤ x.length) && x.cps.toList.all fun c => (decide (97 ≤ c) && decide (c ≤ 122)) || (decide (65 ≤ c) && decide (c ≤ 90)) || (decide (48 ≤ c) && decide (c ≤ 57))
mutual
def Th.ok : Th → Bool
  | .leaf x => gd x
  | .node w ps => gd w && !ps.isEmpty && Th.oks ps
def Th.oks : List Th → Bool
  | [] => true
  | t :: r => t.ok && Th.oks r
end
mutual
def Th.text : Th → Str
  | .leaf x => x
  | .node w ps => w ++ "(" ++ Txt.join "," (Th.texts ps) ++ ")"
def Th.texts : List Th → List Str
  | [] => []
  | t :: r => t.text :: Th.texts r
end
theorem ds_map : ∀ ps, Th.ds ps = ps.map Th.d
  | [] => by unfold Th.ds; rfl
  | t :: r => by unfold Th.ds; rw [ds_map r]; rfl
theorem texts_map : ∀ ps, Th.texts ps = ps.map Th.text
  | [] => by unfold Th.texts; rfl
  | t :: r => by unfold Th.texts; rw [texts_map r]; rfl
theorem sz_pos (t : Th) : 1 ≤ t.sz := by
  cases t with
  | leaf x => unfold Th.sz; exact Nat.le_refl _
  | node w ps => unfold Th.sz; omega
theorem szs_mem : ∀ {ps : List Th} {t : Th}, t ∈ ps → t.sz ≤ Th.szs ps
  | t :: r, u, h => by
    unfold Th.szs
    rcases List.mem_cons.mp h with e | h
    · rw [e]; omega
    · have := szs_mem h; omega
theorem szs_len : ∀ ps : List Th, ps.length ≤ Th.szs ps
  | [] => by unfold Th.szs; exact Nat.le_refl _
  | t :: r => by unfold Th.szs; have := szs_len r; have := sz_pos t; rw [List.length_cons]; omega
theorem dps_mem : ∀ {ps : List Th} {t : Th}, t ∈ ps → t.dp ≤ Th.dps ps
  | t :: r, u, h => by
    unfold Th.dps
    rcases List.mem_cons.mp h with e | h
    · rw [e]; omega
    · have := dps_mem h; omega
theorem oks_mem : ∀ {ps : List Th} {t : Th}, Th.oks ps = true → t ∈ ps → t.ok = true
  | t :: r, u, h, hm => by
    unfold Th.oks at h
    rw [Bool.and_eq_true] at h
    rcases List.mem_cons.mp hm with e | hm
    · rw [e]; exact h.1
    · exact oks_mem h.2 hm
/-- an induction over things: the parts are smaller -/
theorem Th.ind {M : Th → Prop} (h1 : ∀ x, M (.leaf x)) (h2 : ∀ w ps, (∀ t ∈ ps, M t) → M (.node w ps)) (t : Th) : M t := by
  have go : ∀ n (t : Th), t.sz ≤ n → M t := by
    intro n
    induction n with
    | zero => intro t h; have := sz_pos t; omega
    | succ n ih =>
      intro t h
      cases t with
      | leaf x => exact h1 x
      | node w ps =>
        refine h2 w ps fun t ht => ih t ?_
        have := szs_mem ht
        unfold Th.sz at h
        omega
  exact go t.sz t (Nat.le_refl _)
theorem len_app (x y : Str) : (x ++ y).length = x.length + y.length := Str.length_append x y
theorem l_open : ("(" : Str).length = 1 := by decide +kernel
theorem l_close : (")" : Str).length = 1 := by decide +kernel
theorem l_comma : ("," : Str).length = 1 := by decide +kernel
theorem gd_len {x : Str} (h : gd x = true) : 1 ≤ x.length ∧ x.length ≤ 8 := by
  unfold gd at h
  simp only [Bool.and_eq_true, decide_eq_true_eq] at h
  exact ⟨h.1.2, h.1.1⟩
theorem join_len (sep : Str) (xs : List Str) : (Txt.join sep xs).length ≤ (xs.map (·.length)).sum + xs.length * sep.length := by
  show (Builtin.Str.glued sep xs).length ≤ _
  rw [StrLaws.glued_eq_join]
  exact StrLaws.join_length_le sep xs
/-- texts are not long -/
theorem text_len (t : Th) : t.ok = true → t.text.length + 1 ≤ 12 * t.sz := by
  refine Th.ind (M := fun t => t.ok = true → t.text.length + 1 ≤ 12 * t.sz) (fun x h => ?_) (fun w ps ih h => ?_) t
  · unfold Th.ok at h; unfold Th.text Th.sz; have := gd_len h; omega
  · unfold Th.ok at h
    rw [Bool.and_eq_true, Bool.and_eq_true] at h
    have hw := gd_len h.1.1
    have hs : ∀ ps : List Th, (∀ t ∈ ps, t.ok = true → t.text.length + 1 ≤ 12 * t.sz) → Th.oks ps = true → ((Th.texts ps).map (·.length)).sum + ps.length ≤ 12 * Th.szs ps := by
      intro ps
      induction ps with
      | nil => intro _ _; unfold Th.texts; simp
      | cons t r ih =>
        intro h1 h2
        unfold Th.texts Th.szs
        unfold Th.oks at h2
        rw [Bool.and_eq_true] at h2
        have a := h1 t List.mem_cons_self h2.1
        have b := ih (fun u hu => h1 u (List.mem_cons_of_mem _ hu)) h2.2
        simp only [List.map_cons, List.sum_cons, List.length_cons]
        omega
    have h1 := hs ps ih h.2
    have h2 := join_len "," (Th.texts ps)
    have h3 : (Th.texts ps).length = ps.length := by rw [texts_map, List.length_map]
    unfold Th.text Th.sz
    rw [len_app, len_app, len_app, l_open, l_close]
    rw [h3, l_comma, Nat.mul_one] at h2
    omega
theorem texts_sum : ∀ {ps : List Th}, Th.oks ps = true → ((ps.map Th.text).map (·.length)).sum + ps.length ≤ 12 * Th.szs ps
  | [], _ => by unfold Th.szs; simp
  | t :: r, h => by
    unfold Th.oks at h
    rw [Bool.and_eq_true] at h
    have a := text_len t h.1
    have b := texts_sum h.2
    unfold Th.szs
    simp only [List.map_cons, List.sum_cons, List.length_cons]
    omega
end Iv

set_option Elab.async false
set_option linter.all false
set_option maxHeartbeats 4000000
set_option maxRecDepth 20000

namespace Iv
open PySem L2
variable {pr : List Fd} [Things pr]
theorem r_short_s {x : Str} (h : x.length ≤ lim) (k : Nat) (σ : Store) : callK pr (k+1) 0 [.str x] σ = .ok (.bl (decide (1 ≤ x.length) && decide (x.length ≤ 8))) σ := by
  rw [callK_run (fd := b_is_short) Things.is_short rfl]
  simp [b_is_short, bi_lens h, leave_same]
  by_cases h1 : 1 ≤ x.length
  · have e1 : (1 : Int) ≤ (x.length : Int) := by omega
    by_cases h2 : x.length ≤ 8
    · have e2 : (x.length : Int) ≤ 8 := by omega
      simp [h1, h2, e1, e2, leave_same]
    · have e2 : ¬ (x.length : Int) ≤ 8 := by omega
      simp [h1, h2, e1, e2, leave_same]
  · have e1 : ¬ (1 : Int) ≤ (x.length : Int) := by omega
    simp [h1, e1, leave_same]
theorem r_short_n {ds : List D} (k : Nat) (σ : Store) : callK pr (k+1) 0 [.tup ds] σ = .ok (.bl false) σ := by
  rw [callK_run (fd := b_is_short) Things.is_short rfl]
  simp [b_is_short, leave_same]
theorem r_parts_s {x : Str} (k : Nat) (σ : Store) : callK pr (k+1) 3 [.str x] σ = .ok (.tup []) σ := by
  rw [callK_run (fd := b_parts_of) Things.parts_of rfl]
  simp [b_parts_of, leave_same, newT]
theorem r_parts_n {w : D} {ps : List D} (h : ps.length ≤ lim) (k : Nat) (σ : Store) : callK pr (k+1) 3 [.tup (w :: ps)] σ = .ok (.tup ps) σ := by
  rw [callK_run (fd := b_parts_of) Things.parts_of rfl]
  simp [b_parts_of, leave_same, newT, cut_from1, h]
theorem r_text (t : Th) : t.ok = true → t.sz ≤ 1000 → ∀ k, t.dp + 2 ≤ k → ∀ σ, callK pr k 4 [t.d] σ = .ok (.str t.text) σ := by
  refine Th.ind (M := fun t => t.ok = true → t.sz ≤ 1000 → ∀ k, t.dp + 2 ≤ k → ∀ σ, callK pr k 4 [t.d] σ = .ok (.str t.text) σ) (fun x h _ k hk σ => ?_) (fun w ps ih h hsz k hk σ => ?_) t
  · obtain ⟨k, rfl⟩ : ∃ j, k = j + 1 := ⟨k - 1, by omega⟩
    unfold Th.d Th.text
    rw [callK_run (fd := b_text_of) Things.text_of rfl]
    simp [b_text_of, leave_same]
  · unfold Th.dp at hk
    obtain ⟨k, rfl⟩ : ∃ j, k = j + 2 := ⟨k - 2, by omega⟩
    have hok := h
    unfold Th.ok at h
    rw [Bool.and_eq_true, Bool.and_eq_true] at h
    have hlen := text_len _ hok
    have hps := szs_len ps
    have hsz' := hsz
    unfold Th.sz at hsz'
    unfold Th.text at hlen ⊢
    unfold Th.d
    rw [ds_map, texts_map] at *
    rw [len_app, len_app, len_app] at hlen
    rw [callK_run (fd := b_text_of) Things.text_of rfl]
    have hmap : ∀ t ∈ ps, ev (callK pr (k+1)) (.call 4 [.loc 1] [] [] [0]) ([some (.tup (.str w :: ps.map Th.d)), none].set 1 (some t.d)) σ = .ok (.str t.text) σ := by
      intro t ht
      have := ih t ht (oks_mem h.2 ht) (by have := szs_mem ht; omega) (k+1) (by have := dps_mem ht; omega) σ
      simp [this]
    have hc := compL_mapT Th.d (fun t => .str t.text) hmap (by show ps.length ≤ 16777216; omega)
    have hp := r_parts_n (pr := pr) (w := .str w) (ps := ps.map Th.d) (by rw [List.length_map]; show ps.length ≤ 16777216; omega) k σ
    have hsum := texts_sum h.2
    have hj := join_len "," (ps.map Th.text)
    rw [l_comma, List.length_map] at hj
    rw [l_open, l_close] at hlen
    have hw := gd_len h.1.1
    have f2 : ∀ σ : Store, meD .join (.str ",") [.lst (ps.map fun t => .str t.text)] σ = .ok (.str (Txt.join "," (ps.map Th.text))) σ := fun σ => me_join (strs_of_map _ _) (by rw [l_comma, List.length_map, lim_v]; omega)
    have f1 : ∀ σ : Store, binD .add (.str w) (.str "(") σ = .ok (.str (w ++ "(")) σ := fun σ => b_adds (by rw [l_open, lim_v]; omega)
    have f3 : ∀ σ : Store, binD .add (.str (w ++ "(")) (.str (Txt.join "," (ps.map Th.text))) σ = .ok (.str (w ++ "(" ++ Txt.join "," (ps.map Th.text))) σ := fun σ => b_adds (by rw [len_app, l_open, lim_v]; omega)
    have f4 : ∀ σ : Store, binD .add (.str (w ++ "(" ++ Txt.join "," (ps.map Th.text))) (.str ")") σ = .ok (.str (w ++ "(" ++ Txt.join "," (ps.map Th.text) ++ ")")) σ := fun σ => b_adds (by rw [len_app, len_app, l_open, l_close, lim_v]; omega)
    simp [b_text_of, hp, f1, f2, f3, f4, hc, newL_f (show (ps.map fun t => D.str t.text).length ≤ lim by rw [List.length_map, lim_v]; omega), leave_same]
end Iv

set_option Elab.async false
set_option linter.all false
set_option maxHeartbeats 4000000
set_option maxRecDepth 20000

namespace Iv
open PySem L2
variable {pr : List Fd} [Things pr]
mutual
def Th.units : Th → List Th
  | .leaf x => [.leaf x]
  | .node w ps => .node w ps :: Th.unitss ps
def Th.unitss : List Th → List Th
  | [] => []
  | t :: r => t.units ++ Th.unitss r
end
theorem units_len (t : Th) : t.units.length = t.sz := by
  refine Th.ind (M := fun t => t.units.length = t.sz) (fun x => by unfold Th.units Th.sz; rfl) (fun w ps ih => ?_) t
  have hs : ∀ ps : List Th, (∀ t ∈ ps, t.units.length = t.sz) → (Th.unitss ps).length = Th.szs ps := by
    intro ps
    induction ps with
    | nil => intro _; unfold Th.unitss Th.szs; rfl
    | cons t r ih =>
      intro h
      unfold Th.unitss Th.szs
      rw [List.length_append, h t List.mem_cons_self, ih fun u hu => h u (List.mem_cons_of_mem _ hu)]
  unfold Th.units Th.sz
  rw [List.length_cons, hs ps ih, Nat.add_comm]
theorem unitss_len : ∀ ps : List Th, (Th.unitss ps).length = Th.szs ps
  | [] => by unfold Th.unitss Th.szs; rfl
  | t :: r => by
    unfold Th.unitss Th.szs
    rw [List.length_append, units_len, unitss_len r]
theorem szs_sum : ∀ ps : List Th, (ps.map fun t => (t.sz : Int)).sum = (Th.szs ps : Int)
  | [] => by unfold Th.szs; rfl
  | t :: r => by
    unfold Th.szs
    rw [List.map_cons, List.sum_cons, szs_sum r, Int.natCast_add]
theorem sz_le {t : Th} {ps : List Th} {w : Str} {n : Nat} (h : (Th.node w ps).sz ≤ n) (ht : t ∈ ps) : t.sz ≤ n := by
  have := szs_mem ht
  unfold Th.sz at h
  omega
theorem dp_le {t : Th} {ps : List Th} {w : Str} {n k : Nat} (h : (Th.node w ps).dp + n ≤ k + 1) (ht : t ∈ ps) : t.dp + n ≤ k := by
  have := dps_mem ht
  unfold Th.dp at h
  omega
theorem plen {w : Str} {ps : List Th} {n : Nat} (h : (Th.node w ps).sz ≤ n) : ps.length ≤ n := by
  have := szs_len ps
  unfold Th.sz at h
  omega
theorem ok_parts {w : Str} {ps : List Th} (h : (Th.node w ps).ok = true) : gd w = true ∧ Th.oks ps = true ∧ ps ≠ [] := by
  unfold Th.ok at h
  rw [Bool.and_eq_true, Bool.and_eq_true] at h
  refine ⟨h.1.1, h.2, ?_⟩
  intro e
  rw [e] at h
  exact absurd h.1.2 (by decide)
theorem r_size (t : Th) : t.sz ≤ 1000 → ∀ k, t.dp + 2 ≤ k → ∀ σ, callK pr k 7 [t.d] σ = .ok (.int t.sz) σ := by
  refine Th.ind (M := fun t => t.sz ≤ 1000 → ∀ k, t.dp + 2 ≤ k → ∀ σ, callK pr k 7 [t.d] σ = .ok (.int t.sz) σ) (fun x _ k hk σ => ?_) (fun w ps ih hsz k hk σ => ?_) t
  · obtain ⟨k, rfl⟩ : ∃ j, k = j + 2 := ⟨k - 2, by omega⟩
    unfold Th.d
    rw [callK_run (fd := b_size_of) Things.size_of rfl]
    have hp := r_parts_s (pr := pr) (x := x) k σ
    have hs : biD .sum false (.lst []) σ = .ok (.int 0) σ := bi_sum (ns := []) rfl
    simp [b_size_of, hp, compL, newL, hs, leave_same, Th.sz]
  · obtain ⟨k, rfl⟩ : ∃ j, k = j + 2 := ⟨k - 2, by omega⟩
    have hpl := plen hsz
    unfold Th.d
    rw [ds_map]
    rw [callK_run (fd := b_size_of) Things.size_of rfl]
    have hmap : ∀ t ∈ ps, ev (callK pr (k+1)) (.call 7 [.loc 1] [] [] [0]) ([some (.tup (.str w :: ps.map Th.d)), none].set 1 (some t.d)) σ = .ok (.int t.sz) σ := by
      intro t ht
      have := ih t ht (sz_le hsz ht) (k+1) (dp_le hk ht) σ
      simp [this]
    have hc := compL_mapT Th.d (fun t => .int t.sz) hmap (by rw [lim_v]; omega)
    have hp := r_parts_n (pr := pr) (w := .str w) (ps := ps.map Th.d) (by rw [List.length_map, lim_v]; omega) k σ
    have hs : biD .sum false (.lst (ps.map fun t => .int t.sz)) σ = .ok (.int (Th.szs ps)) σ := by
      rw [bi_sum (ints_of_map (fun t : Th => (t.sz : Int)) ps), szs_sum]
    simp [b_size_of, hp, hc, newL_f (show (ps.map fun t => D.int (t.sz : Int)).length ≤ lim by rw [List.length_map, lim_v]; omega), hs, leave_same, Th.sz]
theorem r_ltext [LawA pr] (t : Th) : t.ok = true → t.sz ≤ 1000 → ∀ k, t.dp + 1 ≤ k → ∀ σ, callK pr k 18 [t.d] σ = .ok (.str t.text) σ := by
  refine Th.ind (M := fun t => t.ok = true → t.sz ≤ 1000 → ∀ k, t.dp + 1 ≤ k → ∀ σ, callK pr k 18 [t.d] σ = .ok (.str t.text) σ) (fun x h _ k hk σ => ?_) (fun w ps ih h hsz k hk σ => ?_) t
  · obtain ⟨k, rfl⟩ : ∃ j, k = j + 1 := ⟨k - 1, by omega⟩
    unfold Th.d Th.text
    rw [callK_run (fd := b_law_text) LawA.law_text rfl]
    simp [b_law_text, leave_same]
  · obtain ⟨k, rfl⟩ : ∃ j, k = j + 1 := ⟨k - 1, by omega⟩
    have hpl := plen hsz
    obtain ⟨hg, ho, _⟩ := ok_parts h
    have hlen := text_len _ h
    unfold Th.text at hlen ⊢
    unfold Th.d
    rw [ds_map, texts_map] at *
    rw [len_app, len_app, len_app] at hlen
    rw [callK_run (fd := b_law_text) LawA.law_text rfl]
    have hmap : ∀ t ∈ ps, ev (callK pr k) (.call 18 [.loc 1] [] [] [0]) ([some (.tup (.str w :: ps.map Th.d)), none].set 1 (some t.d)) σ = .ok (.str t.text) σ := by
      intro t ht
      have := ih t ht (oks_mem ho ht) (sz_le hsz ht) k (dp_le hk ht) σ
      simp [this]
    have hc := compL_mapT Th.d (fun t => .str t.text) hmap (by rw [lim_v]; omega)
    have hsum := texts_sum ho
    have hsz' := hsz
    unfold Th.sz at hsz'
    have hj := join_len "," (ps.map Th.text)
    rw [l_comma, List.length_map] at hj
    rw [l_open, l_close] at hlen
    have hw := gd_len hg
    have f2 : ∀ σ : Store, meD .join (.str ",") [.lst (ps.map fun t => .str t.text)] σ = .ok (.str (Txt.join "," (ps.map Th.text))) σ := fun σ => me_join (strs_of_map _ _) (by rw [l_comma, List.length_map, lim_v]; omega)
    have f1 : ∀ σ : Store, binD .add (.str w) (.str "(") σ = .ok (.str (w ++ "(")) σ := fun σ => b_adds (by rw [l_open, lim_v]; omega)
    have f3 : ∀ σ : Store, binD .add (.str (w ++ "(")) (.str (Txt.join "," (ps.map Th.text))) σ = .ok (.str (w ++ "(" ++ Txt.join "," (ps.map Th.text))) σ := fun σ => b_adds (by rw [len_app, l_open, lim_v]; omega)
    have f4 : ∀ σ : Store, binD .add (.str (w ++ "(" ++ Txt.join "," (ps.map Th.text))) (.str ")") σ = .ok (.str (w ++ "(" ++ Txt.join "," (ps.map Th.text) ++ ")")) σ := fun σ => b_adds (by rw [len_app, len_app, l_open, l_close, lim_v]; omega)
    simp [b_law_text, f1, f2, f3, f4, cut_from1, newT_ok (show (ps.map Th.d).length ≤ lim by rw [List.length_map, lim_v]; omega), hc, newL_f (show (ps.map fun t => D.str t.text).length ≤ lim by rw [List.length_map, lim_v]; omega), leave_same]
end Iv

set_option Elab.async false
set_option linter.all false
set_option maxHeartbeats 4000000
set_option maxRecDepth 20000

namespace Iv
open PySem L2
variable {pr : List Fd} [Things pr]
theorem forL_cons {t : Tg} {b : Iv.Env → Store → Out} {d : D} {ds : List D} {ρ ρ1 : Iv.Env} {σ : Store} (h : tgD t d ρ = some ρ1) : forL t b (d :: ds) ρ σ = match b ρ1 σ with
      | .nx ρ2 σ2 => forL t b ds ρ2 σ2
      | .ct ρ2 σ2 => forL t b ds ρ2 σ2
      | .bk ρ2 σ2 => .nx ρ2 σ2
      | o => o := by
  rw [forL, h]
  try (cases b ρ1 σ <;> rfl)
theorem r_lot [LawA pr] (t : Th) : t.sz ≤ 1000 → ∀ k, t.dp + 1 ≤ k → ∀ σ, callK pr k 21 [t.d] σ = .ok (.lst (t.units.map Th.d)) σ := by
  refine Th.ind (M := fun t => t.sz ≤ 1000 → ∀ k, t.dp + 1 ≤ k → ∀ σ, callK pr k 21 [t.d] σ = .ok (.lst (t.units.map Th.d)) σ) (fun x _ k hk σ => ?_) (fun w ps ih hsz k hk σ => ?_) t
  · obtain ⟨k, rfl⟩ : ∃ j, k = j + 1 := ⟨k - 1, by omega⟩
    unfold Th.d Th.units
    rw [callK_run (fd := b_law_lot) LawA.law_lot rfl]
    simp [b_law_lot, leave_same, newT, newL, forL, lim_v, Th.d]
  · obtain ⟨k, rfl⟩ : ∃ j, k = j + 1 := ⟨k - 1, by omega⟩
    have hpl := plen hsz
    have hsz' := hsz
    unfold Th.sz at hsz'
    unfold Th.units
    unfold Th.d
    rw [callK_run (fd := b_law_lot) LawA.law_lot rfl]
    have hfor : ∀ (qs : List Th) (acc : List D) (p : Option D), (∀ t ∈ qs, t ∈ ps) → acc.length + Th.szs qs ≤ 2000 → ∃ p', forL (.nm 2) (exs (callK pr k) [.asg (.nm 1) (.bin .add (.loc 1) (.call 21 [.loc 2] [] [] [0]))]) (qs.map Th.d) [some (.tup (.str w :: ps.map Th.d)), some (.lst acc), p] σ = .nx [some (.tup (.str w :: ps.map Th.d)), some (.lst (acc ++ (Th.unitss qs).map Th.d)), p'] σ := by
      intro qs
      induction qs with
      | nil => intro acc p _ _; exact ⟨p, by unfold Th.unitss; simp [forL]⟩
      | cons t r ihq =>
        intro acc p hm hl
        unfold Th.szs at hl
        have h1 := ih t (hm t List.mem_cons_self) (sz_le hsz (hm t List.mem_cons_self)) k (dp_le hk (hm t List.mem_cons_self)) σ
        obtain ⟨p', e⟩ := ihq (acc ++ t.units.map Th.d) (some t.d) (fun u hu => hm u (List.mem_cons_of_mem _ hu)) (by rw [List.length_append, List.length_map, units_len]; omega)
        refine ⟨p', ?_⟩
        rw [List.map_cons, forL_cons (ρ1 := [some (.tup (.str w :: ps.map Th.d)), some (.lst acc), some t.d]) rfl]
        have hn : ∀ σ : Store, newL false (acc ++ t.units.map Th.d) σ = .ok (.lst (acc ++ t.units.map Th.d)) σ := fun σ => newL_f (by rw [List.length_append, List.length_map, units_len, lim_v]; omega)
        simp only [exs_cons, exs_nil, ex_asg, ev_bin, ev_loc, ev_call, evs_cons', evs_nil, ns_1, splice_f, Res.bind_ok, perm_cons, perm_nil, h1, b_addl, hn, Out.of_ok, tg_nm, then_nx, List.getElem?_cons_zero, List.getElem?_cons_succ, List.nil_append, List.append_nil, List.cons_append, Option.bind_some, List.set]
        unfold Th.unitss
        rw [List.map_append, ← List.append_assoc]
        exact e
    obtain ⟨p', e⟩ := hfor ps [.tup (.str w :: ps.map Th.d)] none (fun _ h => h) (by simp; omega)
    rw [ds_map]
    have e2 := newT_ok (σ := σ) (show (ps.map Th.d).length ≤ lim by rw [List.length_map, lim_v]; omega)
    have e3 : ∀ σ : Store, newL false [D.tup (.str w :: ps.map Th.d)] σ = .ok (.lst [D.tup (.str w :: ps.map Th.d)]) σ := fun σ => newL_f (by simp [lim_v])
    simp [b_law_lot, leave_same, cut_from1, e, e2, e3, Th.d, ds_map]
/-! another thing in the place of a name -/
mutual
def put (n : Str) (o : Th) : Th → Th
  | .leaf x => if x = n then o else .leaf x
  | .node w ps => .node w (puts n o ps)
def puts (n : Str) (o : Th) : List Th → List Th
  | [] => []
  | t :: r => put n o t :: puts n o r
end
theorem puts_map {n : Str} {o : Th} : ∀ ps, puts n o ps = ps.map (put n o)
  | [] => by unfold puts; rfl
  | t :: r => by unfold puts; rw [puts_map r]; rfl
theorem d_leaf {x : Str} : (Th.leaf x).d = .str x := by unfold Th.d; rfl
theorem d_node {w : Str} {ps : List Th} : (Th.node w ps).d = .tup (.str w :: ps.map Th.d) := by unfold Th.d; rw [ds_map]
theorem put_leaf {n x : Str} {o : Th} : put n o (.leaf x) = if x = n then o else .leaf x := by unfold put; rfl
theorem put_node {n w : Str} {o : Th} {ps : List Th} : put n o (.node w ps) = .node w (ps.map (put n o)) := by unfold put; rw [puts_map]
theorem r_put [LawA pr] {n : Str} {o : Th} (t : Th) : t.sz ≤ 1000 → ∀ k, t.dp + 1 ≤ k → ∀ σ, callK pr k 23 [t.d, .str n, o.d] σ = .ok (put n o t).d σ := by
  refine Th.ind (M := fun t => t.sz ≤ 1000 → ∀ k, t.dp + 1 ≤ k → ∀ σ, callK pr k 23 [t.d, .str n, o.d] σ = .ok (put n o t).d σ) (fun x _ k hk σ => ?_) (fun w ps ih hsz k hk σ => ?_) t
  · obtain ⟨k, rfl⟩ : ∃ j, k = j + 1 := ⟨k - 1, by omega⟩
    rw [d_leaf, put_leaf, callK_run (fd := b_law_put) LawA.law_put rfl]
    by_cases e : x = n
    · simp [b_law_put, leave_same, e]
    · simp [b_law_put, leave_same, e, d_leaf]
  · obtain ⟨k, rfl⟩ : ∃ j, k = j + 1 := ⟨k - 1, by omega⟩
    have hpl := plen hsz
    rw [put_node, d_node, d_node, List.map_map]
    rw [callK_run (fd := b_law_put) LawA.law_put rfl]
    have hmap : ∀ t ∈ ps, ev (callK pr k) (.call 23 [.loc 3, .loc 1, .loc 2] [] [] [0, 1, 2]) ([some (.tup (.str w :: ps.map Th.d)), some (.str n), some o.d, none].set 3 (some t.d)) σ = .ok (put n o t).d σ := by
      intro t ht
      have := ih t ht (sz_le hsz ht) k (dp_le hk ht) σ
      simp [this]
    have hc := compL_mapT Th.d (fun t => (put n o t).d) hmap (by rw [lim_v]; omega)
    have e1 : ∀ σ : Store, newT (ps.map Th.d) σ = .ok (.tup (ps.map Th.d)) σ := fun σ => newT_ok (by rw [List.length_map, lim_v]; omega)
    have e2 : ∀ σ : Store, newT (ps.map fun t => (put n o t).d) σ = .ok (.tup (ps.map fun t => (put n o t).d)) σ := fun σ => newT_ok (by rw [List.length_map, lim_v]; omega)
    have e3 : ∀ σ : Store, newL false (ps.map fun t => (put n o t).d) σ = .ok (.lst (ps.map fun t => (put n o t).d)) σ := fun σ => newL_f (by rw [List.length_map, lim_v]; omega)
    have e4 : ∀ σ : Store, newT [D.str w] σ = .ok (.tup [D.str w]) σ := fun σ => newT_ok (by simp [lim_v])
    have e5 : ∀ σ : Store, newT (D.str w :: ps.map fun t => (put n o t).d) σ = .ok (.tup (D.str w :: ps.map fun t => (put n o t).d)) σ := fun σ => newT_ok (by rw [List.length_cons, List.length_map, lim_v]; omega)
    simp [b_law_put, leave_same, cut_from1, cut_to1, e1, e2, e3, e4, e5, hc, Function.comp_def]
theorem r_others {n : Str} {o : Th} (t : Th) : t.sz ≤ 1000 → ∀ k, t.dp + 2 ≤ k → ∀ σ, callK pr k 10 [t.d, .dic [.inr n] [o.d]] σ = .ok (put n o t).d σ := by
  refine Th.ind (M := fun t => t.sz ≤ 1000 → ∀ k, t.dp + 2 ≤ k → ∀ σ, callK pr k 10 [t.d, .dic [.inr n] [o.d]] σ = .ok (put n o t).d σ) (fun x _ k hk σ => ?_) (fun w ps ih hsz k hk σ => ?_) t
  · obtain ⟨k, rfl⟩ : ∃ j, k = j + 1 := ⟨k - 1, by omega⟩
    rw [d_leaf, put_leaf, callK_run (fd := b_with_others) Things.with_others rfl]
    by_cases e : x = n
    · simp [b_with_others, leave_same, e, meD, dKey, look]
    · have e' : ¬ n = x := fun h => e h.symm
      simp [b_with_others, leave_same, e, e', meD, dKey, look, d_leaf]
  · obtain ⟨k, rfl⟩ : ∃ j, k = j + 2 := ⟨k - 2, by omega⟩
    have hpl := plen hsz
    rw [put_node, d_node, d_node, List.map_map]
    rw [callK_run (fd := b_with_others) Things.with_others rfl]
    have hmap : ∀ t ∈ ps, ev (callK pr (k+1)) (.call 10 [.loc 2, .loc 1] [] [] [0, 1]) ([some (.tup (.str w :: ps.map Th.d)), some (.dic [.inr n] [o.d]), none].set 2 (some t.d)) σ = .ok (put n o t).d σ := by
      intro t ht
      have := ih t ht (sz_le hsz ht) (k+1) (dp_le hk ht) σ
      simp [this]
    have hc := compL_mapT Th.d (fun t => (put n o t).d) hmap (by rw [lim_v]; omega)
    have hp := r_parts_n (pr := pr) (w := .str w) (ps := ps.map Th.d) (by rw [List.length_map, lim_v]; omega) k σ
    have e3 : ∀ σ : Store, newL false (ps.map fun t => (put n o t).d) σ = .ok (.lst (ps.map fun t => (put n o t).d)) σ := fun σ => newL_f (by rw [List.length_map, lim_v]; omega)
    have e5 : ∀ σ : Store, newT (D.str w :: ps.map fun t => (put n o t).d) σ = .ok (.tup (D.str w :: ps.map fun t => (put n o t).d)) σ := fun σ => newT_ok (by rw [List.length_cons, List.length_map, lim_v]; omega)
    simp [b_with_others, leave_same, hp, e3, e5, hc, Function.comp_def]
theorem r_replaced {n : Str} {o : Th} (t : Th) (hsz : t.sz ≤ 1000) (k : Nat) (hk : t.dp + 3 ≤ k) (σ : Store) : callK pr k 11 [t.d, .str n, o.d] σ = .ok (put n o t).d σ := by
  obtain ⟨k, rfl⟩ : ∃ j, k = j + 1 := ⟨k - 1, by omega⟩
  have h := r_others (pr := pr) (n := n) (o := o) t hsz k (by omega) σ
  rw [callK_run (fd := b_replaced) Things.replaced rfl]
  simp [b_replaced, leave_same, pairUp, dKey, mergeD, putD, newD, lim_v, h]
end Iv

set_option Elab.async false
set_option linter.all false
set_option maxHeartbeats 4000000
set_option maxRecDepth 20000

namespace Iv
open PySem L2
variable {pr : List Fd} [Things pr]
def low (c : Nat) : Bool := decide (97 ≤ c) && decide (c ≤ 122)
def cap (c : Nat) : Bool := decide (65 ≤ c) && decide (c ≤ 90)
def dig (c : Nat) : Bool := decide (48 ≤ c) && decide (c ≤ 57)
def isW : Th → Bool
  | .leaf x => x.cps.toList.all low
  | .node _ _ => false
def isN : Th → Bool
  | .leaf x => (match x.cps.toList with
    | c :: r => cap c && r.all fun c => low c || dig c
    | [] => false)
  | .node _ _ => false
theorem gd_ch {x : Str} (h : gd x = true) : ∀ c ∈ x.cps.toList, c < 123 := by
  unfold gd at h
  rw [Bool.and_eq_true, List.all_eq_true] at h
  intro c hc
  have := h.2 c hc
  simp only [Bool.or_eq_true, Bool.and_eq_true, decide_eq_true_eq] at this
  omega
theorem gd_cons {x : Str} (h : gd x = true) : ∃ c r, x.cps.toList = c :: r := by
  have := (gd_len h).1
  have e : x.length = x.cps.toList.length := by simp [Str.length]
  rw [e] at this
  cases hx : x.cps.toList with
  | nil => rw [hx] at this; simp at this
  | cons c r => exact ⟨c, r, rfl⟩
def small : Str := "abcdefghijklmnopqrstuvwxyz"
def caps : Str := "ABCDEFGHIJKLMNOPQRSTUVWXYZ"
def digs : Str := "0123456789"
theorem in_small : ∀ c, c < 123 → (Builtin.Str.occurrences small ⟨#[c]⟩ 0 small.length 1).isEmpty = !low c := by decide +kernel
theorem in_caps : ∀ c, c < 123 → (Builtin.Str.occurrences caps ⟨#[c]⟩ 0 caps.length 1).isEmpty = !cap c := by decide +kernel
theorem in_both : ∀ c, c < 123 → (Builtin.Str.occurrences (small ++ digs) ⟨#[c]⟩ 0 (small ++ digs).length 1).isEmpty = !(low c || dig c) := by decide +kernel
def sg (c : Nat) : Str := ⟨#[c]⟩
theorem lt_a : ∀ c, c < 123 → strLt (sg c) "a" = !decide (97 ≤ c) := by decide +kernel
theorem lt_z : ∀ c, c < 123 → strLt "z" (sg c) = !decide (c ≤ 122) := by decide +kernel
theorem lt_A : ∀ c, c < 123 → strLt (sg c) "A" = !decide (65 ≤ c) := by decide +kernel
theorem lt_Z : ∀ c, c < 123 → strLt "Z" (sg c) = !decide (c ≤ 90) := by decide +kernel
theorem lt_0 : ∀ c, c < 123 → strLt (sg c) "0" = !decide (48 ≤ c) := by decide +kernel
theorem lt_9 : ∀ c, c < 123 → strLt "9" (sg c) = !decide (c ≤ 57) := by decide +kernel
theorem c_in_small {c : Nat} {σ : Store} (h : c < 123) : cmpD .isin (.str (sg c)) (.str "abcdefghijklmnopqrstuvwxyz") σ = .ok (.bl (low c)) σ := by
  have := in_small c h
  rw [c_ins]
  show Res.ok (D.bl (!(Builtin.Str.occurrences small (sg c) 0 small.length 1).isEmpty)) σ = _
  unfold sg
  rw [this, Bool.not_not]
theorem c_in_caps {c : Nat} {σ : Store} (h : c < 123) : cmpD .isin (.str (sg c)) (.str "ABCDEFGHIJKLMNOPQRSTUVWXYZ") σ = .ok (.bl (cap c)) σ := by
  have := in_caps c h
  rw [c_ins]
  show Res.ok (D.bl (!(Builtin.Str.occurrences caps (sg c) 0 caps.length 1).isEmpty)) σ = _
  unfold sg
  rw [this, Bool.not_not]
theorem c_in_both {c : Nat} {σ : Store} (h : c < 123) : cmpD .isin (.str (sg c)) (.str (small ++ digs)) σ = .ok (.bl (low c || dig c)) σ := by
  have := in_both c h
  rw [c_ins]
  unfold sg
  rw [this, Bool.not_not]
theorem strok {x : Str} (h : gd x = true) : PyData.strOk x = true := by
  unfold PyData.strOk
  rw [← Array.all_toList, List.all_eq_true]
  intro c hc
  have := gd_ch h c hc
  rw [decide_eq_true_eq]
  omega
theorem r_is_word (t : Th) (h : t.ok = true) (k : Nat) (σ : Store) : callK pr (k+2) 1 [t.d] σ = .ok (.bl (isW t)) σ := by
  cases t with
  | leaf x =>
    unfold Th.ok at h
    have hl := gd_len h
    have hch := gd_ch h
    have hs := r_short_s (pr := pr) (x := x) (by rw [lim_v]; omega) k σ
    rw [d_leaf, callK_run (fd := b_is_word) Things.is_word rfl]
    have hmap : ∀ c ∈ x.cps.toList, ev (callK pr (k+1)) (.cmp .isin (.loc 1) (.glo "SMALL" (.str "abcdefghijklmnopqrstuvwxyz"))) ([some (.str x), none].set 1 (some (.str (sg c)))) σ = .ok (.bl (low c)) σ := by
      intro c hc
      have := c_in_small (σ := σ) (hch c hc)
      simp [this, -c_ins]
    have hc := compL_mapT (fun c => D.str (sg c)) (fun c => D.bl (low c)) hmap (by have e : x.length = x.cps.toList.length := by simp [Str.length]
                                                                                   rw [lim_v]; omega)
    have ha : biD .all false (.lst (x.cps.toList.map fun c => D.bl (low c))) σ = .ok (.bl (x.cps.toList.all low)) σ := by
      rw [bi_all (bls_of_map low _)]
      simp
    have e1 : (decide (1 ≤ x.length) && decide (x.length ≤ 8)) = true := by simp; omega
    have hn : newL false (x.cps.toList.map fun c => D.bl (low c)) σ = .ok (.lst (x.cps.toList.map fun c => D.bl (low c))) σ := newL_f (by
      have e : x.length = x.cps.toList.length := by simp [Str.length]
      rw [List.length_map, lim_v]; omega)
    rw [e1] at hs
    have hi : itemsOf σ .on [.str x] = some (x.cps.toList.map fun c => D.str (sg c)) := rfl
    simp [b_is_word, hs, hi, hc, hn, ha, leave_same, isW, -it_str, -List.map_map, -compL]
  | node w ps =>
    rw [d_node, callK_run (fd := b_is_word) Things.is_word rfl]
    have hs := r_short_n (pr := pr) (ds := .str w :: ps.map Th.d) k σ
    simp [b_is_word, hs, leave_same, isW]
end Iv

set_option Elab.async false
set_option linter.all false
set_option maxHeartbeats 4000000
set_option maxRecDepth 20000

namespace Iv
open PySem L2
variable {pr : List Fd} [Things pr]
theorem str_len (x : Str) : x.cps.toList.length = x.length := by simp [Str.length]
theorem idx_str0 {x : Str} {c : Nat} {r : List Nat} {σ : Store} (h : x.cps.toList = c :: r) (hl : x.length ≤ lim) : idxD (.str x) (.int 0) σ = .ok (.str (sg c)) σ := by
  unfold idxD
  rw [view_str]
  dsimp only
  rw [if_pos hl, h, atI_zero]
  rfl
theorem sl_str1 {x : Str} {c : Nat} {r : List Nat} {σ : Store} (h : x.cps.toList = c :: r) (hl : x.length ≤ lim) : sliceD false (.str x) (.int 1) .non σ = .ok (.str ⟨r.toArray⟩) σ := by
  rw [sl_str' hl opt_int opt_non, cut_from1, h]
  rfl
theorem r_is_name (t : Th) (h : t.ok = true) (k : Nat) (σ : Store) : callK pr (k+2) 2 [t.d] σ = .ok (.bl (isN t)) σ := by
  cases t with
  | leaf x =>
    unfold Th.ok at h
    have hl := gd_len h
    have hch := gd_ch h
    obtain ⟨c0, r, hx⟩ := gd_cons h
    have hrl : r.length ≤ 8 := by have := str_len x; rw [hx, List.length_cons] at this; omega
    have hs := r_short_s (pr := pr) (x := x) (by rw [lim_v]; omega) k σ
    rw [d_leaf, callK_run (fd := b_is_name) Things.is_name rfl]
    have hadd : ∀ σ : Store, binD .add (.str "abcdefghijklmnopqrstuvwxyz") (.str "0123456789") σ = .ok (.str (small ++ digs)) σ := fun σ => b_adds (by decide +kernel)
    have hmap : ∀ c ∈ r, ev (callK pr (k+1)) (.cmp .isin (.loc 1) (.bin .add (.glo "SMALL" (.str "abcdefghijklmnopqrstuvwxyz")) (.glo "DIGITS" (.str "0123456789")))) ([some (.str x), none].set 1 (some (.str (sg c)))) σ = .ok (.bl (low c || dig c)) σ := by
      intro c hc
      have := c_in_both (σ := σ) (hch c (by rw [hx]; exact List.mem_cons_of_mem _ hc))
      simp [this, hadd, -c_ins]
    have hc := compL_mapT (fun c => D.str (sg c)) (fun c => D.bl (low c || dig c)) hmap (by rw [lim_v]; omega)
    have ha : biD .all false (.lst (r.map fun c => D.bl (low c || dig c))) σ = .ok (.bl (r.all fun c => low c || dig c)) σ := by
      rw [bi_all (bls_of_map (fun c => low c || dig c) _)]
      simp
    have e1 : (decide (1 ≤ x.length) && decide (x.length ≤ 8)) = true := by simp; omega
    have hn : newL false (r.map fun c => D.bl (low c || dig c)) σ = .ok (.lst (r.map fun c => D.bl (low c || dig c))) σ := newL_f (by rw [List.length_map, lim_v]; omega)
    rw [e1] at hs
    have hi : itemsOf σ .on [.str ⟨r.toArray⟩] = some (r.map fun c => D.str (sg c)) := rfl
    have hi0 := idx_str0 (σ := σ) hx (by rw [lim_v]; omega)
    have hs1 := sl_str1 (σ := σ) hx (by rw [lim_v]; omega)
    have hcap := c_in_caps (σ := σ) (hch c0 (by rw [hx]; exact List.mem_cons_self))
    have hN : isN (.leaf x) = (cap c0 && r.all fun c => low c || dig c) := by unfold isN; dsimp only; rw [hx]
    rw [hN]
    cases hcc : cap c0 with
    | true =>
      rw [hcc] at hcap
      simp [b_is_name, hs, hi, hi0, hs1, hcap, hc, hn, ha, leave_same, -it_str, -List.map_map, -c_ins]
    | false =>
      rw [hcc] at hcap
      simp [b_is_name, hs, hi0, hcap, leave_same, -it_str, -List.map_map, -c_ins]
  | node w ps =>
    rw [d_node, callK_run (fd := b_is_name) Things.is_name rfl]
    have hs := r_short_n (pr := pr) (ds := .str w :: ps.map Th.d) k σ
    simp [b_is_name, hs, leave_same, isN]
theorem filt_nil {α : Type} (p : α → Bool) : ∀ xs : List α, ((xs.filter fun x => !p x).map fun _ => ()).isEmpty = xs.all p
  | [] => rfl
  | x :: r => by
    have ih := filt_nil p r
    rw [List.filter_cons, List.all_cons]
    cases h : p x with
    | true => simpa using ih
    | false => rfl
theorem filt_nil' {α : Type} (p : α → Bool) (f : α → D) (xs : List α) : ((xs.filter fun x => !p x).map f).isEmpty = xs.all p := by
  rw [← filt_nil p xs, map_isEmpty, map_isEmpty]
theorem ok_sg {c : Nat} (h : c < 123) : PyData.strOk (sg c) = true := by
  unfold PyData.strOk sg
  rw [← Array.all_toList]
  simp
  omega
theorem eq_nil_sg {l : List Nat} {σ : Store} (h : ∀ c ∈ l, c < 123) : cmpD .eq (.lst (l.map fun c => D.str (sg c))) (.lst []) σ = .ok (.bl (l.map fun c => D.str (sg c)).isEmpty) σ :=
  c_eqnil (b := true) rfl (sims_map fun c hc => by unfold D.sim; exact ok_sg (h c hc)) (Nat.le_trans (dps_map (n := 0) (f := fun c => D.str (sg c)) (xs := l) fun c _ => by unfold D.dp; exact Nat.le_refl _) (by decide))
theorem r_law_is_word [LawA pr] (t : Th) (h : t.ok = true) (k : Nat) (σ : Store) : callK pr (k+1) 19 [t.d] σ = .ok (.bl (isW t)) σ := by
  cases t with
  | leaf x =>
    unfold Th.ok at h
    have hl := gd_len h
    have hch := gd_ch h
    rw [d_leaf, callK_run (fd := b_law_is_word) LawA.law_is_word rfl]
    have hc := compL_fT (t := .nm 1) (ρ := [some (.str x), none]) (σ := σ) (c := ev (callK pr k) (.not (.chain .le .le (.str "a") (.loc 1) (.str "z")))) (elt := ev (callK pr k) (.loc 1)) (fun c => D.str (sg c)) (fun c => !low c) (fun c => D.str (sg c)) (xs := x.cps.toList) (acc := []) (fun c hc => by
      have hc := hch c hc
      refine ⟨_, rfl, ?_, fun _ => ?_⟩
      · have e1 := lt_a c hc
        have e2 := lt_z c hc
        by_cases e : 97 ≤ c
        · simp [e1, e2, e, low]
        · simp [e1, e2, e, low]
      · simp) (by rw [str_len, lim_v]; simp; omega)
    have hi : itemsOf σ .on [.str x] = some (x.cps.toList.map fun c => D.str (sg c)) := rfl
    have hfl : (x.cps.toList.filter fun c => !low c).length ≤ lim := Nat.le_trans (List.length_filter_le _ _) (by rw [str_len, lim_v]; omega)
    have hn := newL_f (σ := σ) (xs := (x.cps.toList.filter fun c => !low c).map fun c => D.str (sg c)) (by rw [List.length_map]; exact hfl)
    have he := eq_nil_sg (l := x.cps.toList.filter fun c => !low c) (σ := σ) (fun c hc => hch c ((List.mem_filter.mp hc).1))
    rw [filt_nil'] at he
    rw [List.nil_append] at hc
    have g1 : ¬ (x.length : Int) < 1 := by omega
    have g2 : ¬ (8 : Int) < (x.length : Int) := by omega
    have hnil := newL_f (σ := σ) (show ([] : List D).length ≤ lim from Nat.zero_le _)
    have hlen := bi_lens (mu := false) (σ := σ) (show x.length ≤ lim by rw [lim_v]; omega)
    simp [b_law_is_word, hlen, g1, g2, hi, hc, hn, hnil, he, isW, leave_same, -it_str, -List.map_map]
  | node w ps =>
    rw [d_node, callK_run (fd := b_law_is_word) LawA.law_is_word rfl]
    simp [b_law_is_word, leave_same, isW]
theorem r_law_is_name [LawA pr] (t : Th) (h : t.ok = true) (k : Nat) (σ : Store) : callK pr (k+1) 20 [t.d] σ = .ok (.bl (isN t)) σ := by
  cases t with
  | leaf x =>
    unfold Th.ok at h
    have hl := gd_len h
    have hch := gd_ch h
    obtain ⟨c0, r, hx⟩ := gd_cons h
    have hrl : r.length ≤ 8 := by have := str_len x; rw [hx, List.length_cons] at this; omega
    rw [d_leaf, callK_run (fd := b_law_is_name) LawA.law_is_name rfl]
    have hr : ∀ c ∈ r, c < 123 := fun c hc => hch c (by rw [hx]; exact List.mem_cons_of_mem _ hc)
    have h0 : c0 < 123 := hch c0 (by rw [hx]; exact List.mem_cons_self)
    have hc := compL_fT (t := .nm 1) (ρ := [some (.str x), none]) (σ := σ) (c := ev (callK pr k) (.and (.not (.chain .le .le (.str "a") (.loc 1) (.str "z"))) (.not (.chain .le .le (.str "0") (.loc 1) (.str "9"))))) (elt := ev (callK pr k) (.loc 1)) (fun c => D.str (sg c)) (fun c => !(low c || dig c)) (fun c => D.str (sg c)) (xs := r) (acc := []) (fun c hc => by
      have hc := hr c hc
      refine ⟨_, rfl, ?_, fun _ => ?_⟩
      · have e1 := lt_a c hc
        have e2 := lt_z c hc
        have e3 := lt_0 c hc
        have e4 := lt_9 c hc
        by_cases e : 97 ≤ c
        · by_cases e' : c ≤ 122
          · simp [e1, e2, e3, e4, e, e', low, dig]
          · have e5 : ¬ c ≤ 57 := by omega
            have e6 : 48 ≤ c := by omega
            simp [e1, e2, e3, e4, e, e', e5, e6, low, dig]
        · by_cases e' : 48 ≤ c
          · simp [e1, e2, e3, e4, e, e', low, dig]
          · simp [e1, e2, e3, e4, e, e', low, dig]
      · simp) (by rw [lim_v]; simp; omega)
    have hi : itemsOf σ .on [.str ⟨r.toArray⟩] = some (r.map fun c => D.str (sg c)) := rfl
    have hfl : (r.filter fun c => !(low c || dig c)).length ≤ lim := Nat.le_trans (List.length_filter_le _ _) (by rw [lim_v]; omega)
    have hn := newL_f (σ := σ) (xs := (r.filter fun c => !(low c || dig c)).map fun c => D.str (sg c)) (by rw [List.length_map]; exact hfl)
    have he := eq_nil_sg (l := r.filter fun c => !(low c || dig c)) (σ := σ) (fun c hc => hr c (List.mem_filter.mp hc).1)
    rw [filt_nil'] at he
    rw [List.nil_append] at hc
    have g1 : ¬ (x.length : Int) < 1 := by omega
    have g2 : ¬ (8 : Int) < (x.length : Int) := by omega
    have hnil := newL_f (σ := σ) (show ([] : List D).length ≤ lim from Nat.zero_le _)
    have hlen := bi_lens (mu := false) (σ := σ) (show x.length ≤ lim by rw [lim_v]; omega)
    have hi0 := idx_str0 (σ := σ) hx (by rw [lim_v]; omega)
    have hs1 := sl_str1 (σ := σ) hx (by rw [lim_v]; omega)
    have hN : isN (.leaf x) = (cap c0 && r.all fun c => low c || dig c) := by unfold isN; dsimp only; rw [hx]
    rw [hN]
    have e1 := lt_A c0 h0
    have e2 := lt_Z c0 h0
    by_cases e : 65 ≤ c0
    · by_cases e' : c0 ≤ 90
      · have ec : cap c0 = true := by unfold cap; simp [e, e']
        rw [ec, Bool.true_and]
        generalize (r.filter fun c => !(low c || dig c)) = L at *
        generalize (r.all fun c => low c || dig c) = B at *
        simp [b_law_is_name, hlen, g1, g2, hi, hi0, hs1, hc, hn, hnil, he, e1, e2, e, e', leave_same, -it_str, -List.map_map]
      · have ec : cap c0 = false := by unfold cap; simp [e, e']
        rw [ec, Bool.false_and]
        simp [b_law_is_name, hlen, g1, g2, hi0, e1, e2, e, e', leave_same, -it_str, -List.map_map]
    · have ec : cap c0 = false := by unfold cap; simp [e]
      rw [ec, Bool.false_and]
      simp [b_law_is_name, hlen, g1, g2, hi0, e1, e2, e, leave_same, -it_str, -List.map_map]
  | node w ps =>
    rw [d_node, callK_run (fd := b_law_is_name) LawA.law_is_name rfl]
    simp [b_law_is_name, leave_same, isN]
end Iv

set_option Elab.async false
set_option linter.all false
set_option maxHeartbeats 4000000
set_option maxRecDepth 20000

namespace Iv
open PySem L2
variable {pr : List Fd} [Things pr]
/-! one text, one thing -/
def Str.l (x : Str) : List Nat := x.cps.toList
mutual
def Th.l : Th → List Nat
  | .leaf x => x.cps.toList
  | .node w ps => w.cps.toList ++ 40 :: (Th.ls ps ++ [41])
def Th.ls : List Th → List Nat
  | [] => []
  | t :: r => t.l ++ Th.lr r
def Th.lr : List Th → List Nat
  | [] => []
  | t :: r => 44 :: (t.l ++ Th.lr r)
end
theorem lr_cons (t : Th) (r : List Th) : Th.lr (t :: r) = 44 :: (t.l ++ Th.lr r) := by rw [Th.lr]
theorem ls_cons (t : Th) (r : List Th) : Th.ls (t :: r) = t.l ++ Th.lr r := by rw [Th.ls]
theorem lr_join : ∀ (ps : List Th) (t : Th), (∀ u ∈ t :: ps, u.text.cps.toList = u.l) → (Str.join "," (t.text :: ps.map Th.text)).cps.toList = t.l ++ Th.lr ps
  | [], t, h => by unfold Th.lr; simp [Str.join, h t]
  | u :: r, t, h => by
    have ih := lr_join r u fun v hv => h v (List.mem_cons_of_mem _ hv)
    have e : Str.join "," (t.text :: (u :: r).map Th.text) = t.text ++ "," ++ Str.join "," (u.text :: r.map Th.text) := rfl
    have e1 : ("," : Str).cps.toList = [44] := by decide +kernel
    rw [e, Str.cps_append, Str.cps_append, Array.toList_append, Array.toList_append, ih, e1, h t List.mem_cons_self, lr_cons]
    simp
theorem text_l (t : Th) : t.text.cps.toList = t.l := by
  refine Th.ind (M := fun t => t.text.cps.toList = t.l) (fun x => by unfold Th.text Th.l; rfl) (fun w ps ih => ?_) t
  have e : Txt.join "," (Th.texts ps) = Str.join "," (ps.map Th.text) := by
    show Builtin.Str.glued "," (Th.texts ps) = _
    rw [StrLaws.glued_eq_join, texts_map]
  have e1 : ("(" : Str).cps.toList = [40] := by decide +kernel
  have e2 : (")" : Str).cps.toList = [41] := by decide +kernel
  unfold Th.text Th.l
  rw [e, Str.cps_append, Str.cps_append, Str.cps_append, Array.toList_append, Array.toList_append, Array.toList_append, e1, e2]
  cases ps with
  | nil => unfold Th.ls; simp [Str.join]; decide +kernel
  | cons p r =>
    rw [List.map_cons, lr_join r p ih]
    unfold Th.ls
    simp
def an (c : Nat) : Bool := (decide (97 ≤ c) && decide (c ≤ 122)) || (decide (65 ≤ c) && decide (c ≤ 90)) || (decide (48 ≤ c) && decide (c ≤ 57))
theorem gd_an {x : Str} (h : gd x = true) : ∀ c ∈ x.cps.toList, an c = true := by
  unfold gd at h
  rw [Bool.and_eq_true, List.all_eq_true] at h
  exact h.2
theorem words_eq : ∀ {a b r s : List Nat}, (∀ c ∈ a, an c = true) → (∀ c ∈ b, an c = true) → (∀ c, r.head? = some c → an c = false) → (∀ c, s.head? = some c → an c = false) → a ++ r = b ++ s → a = b ∧ r = s
  | [], [], _, _, _, _, _, _, h => ⟨rfl, h⟩
  | [], c :: b, r, s, _, h2, h3, _, h => by
    have e : r = c :: (b ++ s) := h
    have := h3 c (by rw [e]; rfl)
    rw [h2 c List.mem_cons_self] at this
    cases this
  | c :: a, [], r, s, h1, _, _, h4, h => by
    have e : s = c :: (a ++ r) := h.symm
    have := h4 c (by rw [e]; rfl)
    rw [h1 c List.mem_cons_self] at this
    cases this
  | c :: a, d :: b, r, s, h1, h2, h3, h4, h => by
    rw [List.cons_append, List.cons_append, List.cons.injEq] at h
    obtain ⟨e1, e2⟩ := words_eq (fun x hx => h1 x (List.mem_cons_of_mem _ hx)) (fun x hx => h2 x (List.mem_cons_of_mem _ hx)) h3 h4 h.2
    exact ⟨by rw [h.1, e1], e2⟩
def stp (r : List Nat) : Prop := ∀ c, r.head? = some c → c = 44 ∨ c = 41
theorem stp_an {r : List Nat} (h : stp r) : ∀ c, r.head? = some c → an c = false := by
  intro c hc
  rcases h c hc with e | e <;> rw [e] <;> decide
theorem l_inj (t : Th) : ∀ u : Th, t.ok = true → u.ok = true → ∀ r s, stp r → stp s → t.l ++ r = u.l ++ s → t = u ∧ r = s := by
  refine Th.ind (M := fun t => ∀ u : Th, t.ok = true → u.ok = true → ∀ r s, stp r → stp s → t.l ++ r = u.l ++ s → t = u ∧ r = s) (fun x => ?_) (fun w ps ih => ?_) t
  · intro u h1 h2 r s hr hs e
    unfold Th.ok at h1
    cases u with
    | leaf y =>
      unfold Th.ok at h2
      unfold Th.l at e
      obtain ⟨e1, e2⟩ := words_eq (gd_an h1) (gd_an h2) (stp_an hr) (stp_an hs) e
      exact ⟨by rw [show x = y from Str.ext' (Array.toList_inj.mp e1)], e2⟩
    | node w qs =>
      obtain ⟨h2, _, _⟩ := ok_parts h2
      unfold Th.l at e
      rw [List.append_assoc, List.cons_append] at e
      obtain ⟨e1, e2⟩ := words_eq (gd_an h1) (gd_an h2) (stp_an hr) (fun c hc => by rw [List.head?_cons, Option.some.injEq] at hc; rw [← hc]; decide) e
      have := hr 40 (by rw [e2]; rfl)
      omega
  · intro u h1 h2 r s hr hs e
    obtain ⟨g1, o1, n1⟩ := ok_parts h1
    cases u with
    | leaf y =>
      unfold Th.ok at h2
      unfold Th.l at e
      rw [List.append_assoc, List.cons_append] at e
      obtain ⟨e1, e2⟩ := words_eq (gd_an g1) (gd_an h2) (fun c hc => by rw [List.head?_cons, Option.some.injEq] at hc; rw [← hc]; decide) (stp_an hs) e
      have := hs 40 (by rw [← e2]; rfl)
      omega
    | node v qs =>
      obtain ⟨g2, o2, n2⟩ := ok_parts h2
      unfold Th.l at e
      rw [List.append_assoc, List.append_assoc, List.cons_append, List.cons_append] at e
      obtain ⟨e1, e2⟩ := words_eq (gd_an g1) (gd_an g2) (fun c hc => by rw [List.head?_cons, Option.some.injEq] at hc; rw [← hc]; decide) (fun c hc => by rw [List.head?_cons, Option.some.injEq] at hc; rw [← hc]; decide) e
      rw [List.cons.injEq] at e2
      have e3 := e2.2
      rw [List.append_assoc, List.append_assoc] at e3
      have hw : w = v := Str.ext' (Array.toList_inj.mp e1)
      have go : ∀ (ps qs : List Th), (∀ t ∈ ps, ∀ u : Th, t.ok = true → u.ok = true → ∀ r s, stp r → stp s → t.l ++ r = u.l ++ s → t = u ∧ r = s) → Th.oks ps = true → Th.oks qs = true → Th.lr ps ++ 41 :: r = Th.lr qs ++ 41 :: s → ps = qs ∧ r = s := by
        intro ps
        induction ps with
        | nil =>
          intro qs _ _ _ e
          cases qs with
          | nil => unfold Th.lr at e; exact ⟨rfl, by simpa using e⟩
          | cons q qs => unfold Th.lr at e; simp at e
        | cons p ps ihp =>
          intro qs h ho1 ho2 e
          cases qs with
          | nil => unfold Th.lr at e; simp at e
          | cons q qs =>
            unfold Th.lr at e
            unfold Th.oks at ho1 ho2
            rw [Bool.and_eq_true] at ho1 ho2
            rw [List.cons_append, List.cons_append, List.cons.injEq, List.append_assoc, List.append_assoc] at e
            have hst : ∀ (xs : List Th) (r : List Nat), stp (Th.lr xs ++ 41 :: r) := by
              intro xs r c hc
              cases xs with
              | nil => unfold Th.lr at hc; rw [List.nil_append, List.head?_cons, Option.some.injEq] at hc; exact .inr hc.symm
              | cons x xs => unfold Th.lr at hc; rw [List.cons_append, List.head?_cons, Option.some.injEq] at hc; exact .inl hc.symm
            obtain ⟨a1, a2⟩ := h p List.mem_cons_self q ho1.1 ho2.1 _ _ (hst ps r) (hst qs s) e.2
            obtain ⟨b1, b2⟩ := ihp qs (fun t ht => h t (List.mem_cons_of_mem _ ht)) ho1.2 ho2.2 a2
            exact ⟨by rw [a1, b1], b2⟩
      have hls : ∀ xs : List Th, xs ≠ [] → 44 :: Th.ls xs = Th.lr xs := by
        intro xs hx
        cases xs with
        | nil => exact absurd rfl hx
        | cons x xs => rw [ls_cons, lr_cons]
      have e4 : Th.lr ps ++ 41 :: r = Th.lr qs ++ 41 :: s := by
        rw [← hls ps n1, ← hls qs n2, List.cons_append, List.cons_append]
        exact congrArg (44 :: ·) e3
      obtain ⟨c1, c2⟩ := go ps qs ih o1 o2 e4
      exact ⟨by rw [hw, c1], c2⟩
theorem text_inj {t u : Th} (h1 : t.ok = true) (h2 : u.ok = true) (e : t.text = u.text) : t = u := by
  have e1 : t.l = u.l := by rw [← text_l, ← text_l, e]
  exact (l_inj t u h1 h2 [] [] (fun c hc => by cases hc) (fun c hc => by cases hc) (by rw [e1])).1
end Iv

set_option Elab.async false
set_option linter.all false
set_option maxHeartbeats 4000000
set_option maxRecDepth 20000

namespace Iv
open PySem L2
variable {pr : List Fd} [Things pr]
/-! dicts of things by their texts -/
def kys (L : List Th) : List Key := L.map fun t => .inr t.text
def img (L : List Th) : List (Key × D) := L.map fun t => (.inr t.text, t.d)
def ins (L : List Th) (t : Th) : List Th := if t.text ∈ L.map Th.text then L else L ++ [t]
def dd (U : List Th) : List Th := U.foldl ins []
theorem zip_img : ∀ L : List Th, (kys L).zip (L.map Th.d) = img L
  | [] => rfl
  | t :: r => by
    have := zip_img r
    unfold kys img at *
    rw [List.map_cons, List.map_cons, List.map_cons, List.zip_cons_cons, this]
theorem img_1 (L : List Th) : (img L).map (·.1) = kys L := by unfold img kys; rw [List.map_map]; rfl
theorem img_2 (L : List Th) : (img L).map (·.2) = L.map Th.d := by unfold img; rw [List.map_map]; rfl
theorem kys_keyD (L : List Th) : (kys L).map keyD = L.map fun t => .str t.text := by unfold kys; rw [List.map_map]; rfl
theorem putD_img {L : List Th} {t : Th} (hL : ∀ u ∈ L, u.ok = true) (ht : t.ok = true) : putD (img L) (.inr t.text) t.d = img (ins L t) := by
  unfold putD ins
  by_cases h : t.text ∈ L.map Th.text
  · rw [if_pos h]
    have e : ((img L).any fun kv => decide (kv.1 = .inr t.text)) = true := by
      obtain ⟨u, hu, e⟩ := List.mem_map.mp h
      rw [List.any_eq_true]
      exact ⟨(.inr u.text, u.d), List.mem_map.mpr ⟨u, hu, rfl⟩, by rw [e]; simp⟩
    rw [if_pos e]
    unfold img
    rw [List.map_map]
    refine List.map_congr_left fun u hu => ?_
    dsimp only [Function.comp]
    split
    · rename_i he
      have he' : u.text = t.text := by simpa using he
      rw [text_inj (hL u hu) ht he']
    · rfl
  · rw [if_neg h]
    have e : ¬ ((img L).any fun kv => decide (kv.1 = .inr t.text)) = true := by
      rw [List.any_eq_true]
      rintro ⟨kv, hkv, e⟩
      unfold img at hkv
      obtain ⟨u, hu, rfl⟩ := List.mem_map.mp hkv
      exact h (List.mem_map.mpr ⟨u, hu, by simpa using e⟩)
    rw [if_neg e]
    unfold img
    rw [List.map_append]
    rfl
theorem look_img {L : List Th} {t : Th} (hL : ∀ u ∈ L, u.ok = true) (ht : t ∈ L) : look (kys L) (L.map Th.d) (.inr t.text) = some t.d := by
  unfold look
  rw [zip_img]
  have : ∀ M : List Th, (∀ u ∈ M, u ∈ L) → t ∈ M → ((img M).find? fun p => decide (p.1 = .inr t.text)) = some (.inr t.text, t.d) := by
    intro M
    induction M with
    | nil => intro _ h; cases h
    | cons u r ih =>
      intro hM hm
      unfold img
      rw [List.map_cons, List.find?_cons]
      by_cases e : u.text = t.text
      · have := text_inj (hL u (hM u List.mem_cons_self)) (hL t ht) e
        rw [this]
        simp
      · have e' : decide ((Sum.inr u.text : Key) = .inr t.text) = false := by simpa using e
        dsimp only
        rw [e']
        refine ih (fun v hv => hM v (List.mem_cons_of_mem _ hv)) ?_
        rcases List.mem_cons.mp hm with h | h
        · rw [h] at e; exact absurd rfl e
        · exact h
  rw [this L (fun _ h => h) ht]
  rfl
theorem look_is {L : List Th} {k : Str} : (look (kys L) (L.map Th.d) (.inr k)).isSome = decide (k ∈ L.map Th.text) := by
  unfold look
  rw [zip_img, Option.isSome_map]
  rw [Bool.eq_iff_iff, List.find?_isSome, decide_eq_true_iff]
  unfold img
  constructor
  · rintro ⟨p, hp, e⟩
    obtain ⟨u, hu, rfl⟩ := List.mem_map.mp hp
    exact List.mem_map.mpr ⟨u, hu, by simpa using e⟩
  · intro h
    obtain ⟨u, hu, e⟩ := List.mem_map.mp h
    exact ⟨_, List.mem_map.mpr ⟨u, hu, rfl⟩, by rw [e]; simp⟩
theorem mem_ins {L : List Th} {t u : Th} (hL : ∀ u ∈ L, u.ok = true) (ht : t.ok = true) : u ∈ ins L t ↔ u ∈ L ∨ u = t := by
  unfold ins
  split
  · rename_i h
    obtain ⟨v, hv, e⟩ := List.mem_map.mp h
    have := text_inj (hL v hv) ht e
    constructor
    · exact .inl
    · rintro (h | h)
      · exact h
      · rw [h, ← this]; exact hv
  · simp
theorem nodup_ins {L : List Th} {t : Th} (h : (L.map Th.text).Nodup) : ((ins L t).map Th.text).Nodup := by
  unfold ins
  split
  · exact h
  · rename_i hn
    rw [List.map_append, List.nodup_append]
    refine ⟨h, by simp, ?_⟩
    intro a ha b hb e
    simp at hb
    rw [e, hb] at ha
    exact hn ha
theorem foldl_ins : ∀ (U L : List Th), (∀ u ∈ L, u.ok = true) → (∀ u ∈ U, u.ok = true) → (L.map Th.text).Nodup → (∀ u, u ∈ U.foldl ins L ↔ u ∈ L ∨ u ∈ U) ∧ ((U.foldl ins L).map Th.text).Nodup ∧ (U.map fun t => ((.inr t.text : Key), t.d)).foldl (fun acc kv => putD acc kv.1 kv.2) (img L) = img (U.foldl ins L)
  | [], L, _, _, h => ⟨fun u => by simp, h, rfl⟩
  | t :: r, L, hL, hU, h => by
    have ht := hU t List.mem_cons_self
    obtain ⟨a, b, c⟩ := foldl_ins r (ins L t) (fun u hu => by
      rcases (mem_ins hL ht).mp hu with h | h
      · exact hL u h
      · rw [h]; exact ht) (fun u hu => hU u (List.mem_cons_of_mem _ hu)) (nodup_ins h)
    refine ⟨fun u => ?_, b, ?_⟩
    · rw [List.foldl_cons, a, mem_ins hL ht, List.mem_cons, or_assoc]
    · rw [List.map_cons, List.foldl_cons, List.foldl_cons]
      dsimp only
      rw [putD_img hL ht]
      exact c
theorem dd_all {U : List Th} (h : ∀ u ∈ U, u.ok = true) : (∀ u, u ∈ dd U ↔ u ∈ U) ∧ ((dd U).map Th.text).Nodup ∧ mergeD [] (U.map fun t => ((.inr t.text : Key), t.d)) = img (dd U) := by
  obtain ⟨a, b, c⟩ := foldl_ins U [] (fun u h => by cases h) h List.nodup_nil
  exact ⟨fun u => by unfold dd; rw [a]; simp, b, c⟩
end Iv

set_option Elab.async false
set_option linter.all false
set_option maxHeartbeats 4000000
set_option maxRecDepth 20000

namespace Iv
open PySem L2
variable {pr : List Fd} [Things pr]
theorem sortS_congr {xs ys : List Str} (p : xs.Perm ys) : sortS xs = sortS ys :=
  List.Perm.eq_of_pairwise (le := fun a b => sLe a b = true) (fun _ _ _ _ => sLe_anti) (List.pairwise_mergeSort sLe_trans sLe_total xs) (List.pairwise_mergeSort sLe_trans sLe_total ys) ((sortS_perm xs).trans (p.trans (sortS_perm ys).symm))
def th (U : List Th) (k : Str) : Th := (U.find? fun t => decide (t.text = k)).getD (.leaf k)
theorem th_of {U : List Th} (hU : ∀ u ∈ U, u.ok = true) {t : Th} (h : t ∈ U) : th U t.text = t := by
  unfold th
  cases e : U.find? fun u => decide (u.text = t.text) with
  | none =>
    have := List.find?_eq_none.mp e t h
    simp at this
  | some u =>
    have h1 := List.find?_some e
    have h2 := List.mem_of_find?_eq_some e
    exact text_inj (hU u h2) (hU t h) (by simpa using h1)
/-- the pieces -/
def pcs (U : List Th) : List Th := (sortS ((dd U).map Th.text)).map (th U)
theorem keys_same {U L : List Th} (hU : ∀ u ∈ U, u.ok = true) (h1 : ∀ u, u ∈ L ↔ u ∈ U) (h2 : (L.map Th.text).Nodup) : sortS (L.map Th.text) = sortS ((dd U).map Th.text) := by
  obtain ⟨a, b, _⟩ := dd_all hU
  refine sortS_congr ((List.perm_ext_iff_of_nodup h2 b).mpr fun k => ?_)
  rw [List.mem_map, List.mem_map]
  constructor
  · rintro ⟨u, hu, e⟩; exact ⟨u, (a u).mpr ((h1 u).mp hu), e⟩
  · rintro ⟨u, hu, e⟩; exact ⟨u, (h1 u).mpr ((a u).mp hu), e⟩
theorem dd_len {U : List Th} : (dd U).length ≤ U.length := by
  have : ∀ (U L : List Th), (U.foldl ins L).length ≤ L.length + U.length := by
    intro U
    induction U with
    | nil => intro L; exact Nat.le_refl _
    | cons t r ih =>
      intro L
      rw [List.foldl_cons]
      have := ih (ins L t)
      have h2 : (ins L t).length ≤ L.length + 1 := by unfold ins; split <;> simp
      rw [List.length_cons]
      omega
  have := this U []
  simpa [dd] using this
theorem pcs_len {U : List Th} : (pcs U).length ≤ U.length := by
  unfold pcs
  rw [List.length_map, sortS_length, List.length_map]
  exact dd_len
theorem mem_pcs {U : List Th} (hU : ∀ u ∈ U, u.ok = true) {t : Th} : t ∈ pcs U ↔ t ∈ U := by
  obtain ⟨a, b, _⟩ := dd_all hU
  unfold pcs
  rw [List.mem_map]
  constructor
  · rintro ⟨k, hk, e⟩
    obtain ⟨u, hu, rfl⟩ := List.mem_map.mp ((sortS_perm _).mem_iff.mp hk)
    rw [th_of hU ((a u).mp hu)] at e
    rw [← e]; exact (a u).mp hu
  · intro h
    exact ⟨t.text, (sortS_perm _).mem_iff.mpr (List.mem_map.mpr ⟨t, (a t).mpr h, rfl⟩), th_of hU h⟩
/-- reading a dict of things by its sorted texts -/
theorem by_keys {i j : Nat} {Φ : CallSem} {ρ : Iv.Env} {σ : Store} {U L : List Th} (hU : ∀ u ∈ U, u.ok = true) (h1 : ∀ u, u ∈ L ↔ u ∈ U) (h2 : (L.map Th.text).Nodup) (hij : i ≠ j) (hj : ρ[j]? = some (some (.dic (kys L) (L.map Th.d)))) (hi : i < ρ.length) (hl : U.length ≤ lim) :
    compL (.nm i) (ev Φ (.bl true)) (ev Φ (.idx (.loc j) (.loc i))) ρ ((sortS (L.map Th.text)).map D.str) [] σ = .ok ((pcs U).map Th.d) σ := by
  rw [keys_same hU h1 h2]
  obtain ⟨a, b, _⟩ := dd_all hU
  rw [compL_mapT D.str (fun k => (th U k).d)]
  · unfold pcs
    rw [List.map_map]
    rfl
  · intro k hk
    obtain ⟨u, hu, rfl⟩ := List.mem_map.mp ((sortS_perm _).mem_iff.mp hk)
    have hu := (a u).mp hu
    rw [th_of hU hu]
    have e1 : (ρ.set i (some (.str u.text)))[j]? = some (some (.dic (kys L) (L.map Th.d))) := by rw [List.getElem?_set_ne hij, hj]
    have e2 : (ρ.set i (some (.str u.text)))[i]? = some (some (.str u.text)) := by rw [List.getElem?_set_self hi]
    have e3 := look_img (L := L) (fun v hv => hU v ((h1 v).mp hv)) ((h1 u).mpr hu)
    have e4 : idxD (.dic (kys L) (L.map Th.d)) (.str u.text) σ = .ok u.d σ := by
      unfold idxD
      rw [view_dic]
      simp [dKey, e3]
    simp [e1, e2, e4]
  · rw [sortS_length, List.length_map]
    exact Nat.le_trans dd_len hl
theorem kys_strs (L : List Th) : strsOf ((kys L).map keyD) = some (L.map Th.text) := by
  rw [kys_keyD, strs_of_map]
theorem pairs_img : ∀ U : List Th, pairsOf (U.map fun t => .tup [.str t.text, t.d]) = some (U.map fun t => ((.inr t.text : Key), t.d))
  | [] => rfl
  | t :: r => by
    rw [List.map_cons, pairsOf]
    rw [pairs_img r]
    rfl
theorem r_law_sorted [LawA pr] {U : List Th} (hU : ∀ u ∈ U, u.ok = true) (hs : ∀ u ∈ U, u.sz ≤ 1000) (hl : U.length ≤ 1000) (k : Nat) (hk : ∀ u ∈ U, u.dp + 1 ≤ k) (σ : Store) : callK pr (k+1) 22 [.lst (U.map Th.d)] σ = .ok (.tup ((pcs U).map Th.d)) σ := by
  rw [callK_run (fd := b_law_sorted) LawA.law_sorted rfl]
  have hmap : ∀ t ∈ U, ev (callK pr k) (.tup [.call 18 [.loc 2] [] [] [0], .loc 2]) ([some (.lst (U.map Th.d)), none, none, none].set 2 (some t.d)) σ = .ok (.tup [.str t.text, t.d]) σ := by
    intro t ht
    have := r_ltext (pr := pr) t (hU t ht) (hs t ht) k (hk t ht) σ
    have hn := newT_ok (σ := σ) (show [D.str t.text, t.d].length ≤ lim by simp [lim_v])
    simp [this, hn]
  have hc := compL_mapT Th.d (fun t => .tup [.str t.text, t.d]) hmap (by rw [lim_v]; omega)
  have hn := newL_f (σ := σ) (show (U.map fun t => D.tup [.str t.text, t.d]).length ≤ lim by rw [List.length_map, lim_v]; omega)
  obtain ⟨a, b, c⟩ := dd_all hU
  have hd : biD .dict false (.lst (U.map fun t => D.tup [.str t.text, t.d])) σ = .ok (.dic (kys (dd U)) ((dd U).map Th.d)) σ := by
    unfold biD
    simp only [view_lst, pairs_img]
    rw [c, img_1, img_2]
    rfl
  have hdl := dd_len (U := U)
  have hn2 := newL_f (σ := σ) (show ((kys (dd U)).map keyD).length ≤ lim by unfold kys; rw [List.length_map, List.length_map, lim_v]; omega)
  have hso := bi_sorted (mu := false) (σ := σ) (kys_strs (dd U))
  have hn3 := newL_f (σ := σ) (show ((sortS ((dd U).map Th.text)).map D.str).length ≤ lim by rw [List.length_map, sortS_length, List.length_map, lim_v]; omega)
  rw [hn3] at hso
  have hb := by_keys (i := 3) (j := 1) (Φ := callK pr k) (ρ := [some (.lst (U.map Th.d)), some (.dic (kys (dd U)) ((dd U).map Th.d)), none, none]) (σ := σ) hU a b (by decide) rfl (by simp) (by rw [lim_v]; omega)
  have hpl := pcs_len (U := U)
  have hn4 := newL_f (σ := σ) (show ((pcs U).map Th.d).length ≤ lim by rw [List.length_map, lim_v]; omega)
  have hn5 := newT_ok (σ := σ) (show ((pcs U).map Th.d).length ≤ lim by rw [List.length_map, lim_v]; omega)
  simp [b_law_sorted, hc, hn, hd, hn2, hso, hb, hn4, hn5, leave_same, -List.map_map]
end Iv

set_option Elab.async false
set_option linter.all false
set_option maxHeartbeats 4000000
set_option maxRecDepth 20000

namespace Iv
open PySem L2
variable {pr : List Fd} [Things pr]
def parts : Th → List Th
  | .leaf _ => []
  | .node _ ps => ps
theorem units_node (w : Str) (ps : List Th) : (Th.node w ps).units = .node w ps :: Th.unitss ps := by rw [Th.units]
theorem sz_node (w : Str) (ps : List Th) : (Th.node w ps).sz = 1 + Th.szs ps := by rw [Th.sz]
theorem dp_node (w : Str) (ps : List Th) : (Th.node w ps).dp = 1 + Th.dps ps := by rw [Th.dp]
theorem parts_node (w : Str) (ps : List Th) : parts (.node w ps) = ps := rfl
theorem unitss_mem : ∀ {ps : List Th} {u : Th}, u ∈ Th.unitss ps ↔ ∃ p ∈ ps, u ∈ p.units
  | [], u => by unfold Th.unitss; simp
  | t :: r, u => by
    unfold Th.unitss
    rw [List.mem_append, unitss_mem]
    simp
theorem units_self (t : Th) : t ∈ t.units := by
  cases t <;> unfold Th.units <;> simp
theorem units_parts {t u : Th} : u ∈ t.units ↔ u = t ∨ ∃ p ∈ parts t, u ∈ p.units := by
  cases t with
  | leaf x => unfold Th.units parts; simp
  | node w ps => rw [units_node, List.mem_cons, unitss_mem, parts_node]
theorem units_trans (t : Th) : ∀ u ∈ t.units, ∀ v ∈ u.units, v ∈ t.units := by
  refine Th.ind (M := fun t => ∀ u ∈ t.units, ∀ v ∈ u.units, v ∈ t.units) (fun x => ?_) (fun w ps ih => ?_) t
  · intro u hu v hv
    unfold Th.units at hu
    rw [List.mem_singleton] at hu
    rw [hu] at hv
    exact hv
  · intro u hu v hv
    rcases units_parts.mp hu with e | ⟨p, hp, h⟩
    · rw [e] at hv; exact hv
    · exact units_parts.mpr (.inr ⟨p, hp, ih p hp u h v hv⟩)
theorem units_ok (t : Th) : t.ok = true → ∀ u ∈ t.units, u.ok = true ∧ u.sz ≤ t.sz ∧ u.dp ≤ t.dp := by
  refine Th.ind (M := fun t => t.ok = true → ∀ u ∈ t.units, u.ok = true ∧ u.sz ≤ t.sz ∧ u.dp ≤ t.dp) (fun x h u hu => ?_) (fun w ps ih h u hu => ?_) t
  · unfold Th.units at hu
    rw [List.mem_singleton] at hu
    rw [hu]; exact ⟨h, Nat.le_refl _, Nat.le_refl _⟩
  · rcases units_parts.mp hu with e | ⟨p, hp, h'⟩
    · rw [e]; exact ⟨h, Nat.le_refl _, Nat.le_refl _⟩
    · obtain ⟨_, ho, _⟩ := ok_parts h
      rw [parts_node] at hp
      obtain ⟨a, b, c⟩ := ih p hp (oks_mem ho hp) u h'
      have := szs_mem hp
      have := dps_mem hp
      rw [sz_node, dp_node]
      exact ⟨a, by omega, by omega⟩
theorem parts_szs (t : Th) : Th.szs (parts t) + 1 = t.sz := by
  cases t with
  | leaf x => unfold parts Th.szs Th.sz; rfl
  | node w ps => rw [parts_node, sz_node]; omega
theorem szs_app : ∀ a b : List Th, Th.szs (a ++ b) = Th.szs a + Th.szs b
  | [], b => by rw [List.nil_append]; simp [Th.szs]
  | t :: r, b => by rw [List.cons_append, Th.szs, Th.szs, szs_app r b]; omega
theorem r_parts (t : Th) (h : t.sz ≤ 1000) (k : Nat) (σ : Store) : callK pr (k+1) 3 [t.d] σ = .ok (.tup ((parts t).map Th.d)) σ := by
  cases t with
  | leaf x => rw [d_leaf]; exact r_parts_s k σ
  | node w ps =>
    have := plen h
    rw [d_node]
    exact r_parts_n (by rw [List.length_map, lim_v]; omega) k σ
/-- what holds at each turn -/
structure Inv (root : Th) (W F : List Th) : Prop where
  w : ∀ t ∈ W, t ∈ root.units
  f : ∀ t ∈ F, t ∈ root.units
  nd : (F.map Th.text).Nodup
  cl : ∀ t ∈ F, ∀ p ∈ parts t, p ∈ F ∨ p ∈ W
  rt : root ∈ F ∨ root ∈ W
theorem Inv.full {root : Th} {F : List Th} (h : Inv root [] F) : ∀ u, u ∈ F ↔ u ∈ root.units := by
  have go : ∀ t : Th, t ∈ F → ∀ u ∈ t.units, u ∈ F := by
    intro t
    refine Th.ind (M := fun t => t ∈ F → ∀ u ∈ t.units, u ∈ F) (fun x ht u hu => ?_) (fun w ps ih ht u hu => ?_) t
    · unfold Th.units at hu
      rw [List.mem_singleton] at hu
      rw [hu]; exact ht
    · rcases units_parts.mp hu with e | ⟨p, hp, h'⟩
      · rw [e]; exact ht
      · rcases h.cl _ ht p hp with a | a
        · exact ih p hp a u h'
        · cases a
  intro u
  refine ⟨h.f u, fun hu => ?_⟩
  rcases h.rt with a | a
  · exact go root a u hu
  · cases a
theorem Inv.step {root : Th} {W F : List Th} {t : Th} (ho : root.ok = true) (h : Inv root (W ++ [t]) F) : (t.text ∈ F.map Th.text → Inv root W F) ∧ (t.text ∉ F.map Th.text → Inv root (W ++ parts t) (F ++ [t])) := by
  have hok := units_ok root ho
  have htr : t ∈ root.units := h.w t (by simp)
  constructor
  · intro hm
    obtain ⟨v, hv, e⟩ := List.mem_map.mp hm
    have e := text_inj (hok v (h.f v hv)).1 (hok t htr).1 e
    rw [e] at hv
    refine ⟨fun u hu => h.w u (by simp [hu]), h.f, h.nd, fun u hu p hp => ?_, ?_⟩
    · rcases h.cl u hu p hp with a | a
      · exact .inl a
      · rcases List.mem_append.mp a with a | a
        · exact .inr a
        · rw [List.mem_singleton] at a; rw [a]; exact .inl hv
    · rcases h.rt with a | a
      · exact .inl a
      · rcases List.mem_append.mp a with a | a
        · exact .inr a
        · rw [List.mem_singleton] at a; rw [a]; exact .inl hv
  · intro hm
    refine ⟨fun u hu => ?_, fun u hu => ?_, ?_, fun u hu p hp => ?_, ?_⟩
    · rcases List.mem_append.mp hu with a | a
      · exact h.w u (by simp [a])
      · exact units_trans root t htr u (units_parts.mpr (.inr ⟨u, a, units_self u⟩))
    · rcases List.mem_append.mp hu with a | a
      · exact h.f u a
      · rw [List.mem_singleton] at a; rw [a]; exact htr
    · have := nodup_ins (t := t) h.nd
      unfold ins at this
      rw [if_neg hm] at this
      exact this
    · rcases List.mem_append.mp hu with a | a
      · rcases h.cl u a p hp with b | b
        · exact .inl (by simp [b])
        · rcases List.mem_append.mp b with b | b
          · exact .inr (by simp [b])
          · rw [List.mem_singleton] at b; rw [b]; exact .inl (by simp)
      · rw [List.mem_singleton] at a; rw [a] at hp; exact .inr (by simp [hp])
    · rcases h.rt with a | a
      · exact .inl (by simp [a])
      · rcases List.mem_append.mp a with a | a
        · exact .inr (by simp [a])
        · rw [List.mem_singleton] at a; rw [a]; exact .inl (by simp)
section
variable {σ : Store} {A B C : Cell}
theorem at0 : (σ ++ [A, B])[σ.length]? = some A := by simp
theorem at1 : (σ ++ [A, B])[σ.length + 1]? = some B := by rw [List.getElem?_append_right (by omega)]; simp
theorem set0 : (σ ++ [A, B]).set σ.length C = σ ++ [C, B] := by rw [List.set_append_right _ _ (Nat.le_refl _)]; simp
theorem set1 : (σ ++ [A, B]).set (σ.length + 1) C = σ ++ [A, C] := by rw [List.set_append_right _ _ (by omega)]; simp
end
theorem sim_th (t : Th) : t.ok = true → D.sim true t.d = true ∧ t.d.dp = t.dp ∧ t.d.wt + 2 ≤ 100 * t.sz := by
  refine Th.ind (M := fun t => t.ok = true → D.sim true t.d = true ∧ t.d.dp = t.dp ∧ t.d.wt + 2 ≤ 100 * t.sz) (fun x h => ?_) (fun w ps ih h => ?_) t
  · unfold Th.ok at h
    have := gd_len h
    rw [d_leaf]
    unfold D.sim D.dp D.wt Th.dp Th.sz
    exact ⟨strok h, rfl, by omega⟩
  · obtain ⟨hg, ho, _⟩ := ok_parts h
    have hl := gd_len hg
    rw [d_node]
    have hs : ∀ ps : List Th, (∀ t ∈ ps, t.ok = true → D.sim true t.d = true ∧ t.d.dp = t.dp ∧ t.d.wt + 2 ≤ 100 * t.sz) → Th.oks ps = true → D.sims true (ps.map Th.d) = true ∧ D.dps (ps.map Th.d) = Th.dps ps ∧ D.wts (ps.map Th.d) ≤ 100 * Th.szs ps := by
      intro ps
      induction ps with
      | nil => intro _ _; unfold List.map D.sims D.dps D.wts Th.dps Th.szs; exact ⟨rfl, rfl, by omega⟩
      | cons t r ih =>
        intro h1 h2
        unfold Th.oks at h2
        rw [Bool.and_eq_true] at h2
        obtain ⟨a1, a2, a3⟩ := h1 t List.mem_cons_self h2.1
        obtain ⟨b1, b2, b3⟩ := ih (fun u hu => h1 u (List.mem_cons_of_mem _ hu)) h2.2
        rw [List.map_cons, D.sims, D.dps, D.wts, Th.dps, Th.szs, a1, a2, b1, b2]
        exact ⟨rfl, rfl, by omega⟩
    obtain ⟨a1, a2, a3⟩ := hs ps ih ho
    have x1 : D.sim true (.str w) = true := by unfold D.sim; exact strok hg
    have x2 : (D.str w).dp = 0 := by unfold D.dp; rfl
    have x3 : (D.str w).wt = 10 * w.length + 2 := by unfold D.wt; rfl
    rw [D.sim, D.sims, D.dp, D.dps, D.wt, D.wts, x1, x2, x3, a1, a2, sz_node, dp_node, Nat.zero_max, Nat.add_comm 1]
    exact ⟨rfl, rfl, by omega⟩
end Iv

set_option Elab.async false
set_option linter.all false
set_option maxHeartbeats 4000000
set_option maxRecDepth 20000

namespace Iv
open PySem L2
variable {pr : List Fd} [Things pr]
theorem c_notin {n : Nat} {ks : List Key} {vs : List D} {x : Str} {σ : Store} (h : σ[n]? = some (.dic ks vs)) : cmpD .notin (.str x) (.ref n) σ = .ok (.bl (!(look ks vs (.inr x)).isSome)) σ := by
  unfold cmpD
  rw [view_celld h]
  rfl
theorem whl_step {c : Iv.Env → Store → Res D} {b : Iv.Env → Store → Out} {n : Nat} {ρ ρ2 : Iv.Env} {σ σ1 σ2 : Store} (h : c ρ σ = .ok (.bl true) σ1) (h2 : b ρ σ1 = .nx ρ2 σ2) : whlN c b (n + 1) ρ σ = whlN c b n ρ2 σ2 := by
  rw [whlN, h]
  simp [h2]
theorem whl_end {c : Iv.Env → Store → Res D} {b : Iv.Env → Store → Out} {n : Nat} {ρ : Iv.Env} {σ σ1 : Store} (h : c ρ σ = .ok (.bl false) σ1) : whlN c b (n + 1) ρ σ = .nx ρ σ1 := by
  rw [whlN, h]
  simp
def w_cond : Ex := .cmp .ne (.loc 2) (.lst false [])
def w_body : List Stt := [.asg (.nm 3) (.me .pop (.loc 2) []), .asg (.nm 4) (.call 4 [.loc 3] [] [] [0]), .ite (.cmp .notin (.loc 4) (.loc 1)) [.put (.loc 1) (.loc 4) (.loc 3), .exp (.me .extend (.loc 2) [.bi .list false (.call 3 [.loc 3] [] [] [0])])] []]
theorem r_loop {root : Th} (ho : root.ok = true) (hsz : root.sz ≤ 1000) (hd : root.dp ≤ 60) {k : Nat} (hk : root.dp + 2 ≤ k) {σ : Store} {d0 : D} : ∀ (n fuel : Nat) (W F : List Th) (a b : Option D), Th.szs W ≤ n → Th.szs W + F.length ≤ 2000 → n < fuel → Inv root W F →
    ∃ F' a' b', whlN (ev (callK pr k) w_cond) (exs (callK pr k) w_body) fuel [some d0, some (.ref σ.length), some (.ref (σ.length + 1)), a, b] (σ ++ [.dic (kys F) (F.map Th.d), .lst (W.map Th.d)]) = .nx [some d0, some (.ref σ.length), some (.ref (σ.length + 1)), a', b'] (σ ++ [.dic (kys F') (F'.map Th.d), .lst []]) ∧ Inv root [] F' := by
  have hok := units_ok root ho
  have hcond : ∀ (W F : List Th) (a b : Option D), (∀ t ∈ W, t ∈ root.units) → ev (callK pr k) w_cond [some d0, some (.ref σ.length), some (.ref (σ.length + 1)), a, b] (σ ++ [.dic (kys F) (F.map Th.d), .lst (W.map Th.d)]) = .ok (.bl (!W.isEmpty)) (σ ++ [.dic (kys F) (F.map Th.d), .lst (W.map Th.d)]) := by
    intro W F a b h
    have hv := view_cell (σ := σ ++ [.dic (kys F) (F.map Th.d), .lst (W.map Th.d)]) (n := σ.length + 1) at1
    have hc := c_nenil (b := true) (x := .ref (σ.length + 1)) hv (sims_map fun t ht => (sim_th t (hok t (h t ht)).1).1) (Nat.le_trans (dps_map (n := 60) fun t ht => by
      obtain ⟨o, _, d⟩ := hok t (h t ht)
      have := (sim_th t o).2.1
      omega) (by decide))
    have hn := newL_f (σ := σ ++ [.dic (kys F) (F.map Th.d), .lst (W.map Th.d)]) (show ([] : List D).length ≤ lim from Nat.zero_le _)
    rw [map_isEmpty] at hc
    simp [w_cond, hn, hc]
  intro n
  induction n with
  | zero =>
    intro fuel W F a b hn _ hf hI
    obtain ⟨fuel, rfl⟩ : ∃ j, fuel = j + 1 := ⟨fuel - 1, by omega⟩
    have : W = [] := by
      cases W with
      | nil => rfl
      | cons t r => rw [Th.szs] at hn; have := sz_pos t; omega
    subst this
    exact ⟨F, a, b, whl_end (hcond [] F a b (fun t h => by cases h)), hI⟩
  | succ n ih =>
    intro fuel W F a b hn hl hf hI
    obtain ⟨fuel, rfl⟩ : ∃ j, fuel = j + 1 := ⟨fuel - 1, by omega⟩
    have hc := hcond W F a b hI.w
    rcases List.eq_nil_or_concat W with e | ⟨W', t, e⟩
    · subst e
      exact ⟨F, a, b, whl_end hc, hI⟩
    · rw [List.concat_eq_append] at e
      subst e
      obtain ⟨s1, s2⟩ := hI.step ho
      obtain ⟨to, ts, td⟩ := hok t (hI.w t (by simp))
      have hs := szs_app W' [t]
      have hs1 : Th.szs [t] = t.sz := by rw [Th.szs, Th.szs]; rfl
      have hs2 := parts_szs t
      have hs3 := szs_app W' (parts t)
      have hs4 := szs_len W'
      have hs5 := szs_len (parts t)
      have e1 : (!(W' ++ [t]).isEmpty) = true := by simp
      rw [e1] at hc
      rw [List.map_append] at hc ⊢
      have p1 := me_pop (σ := σ ++ [.dic (kys F) (F.map Th.d), .lst (W'.map Th.d ++ [t].map Th.d)]) (n := σ.length + 1) (xs := W'.map Th.d) (d := t.d) at1
      rw [set1] at p1
      have v1 := view_cell (σ := σ ++ [.dic (kys F) (F.map Th.d), .lst (W'.map Th.d ++ [t].map Th.d)]) (n := σ.length + 1) at1
      have tx := r_text (pr := pr) t to (by omega) k (by omega) (σ ++ [.dic (kys F) (F.map Th.d), .lst (W'.map Th.d)])
      have cn := c_notin (σ := σ ++ [.dic (kys F) (F.map Th.d), .lst (W'.map Th.d)]) (x := t.text) at0
      rw [look_is] at cn
      by_cases hm : t.text ∈ F.map Th.text
      · have hb : exs (callK pr k) w_body [some d0, some (.ref σ.length), some (.ref (σ.length + 1)), a, b] (σ ++ [.dic (kys F) (F.map Th.d), .lst (W'.map Th.d ++ [t].map Th.d)]) = .nx [some d0, some (.ref σ.length), some (.ref (σ.length + 1)), some t.d, some (.str t.text)] (σ ++ [.dic (kys F) (F.map Th.d), .lst (W'.map Th.d)]) := by
          rw [decide_eq_true hm] at cn
          simp only [List.map_cons, List.map_nil] at p1 v1 ⊢
          simp [w_body, v1, p1, tx, cn]
        rw [whl_step hc hb]
        exact ih fuel W' F _ _ (by have := sz_pos t; omega) (by omega) (by omega) (s1 hm)
      · have hb : exs (callK pr k) w_body [some d0, some (.ref σ.length), some (.ref (σ.length + 1)), a, b] (σ ++ [.dic (kys F) (F.map Th.d), .lst (W'.map Th.d ++ [t].map Th.d)]) = .nx [some d0, some (.ref σ.length), some (.ref (σ.length + 1)), some t.d, some (.str t.text)] (σ ++ [.dic (kys (F ++ [t])) ((F ++ [t]).map Th.d), .lst ((W' ++ parts t).map Th.d)]) := by
          rw [decide_eq_false hm] at cn
          have pd := put_dic (σ := σ ++ [.dic (kys F) (F.map Th.d), .lst (W'.map Th.d)]) (x := t.text) (d := t.d) at0 (by unfold kys; rw [List.length_map, lim_v]; omega)
          have hins : ins F t = F ++ [t] := by unfold ins; rw [if_neg hm]
          rw [zip_img, putD_img (fun u hu => (hok u (hI.f u hu)).1) to, hins, img_1, img_2, set0] at pd
          obtain ⟨k, rfl⟩ : ∃ j, k = j + 1 := ⟨k - 1, by omega⟩
          have rp := r_parts (pr := pr) t (by omega) k (σ ++ [.dic (kys (F ++ [t])) ((F ++ [t]).map Th.d), .lst (W'.map Th.d)])
          have nl := newL_f (σ := σ ++ [.dic (kys (F ++ [t])) ((F ++ [t]).map Th.d), .lst (W'.map Th.d)]) (xs := (parts t).map Th.d) (by rw [List.length_map, lim_v]; omega)
          have me := me_ext (σ := σ ++ [.dic (kys (F ++ [t])) ((F ++ [t]).map Th.d), .lst (W'.map Th.d)]) (n := σ.length + 1) (ys := (parts t).map Th.d) at1 (by rw [List.length_map, List.length_map, lim_v]; omega)
          rw [set1] at me
          have v2 := view_cell (σ := σ ++ [.dic (kys (F ++ [t])) ((F ++ [t]).map Th.d), .lst (W'.map Th.d)]) (n := σ.length + 1) at1
          rw [List.map_append (l₁ := W')]
          generalize (F ++ [t]).map Th.d = V at *
          simp only [List.map_cons, List.map_nil] at p1 v1 ⊢
          simp [w_body, v1, p1, tx, cn, pd, rp, nl, v2, me]
        rw [whl_step hc hb]
        exact ih fuel (W' ++ parts t) (F ++ [t]) _ _ (by omega) (by rw [List.length_append, List.length_singleton]; omega) (by omega) (s2 hm)
end Iv

set_option Elab.async false
set_option linter.all false
set_option maxHeartbeats 4000000
set_option maxRecDepth 20000

namespace Iv
open PySem L2
variable {pr : List Fd} [Things pr]
mutual
theorem sim_under {b : Bool} {n : Nat} : ∀ d : D, D.sim b d = true → d.under n = true
  | .non, _ => by unfold D.under; rfl
  | .bl _, _ => by unfold D.under; rfl
  | .int _, _ => by unfold D.under; rfl
  | .str _, _ => by unfold D.under; rfl
  | .tup xs, h => by unfold D.sim at h; unfold D.under; exact sims_under xs h
  | .lst xs, h => by unfold D.sim at h; unfold D.under; exact sims_under xs h
  | .dic _ _, h => by simp [D.sim] at h
  | .set _, h => by simp [D.sim] at h
  | .ro _, h => by simp [D.sim] at h
  | .ref _, h => by simp [D.sim] at h
theorem sims_under {b : Bool} {n : Nat} : ∀ ds : List D, D.sims b ds = true → D.unders n ds = true
  | [], _ => by unfold D.unders; rfl
  | d :: ds, h => by
    unfold D.sims at h
    rw [Bool.and_eq_true] at h
    unfold D.unders
    rw [sim_under d h.1, sims_under ds h.2]; rfl
end
theorem leave_own {b : Bool} {σ ext : Store} {d : D} (h : D.sim b d = true) : leave σ d (σ ++ ext) = .ok d σ :=
  leave_app rfl (sim_under d h) fun _ _ e => .inl e
theorem whole (fuel : 1000 < whFuel) : True := trivial
theorem fuel_ok : 1000 < whFuel := by unfold whFuel; decide
theorem r_pieces_in {root : Th} (ho : root.ok = true) (hsz : root.sz ≤ 1000) (hd : root.dp ≤ 60) (k : Nat) (hk : root.dp + 3 ≤ k) (σ : Store) : callK pr k 5 [.lst [root.d]] σ = .ok (.tup ((pcs root.units).map Th.d)) σ := by
  obtain ⟨k, rfl⟩ : ∃ j, k = j + 1 := ⟨k - 1, by omega⟩
  have hok := units_ok root ho
  have hlen := units_len root
  rw [callK_run (fd := b_pieces_in) Things.pieces_in rfl]
  obtain ⟨F, a, b, hw, hI⟩ := r_loop (pr := pr) ho hsz hd (k := k) (by omega) (σ := σ) (d0 := .lst [root.d]) 1000 whFuel [root] [] none none (by rw [Th.szs, Th.szs]; omega) (by rw [Th.szs, Th.szs]; simp; omega) fuel_ok
    ⟨fun t ht => by rw [List.mem_singleton] at ht; rw [ht]; exact units_self root, fun t ht => (by cases ht), List.nodup_nil, fun t ht => (by cases ht), .inr (by simp)⟩
  have hfull := hI.full
  have hFl : F.length ≤ 1000 := by
    have h1 : (dd root.units).length ≤ root.units.length := dd_len
    have h2 := keys_same (fun u hu => (hok u hu).1) hfull hI.nd
    have h3 := congrArg List.length h2
    rw [sortS_length, sortS_length, List.length_map, List.length_map] at h3
    omega
  have e1 : ∀ σ : Store, newD true ((mergeD [] []).map (·.1)) ((mergeD [] []).map (·.2)) σ = .ok (.ref σ.length) (σ ++ [.dic [] []]) := fun σ => rfl
  have e2 : newL true [root.d] (σ ++ [.dic [] []]) = .ok (.ref (σ.length + 1)) (σ ++ [.dic [] [], .lst [root.d]]) := by
    rw [newL_t (by simp [lim_v])]
    simp
  have hb := by_keys (i := 4) (j := 1) (Φ := callK pr k) (ρ := [some (.lst [root.d]), some (.dic (kys F) (F.map Th.d)), some (.ref (σ.length + 1)), a, none]) (σ := σ ++ [.dead, .lst []]) (U := root.units) (fun u hu => (hok u hu).1) hfull hI.nd (by decide) rfl (by simp) (by rw [lim_v]; omega)
  have hso := bi_sortedd (mu := false) (xs := F.map Th.d) (σ := σ ++ [.dead, .lst []]) (kys_strs F)
  rw [newL_f (by rw [List.length_map, sortS_length, List.length_map, lim_v]; omega)] at hso
  have hpl := pcs_len (U := root.units)
  have hn4 := newL_f (σ := σ ++ [.dead, .lst []]) (show ((pcs root.units).map Th.d).length ≤ lim by rw [List.length_map, lim_v]; omega)
  have hn5 := newT_ok (σ := σ ++ [.dead, .lst []]) (show ((pcs root.units).map Th.d).length ≤ lim by rw [List.length_map, lim_v]; omega)
  have hsim : D.sim true (.tup ((pcs root.units).map Th.d)) = true := by
    unfold D.sim
    exact sims_map fun t ht => (sim_th t (hok t ((mem_pcs fun u hu => (hok u hu).1).mp ht)).1).1
  have hlv := leave_own (σ := σ) (ext := [.dead, .lst []]) hsim
  have hset := set0 (σ := σ) (A := .dic (kys F) (F.map Th.d)) (B := .lst []) (C := .dead)
  have hat := at0 (σ := σ) (A := .dic (kys F) (F.map Th.d)) (B := .lst [])
  have hw' : whlN (ev (callK pr k) (.cmp .ne (.loc 2) (.lst false []))) (exs (callK pr k) w_body) whFuel [some (.lst [root.d]), some (.ref σ.length), some (.ref (σ.length + 1)), none, none] (σ ++ [.dic [] [], .lst [root.d]]) = .nx [some (.lst [root.d]), some (.ref σ.length), some (.ref (σ.length + 1)), a, b] (σ ++ [.dic (kys F) (F.map Th.d), .lst []]) := hw
  have hbody : b_pieces_in.body = [.asg (.nm 1) (.dic true []), .asg (.nm 2) (.lst true [.star (.loc 0)]), .whl (.cmp .ne (.loc 2) (.lst false [])) w_body, .frz 1, .ret (.bi .tuple false (.comp false [4] (.nm 4) .on [.bi .sorted false (.loc 1)] (.bl true) (.idx (.loc 1) (.loc 4))))] := rfl
  have hns : b_pieces_in.ns = 5 := rfl
  rw [hbody, hns]
  simp [pairUp, e1, e2, hw', hat, hset, hso, hb, hn4, hn5, hlv, -List.map_map, -ev_cmp]
theorem r_pieces_of {root : Th} (ho : root.ok = true) (hsz : root.sz ≤ 1000) (hd : root.dp ≤ 60) (k : Nat) (hk : root.dp + 4 ≤ k) (σ : Store) : callK pr k 6 [root.d] σ = .ok (.tup ((pcs root.units).map Th.d)) σ := by
  obtain ⟨k, rfl⟩ : ∃ j, k = j + 1 := ⟨k - 1, by omega⟩
  have h := r_pieces_in (pr := pr) ho hsz hd k (by omega) σ
  have hn := newL_f (σ := σ) (show [root.d].length ≤ lim by simp [lim_v])
  rw [callK_run (fd := b_pieces_of) Things.pieces_of rfl]
  simp [b_pieces_of, h, hn, leave_same, -List.map_map]
theorem r_names {root : Th} (ho : root.ok = true) (hsz : root.sz ≤ 1000) (hd : root.dp ≤ 60) (k : Nat) (hk : root.dp + 5 ≤ k) (σ : Store) : callK pr k 8 [root.d] σ = .ok (.tup (((pcs root.units).filter isN).map Th.d)) σ := by
  obtain ⟨k, rfl⟩ : ∃ j, k = j + 3 := ⟨k - 3, by omega⟩
  have hok := units_ok root ho
  have h := r_pieces_of (pr := pr) ho hsz hd (k+2) (by omega) σ
  have hpl := pcs_len (U := root.units)
  have hlen := units_len root
  rw [callK_run (fd := b_names_in) Things.names_in rfl]
  have hc := compL_fT (t := .nm 1) (ρ := [some root.d, none]) (σ := σ) (c := ev (callK pr (k+2)) (.call 2 [.loc 1] [] [] [0])) (elt := ev (callK pr (k+2)) (.loc 1)) Th.d isN Th.d (xs := pcs root.units) (acc := []) (fun t ht => by
    have hi := r_is_name (pr := pr) t (hok t ((mem_pcs fun u hu => (hok u hu).1).mp ht)).1 k σ
    exact ⟨_, rfl, by simp [hi], fun _ => by simp⟩) (by rw [lim_v, List.length_nil]; omega)
  have hfl := List.length_filter_le isN (pcs root.units)
  rw [List.nil_append] at hc
  have hn4 := newL_f (σ := σ) (show (((pcs root.units).filter isN).map Th.d).length ≤ lim by rw [List.length_map, lim_v]; omega)
  have hn5 := newT_ok (σ := σ) (show (((pcs root.units).filter isN).map Th.d).length ≤ lim by rw [List.length_map, lim_v]; omega)
  simp [b_names_in, h, hc, hn4, hn5, leave_same, -List.map_map]
theorem r_words {root : Th} (ho : root.ok = true) (hsz : root.sz ≤ 1000) (hd : root.dp ≤ 60) (k : Nat) (hk : root.dp + 5 ≤ k) (σ : Store) : callK pr k 9 [root.d] σ = .ok (.tup (((pcs root.units).filter isW).map Th.d)) σ := by
  obtain ⟨k, rfl⟩ : ∃ j, k = j + 3 := ⟨k - 3, by omega⟩
  have hok := units_ok root ho
  have h := r_pieces_of (pr := pr) ho hsz hd (k+2) (by omega) σ
  have hpl := pcs_len (U := root.units)
  have hlen := units_len root
  rw [callK_run (fd := b_words_in) Things.words_in rfl]
  have hc := compL_fT (t := .nm 1) (ρ := [some root.d, none]) (σ := σ) (c := ev (callK pr (k+2)) (.call 1 [.loc 1] [] [] [0])) (elt := ev (callK pr (k+2)) (.loc 1)) Th.d isW Th.d (xs := pcs root.units) (acc := []) (fun t ht => by
    have hi := r_is_word (pr := pr) t (hok t ((mem_pcs fun u hu => (hok u hu).1).mp ht)).1 k σ
    exact ⟨_, rfl, by simp [hi], fun _ => by simp⟩) (by rw [lim_v, List.length_nil]; omega)
  have hfl := List.length_filter_le isW (pcs root.units)
  rw [List.nil_append] at hc
  have hn4 := newL_f (σ := σ) (show (((pcs root.units).filter isW).map Th.d).length ≤ lim by rw [List.length_map, lim_v]; omega)
  have hn5 := newT_ok (σ := σ) (show (((pcs root.units).filter isW).map Th.d).length ≤ lim by rw [List.length_map, lim_v]; omega)
  simp [b_words_in, h, hc, hn4, hn5, leave_same, -List.map_map]
end Iv

set_option Elab.async false
set_option linter.all false
set_option maxHeartbeats 4000000
set_option maxRecDepth 20000

namespace Iv
open PySem L2
variable {pr : List Fd} [Things pr]
def isL : Th → Bool
  | .leaf _ => true
  | .node _ _ => false
theorem nodup_ed (xs : List Str) : xs.eraseDups.Nodup := by
  have go : ∀ (n : Nat) (xs : List Str), xs.length ≤ n → xs.eraseDups.Nodup := by
    intro n
    induction n with
    | zero =>
      intro xs h
      have : xs = [] := List.eq_nil_of_length_eq_zero (by omega)
      rw [this]
      exact List.nodup_nil
    | succ n ih =>
      intro xs h
      cases xs with
      | nil => exact List.nodup_nil
      | cons x r =>
        rw [List.eraseDups_cons, List.nodup_cons]
        rw [List.length_cons] at h
        refine ⟨fun hm => ?_, ih _ (Nat.le_trans (List.length_filter_le _ _) (by omega))⟩
        rw [List.mem_eraseDups, List.mem_filter] at hm
        simp at hm
  exact go xs.length xs (Nat.le_refl _)
theorem names_eq {U : List Th} (hU : ∀ u ∈ U, u.ok = true) (p : Th → Bool) (hp : ∀ t, p t = true → isL t = true) :
    (sortS (((U.filter isL).filter p).map Th.text).eraseDups).map D.str = ((pcs U).filter p).map Th.d := by
  obtain ⟨a, b, _⟩ := dd_all hU
  have e1 : ((pcs U).filter p).map Th.d = ((sortS ((dd U).map Th.text)).filter fun k => p (th U k)).map D.str := by
    unfold pcs
    rw [List.filter_map, List.map_map]
    refine List.map_congr_left fun k hk => ?_
    obtain ⟨h1, h2⟩ := List.mem_filter.mp hk
    obtain ⟨u, hu, rfl⟩ := List.mem_map.mp ((sortS_perm _).mem_iff.mp h1)
    have hu := (a u).mp hu
    dsimp only [Function.comp] at h2 ⊢
    rw [th_of hU hu] at h2 ⊢
    have := hp u h2
    cases u with
    | leaf x => rw [d_leaf]; unfold Th.text; rfl
    | node w ps => cases this
  rw [e1]
  congr 1
  have pw : ∀ xs, (sortS xs).Pairwise fun a b => sLe a b = true := fun xs => List.pairwise_mergeSort sLe_trans sLe_total xs
  refine List.Perm.eq_of_pairwise (le := fun a b => sLe a b = true) (fun _ _ _ _ => sLe_anti) (pw _) ((pw _).filter _) ?_
  have nd : (sortS ((dd U).map Th.text)).Nodup := (sortS_perm _).nodup_iff.mpr b
  refine (sortS_perm _).trans ((List.perm_ext_iff_of_nodup (nodup_ed _) (nd.filter _)).mpr fun k => ?_)
  rw [List.mem_eraseDups, List.mem_filter, (sortS_perm _).mem_iff, List.mem_map, List.mem_map]
  constructor
  · rintro ⟨u, hu, rfl⟩
    obtain ⟨h1, h2⟩ := List.mem_filter.mp hu
    have h3 := (List.mem_filter.mp h1).1
    exact ⟨⟨u, (a u).mpr h3, rfl⟩, by rw [th_of hU h3]; exact h2⟩
  · rintro ⟨⟨u, hu, rfl⟩, h⟩
    have hu := (a u).mp hu
    rw [th_of hU hu] at h
    exact ⟨u, List.mem_filter.mpr ⟨List.mem_filter.mpr ⟨hu, hp u h⟩, h⟩, rfl⟩
theorem n_leaf : ∀ t, isN t = true → isL t = true := by
  intro t h
  cases t with
  | leaf x => rfl
  | node w ps => cases h
theorem w_leaf : ∀ t, isW t = true → isL t = true := by
  intro t h
  cases t with
  | leaf x => rfl
  | node w ps => cases h
/-! putting a thing for a name -/
theorem th_put_all {n : Str} {o : Th} (ho : o.ok = true) (t : Th) : t.ok = true → (put n o t).ok = true ∧ (put n o t).sz ≤ t.sz * o.sz ∧ (put n o t).dp ≤ t.dp + o.dp := by
  refine Th.ind (M := fun t => t.ok = true → (put n o t).ok = true ∧ (put n o t).sz ≤ t.sz * o.sz ∧ (put n o t).dp ≤ t.dp + o.dp) (fun x h => ?_) (fun w ps ih h => ?_) t
  · rw [put_leaf]
    have := sz_pos o
    split
    · exact ⟨ho, by rw [Th.sz]; omega, by omega⟩
    · exact ⟨h, by rw [Th.sz]; omega, by rw [Th.dp]; omega⟩
  · obtain ⟨hg, hp, hn⟩ := ok_parts h
    have hs : ∀ ps : List Th, (∀ t ∈ ps, t.ok = true → (put n o t).ok = true ∧ (put n o t).sz ≤ t.sz * o.sz ∧ (put n o t).dp ≤ t.dp + o.dp) → Th.oks ps = true → Th.oks (ps.map (put n o)) = true ∧ Th.szs (ps.map (put n o)) ≤ Th.szs ps * o.sz ∧ Th.dps (ps.map (put n o)) ≤ Th.dps ps + o.dp := by
      intro ps
      induction ps with
      | nil => intro _ _; exact ⟨by rw [List.map_nil, Th.oks], by rw [List.map_nil, Th.szs]; omega, by rw [List.map_nil, Th.dps]; omega⟩
      | cons t r ih =>
        intro h1 h2
        rw [Th.oks, Bool.and_eq_true] at h2
        obtain ⟨a1, a2, a3⟩ := h1 t List.mem_cons_self h2.1
        obtain ⟨b1, b2, b3⟩ := ih (fun u hu => h1 u (List.mem_cons_of_mem _ hu)) h2.2
        rw [List.map_cons, Th.oks, Th.szs, Th.szs, Th.dps, Th.dps, a1, b1, Nat.add_mul]
        exact ⟨rfl, by omega, by omega⟩
    obtain ⟨a1, a2, a3⟩ := hs ps ih hp
    rw [put_node, sz_node, sz_node, dp_node, dp_node, Th.ok, hg, a1, Nat.add_mul]
    have := sz_pos o
    refine ⟨?_, by omega, by omega⟩
    cases ps with
    | nil => exact absurd rfl hn
    | cons t r => rfl
theorem int_len : ∀ n : Nat, n < 101 → ((toString (n : Int) : String) : Str).length ≤ 10 := by decide +kernel
end Iv

set_option Elab.async false
set_option linter.all false
set_option maxHeartbeats 4000000
set_option maxRecDepth 20000

namespace Iv
open PySem L2
variable {pr : List Fd} [Things pr]
section
variable {σ : Store} {A C : Cell}
theorem atA : (σ ++ [A])[σ.length]? = some A := by simp
theorem setA : (σ ++ [A]).set σ.length C = σ ++ [C] := by rw [List.set_append_right _ _ (Nat.le_refl _)]; simp
end
theorem b_mull {xs : List D} {σ : Store} : binD .mul (.lst xs) (.int 2) σ = newL false (xs ++ xs) σ := by
  unfold binD
  simp [List.replicate]
def due (t : Th) : D := .lst [.str t.text, .tup ((pcs t.units).map Th.d), .int t.sz, .tup (((pcs t.units).filter isN).map Th.d), .tup (((pcs t.units).filter isW).map Th.d)]
theorem due_ok {t : Th} (ho : t.ok = true) (hsz : t.sz ≤ 100) (hd : t.dp ≤ 20) : D.sim true (due t) = true ∧ (due t).wt ≤ 5000000 ∧ (due t).dp ≤ 50 := by
  have hok := units_ok t ho
  have hm : ∀ {u : Th}, u ∈ pcs t.units ↔ u ∈ t.units := mem_pcs (U := t.units) (fun u hu => (hok u hu).1)
  have hl := pcs_len (U := t.units)
  rw [units_len] at hl
  have hT := text_len t ho
  have hI := int_len t.sz (by omega)
  have go : ∀ p : Th → Bool, D.sim true (.tup (((pcs t.units).filter p).map Th.d)) = true ∧ D.wt (.tup (((pcs t.units).filter p).map Th.d)) ≤ 1000003 ∧ D.dp (.tup (((pcs t.units).filter p).map Th.d)) ≤ 21 := by
    intro p
    have hu : ∀ u ∈ (pcs t.units).filter p, u.ok = true ∧ u.sz ≤ t.sz ∧ u.dp ≤ t.dp := fun u h => hok u (hm.mp (List.mem_filter.mp h).1)
    have hfl := List.length_filter_le p (pcs t.units)
    unfold D.sim D.wt D.dp
    refine ⟨sims_map fun u h => (sim_th u (hu u h).1).1, ?_, ?_⟩
    · have h1 := wts_map (n := 10000) (f := Th.d) (xs := (pcs t.units).filter p) fun u h => by
        have := (sim_th u (hu u h).1).2.2
        have := (hu u h).2.1
        omega
      have : ((pcs t.units).filter p).length * 10000 ≤ 100 * 10000 := Nat.mul_le_mul_right _ (by omega)
      omega
    · have h1 := dps_map (n := 20) (f := Th.d) (xs := (pcs t.units).filter p) fun u h => by
        have := (sim_th u (hu u h).1).2.1
        have := (hu u h).2.2
        omega
      omega
  have g0 := go (fun _ => true)
  rw [List.filter_eq_self.mpr fun _ _ => rfl] at g0
  have g1 := go isN
  have g2 := go isW
  have htx : D.sim true (.str t.text) = true := by
    unfold D.sim PyData.strOk
    rw [← Array.all_toList, List.all_eq_true, text_l]
    have hlc : ∀ u : Th, u.ok = true → ∀ c ∈ u.l, c < 123 := by
      intro u
      refine Th.ind (M := fun u => u.ok = true → ∀ c ∈ u.l, c < 123) (fun x h c hc => ?_) (fun w ps ih h c hc => ?_) u
      · unfold Th.ok at h
        unfold Th.l at hc
        exact gd_ch h c hc
      · obtain ⟨hg, hp, _⟩ := ok_parts h
        rw [Th.l, List.mem_append, List.mem_cons, List.mem_append, List.mem_singleton] at hc
        have hlr : ∀ ps : List Th, (∀ t ∈ ps, t.ok = true → ∀ c ∈ t.l, c < 123) → Th.oks ps = true → ∀ c ∈ Th.lr ps, c < 123 := by
          intro ps
          induction ps with
          | nil => intro _ _ c hc; rw [Th.lr] at hc; cases hc
          | cons t r ihr =>
            intro h1 h2 c hc
            rw [Th.oks, Bool.and_eq_true] at h2
            rw [lr_cons, List.mem_cons, List.mem_append] at hc
            rcases hc with e | e | e
            · omega
            · exact h1 t List.mem_cons_self h2.1 c e
            · exact ihr (fun u hu => h1 u (List.mem_cons_of_mem _ hu)) h2.2 c e
        rcases hc with e | e | e | e
        · exact gd_ch hg c e
        · omega
        · cases ps with
          | nil => rw [Th.ls] at e; cases e
          | cons t r => rw [ls_cons] at e; exact hlr (t :: r) ih hp c (by rw [lr_cons]; exact List.mem_cons_of_mem _ e)
        · omega
    intro c hc
    have := hlc t ho c hc
    rw [decide_eq_true_eq]
    omega
  have hin : D.sim true (.int (t.sz : Int)) = true := by
    unfold D.sim
    have h2 : t.sz.log2 < 1920 := by
      rcases Nat.eq_zero_or_pos t.sz with e | e
      · rw [e]; decide
      · exact Nat.lt_of_lt_of_le ((Nat.log2_lt (by omega)).mpr (show t.sz < 2 ^ 7 by omega)) (by decide)
    simp [h2]
  refine ⟨?_, ?_, ?_⟩
  · unfold due D.sim
    rw [D.sims, D.sims, D.sims, D.sims, D.sims, D.sims, htx, hin, g0.1, g1.1, g2.1]
    rfl
  · unfold due D.wt
    rw [D.wts, D.wts, D.wts, D.wts, D.wts, D.wts]
    have e1 : (D.str t.text).wt = 10 * t.text.length + 2 := by unfold D.wt; rfl
    have e2 : (D.int (t.sz : Int)).wt = ((toString (t.sz : Int) : String) : Str).length := by unfold D.wt; rfl
    rw [e1, e2]
    omega
  · unfold due D.dp
    rw [D.dps, D.dps, D.dps, D.dps, D.dps, D.dps]
    have e1 : (D.str t.text).dp = 0 := by unfold D.dp; rfl
    have e2 : (D.int (t.sz : Int)).dp = 0 := by unfold D.dp; rfl
    rw [e1, e2]
    omega
theorem pair_repr {a b : D} (ha : D.sim true a = true) (hb : D.sim true b = true) (hw : a.wt + b.wt ≤ 16000000) (h1 : a.dp ≤ 60) (h2 : b.dp ≤ 60) {mu : Bool} {σ : Store} : biD .repr mu (.lst [a, b]) σ = .ok (.str (D.py (.lst [a, b])).shown) σ := by
  refine bi_repr rfl (reprOk_of ?_ ?_ ?_)
  · unfold D.sim; rw [D.sims, D.sims, D.sims, ha, hb]; rfl
  · unfold D.wt; rw [D.wts, D.wts, D.wts, lim_v]; omega
  · unfold D.dp; rw [D.dps, D.dps, D.dps]; omega
end Iv

set_option Elab.async false
set_option linter.all false
set_option maxHeartbeats 4000000
set_option maxRecDepth 20000
/-! drawn parts of books and drawn things (laws k02 to k12, k58 to k61) -/
namespace Iv
open PySem L2
def b_pickA : Fd := ⟨2, 2, [.ret (.idx (.loc 1) (.call 13 [.loc 0, .bi .len false (.loc 1)] [] [] [0, 1]))]⟩
def b_needA : Fd := ⟨3, 6, [.par 4 5 (.call 13 [.loc 0, .int 3] [] [] [0, 1]) (.call 13 [.loc 0, .loc 2] [] [] [0, 1]), .ite (.or (.cmp .eq (.loc 4) (.int 0)) (.cmp .eq (.loc 1) (.lst false []))) [.ret (.tup [.str "part", .loc 5])] [], .asg (.nm 3) (.call 14 [.loc 0, .loc 1] [] [] [0, 1]), .ret (.ite (.cmp .eq (.loc 4) (.int 1)) (.tup [.str "around", .loc 3, .loc 5]) (.tup [.str "inside", .loc 5, .loc 3]))]⟩
def b_kitA : Fd := ⟨1, 9, [.par 2 4 (.lst true []) (.lst true []), .for (.nm 1) .on [.lst false [.str "box", .str "half", .str "lock", .str "mark", .str "pair", .str "q", .str "seal", .str "zzzzzzzz"]] [.ite (.cmp .eq (.call 13 [.loc 0, .int 2] [] [] [0, 1]) (.int 0)) [.exp (.me .append (.loc 2) [.tup [.loc 1, .bin .add (.int 1) (.call 13 [.loc 0, .int 3] [] [] [0, 1])]])] []], .frz 2, .asg (.nm 2) (.ite (.cmp .ne (.loc 2) (.lst false [])) (.loc 2) (.lst false [.tup [.str "half", .int 1]])), .asg (.nm 3) (.comp false [1, 6] (.tup [1, 6]) .on [.loc 2] (.cmp .eq (.loc 6) (.int 1)) (.loc 1)), .for (.nm 1) .on [.lst false [.str "ahead", .str "first", .str "look", .str "open", .str "second", .str "undo"]] [.ite (.cmp .eq (.call 13 [.loc 0, .int 2] [] [] [0, 1]) (.int 0)) [.asg (.tup [7, 6]) (.call 14 [.loc 0, .loc 2] [] [] [0, 1]), .asg (.nm 5) (.bi .tuple false (.comp false [8] (.nm 8) .rng [.call 13 [.loc 0, .int 3] [] [] [0, 1]] (.bl true) (.call 15 [.loc 0, .loc 3, .loc 6] [] [] [0, 1, 2]))), .exp (.me .append (.loc 4) [.tup [.loc 1, .loc 7, .call 13 [.loc 0, .loc 6] [] [] [0, 1], .loc 5]])] []], .frz 4, .ret (.tup [.bi .tuple false (.loc 2), .bi .tuple false (.loc 4)])]⟩
def b_thingA : Fd := ⟨5, 13, [.asg (.nm 5) (.comp false [12] (.nm 12) .on [.loc 1] (.and (.cmp .lt (.idx (.loc 12) (.int 1)) (.loc 3)) (.cmp .gt (.loc 4) (.int 0))) (.loc 12)), .ite (.or (.cmp .eq (.loc 5) (.lst false [])) (.cmp .eq (.call 13 [.loc 0, .int 4] [] [] [0, 1]) (.int 0))) [.ret (.call 14 [.loc 0, .loc 2] [] [] [0, 1])] [], .asg (.tup [7, 8]) (.call 14 [.loc 0, .loc 5] [] [] [0, 1]), .par 9 10 (.tup [.loc 7]) (.bin .sub (.loc 3) (.int 1)), .for (.nm 6) .rng [.loc 8] [.asg (.nm 11) (.bin .add (.int 1) (.call 13 [.loc 0, .bin .sub (.loc 10) (.bin .sub (.bin .sub (.loc 8) (.loc 6)) (.int 1))] [] [] [0, 1])), .par 9 10 (.bin .add (.loc 9) (.tup [.call 17 [.loc 0, .loc 1, .loc 2, .loc 11, .bin .sub (.loc 4) (.int 1)] [] [] [0, 1, 2, 3, 4]])) (.bin .sub (.loc 10) (.loc 11))], .ret (.loc 9)]⟩
/-- the drawing functions, at their numbers -/
class DrawA (pr : List Fd) : Prop where
  draw : ∃ a b c, pr[13]? = some (mkDrawA a b c)
  pick : pr[14]? = some b_pickA
class KitA (pr : List Fd) : Prop extends DrawA pr where
  need : pr[15]? = some b_needA
  kit : pr[16]? = some b_kitA
  thing : pr[17]? = some b_thingA
theorem Drawn.elim {δ : Dk} {X : Store} {m : Nat} {P : D → Prop} {r : Res D} (h : Drawn δ X m P r) : ∃ d δ', r = .ok d (S δ' ++ X) ∧ P d ∧ δ'.ok m := by
  obtain ⟨d, σ, e, hp, δ', hδ, rfl⟩ := Res.sat.ex h
  exact ⟨d, δ', e, hp, hδ⟩
theorem Drawn.of {δ δ' : Dk} {X : Store} {m : Nat} {P : D → Prop} {r : Res D} {d : D} (e : r = .ok d (S δ' ++ X)) (hp : P d) (hδ : δ'.ok m) : Drawn δ X m P r := by
  unfold Drawn; rw [e, sat_ok]; exact ⟨hp, δ', hδ, rfl⟩
section
variable {pr : List Fd} [DrawA pr]
theorem g_draw {k m n : Nat} (hk : 1 ≤ k) (hb : 0 < m) (hb2 : m < 1073741824) {δ : Dk} (hδ : δ.ok n) (hn : n < 1000000000) (X : Store) :
    ∃ (r : Nat) (δ' : Dk), r < m ∧ δ'.ok (n + 1) ∧ callK pr k 13 [.ref 1, .int m] (S δ ++ X) = .ok (.int r) (S δ' ++ X) := by
  obtain ⟨a, b, c, hi⟩ := DrawA.draw (pr := pr)
  obtain ⟨d, δ', e, ⟨r, hr, rfl⟩, hδ'⟩ := (w_draw hi hk hb hb2 hδ hn (X := X)).elim
  exact ⟨r, δ', hr, hδ', e⟩
theorem g_pick {k n : Nat} {xs : List D} (hk : 2 ≤ k) (hx : xs ≠ []) (hl : xs.length ≤ 1000) {δ : Dk} (hδ : δ.ok n) (hn : n < 1000000000) (X : Store) :
    ∃ (d : D) (δ' : Dk), d ∈ xs ∧ δ'.ok (n + 1) ∧ callK pr k 14 [.ref 1, .lst xs] (S δ ++ X) = .ok d (S δ' ++ X) := by
  obtain ⟨k, rfl⟩ : ∃ j, k = j + 1 := ⟨k - 1, by omega⟩
  have hp : 0 < xs.length := List.length_pos_iff.mpr hx
  obtain ⟨r, δ', h1, h2, h3⟩ := g_draw (pr := pr) (k := k) (by omega) hp (by omega) hδ hn X
  refine ⟨xs[r], δ', List.getElem_mem h1, h2, ?_⟩
  rw [callK_run DrawA.pick rfl]
  unfold b_pickA
  simp only [fx_nil, fx_one, fx_cons, fx_asg, fx_par, fx_put, fx_exp, fx_ret, fx_ite, fx_for, fx_pass, fx_frz, fv_loc, fv_bin, fv_cmp, fv_chain, fv_and, fv_or, fv_not, fv_ite, fv_tup, fv_lst, fv_dic, fv_star, fv_idx, fv_slice, fv_rev, fv_call, fv_bi, fv_isi, fv_me, fv_comp, fvs_cons, ev_nop, ev_non, ev_bl, ev_int, ev_str, ev_glo, ev_neg_int, evs_nil, thenS_nx, thenS_rt, thenS_exc, asgK_ok, asgK_exc, asgT_some, parA_ok, parB_ok, putA_ok, putB_ok, putC_ok, putR_some, expK_ok, expK_exc, retK_ok, retK_exc, iteK_ok, iteB_t, iteB_f, forA_ok, forB_some, frzA_ref, frzB_l, frzB_d, getK_s, binA_ok, binB_ok, cmpA_ok, cmpB_ok, chA_ok, chB_ok, chC_t, chC_f, andK_ok, andB_t, andB_f, orK_ok, orB_t, orB_f, notK_ok, notB_s, iteE_ok, iteEB_t, iteEB_f, tupK_ok, lstK_ok, dicK_ok, idxA_ok, idxB_ok, slA_ok, slB_n, slB_i, slC_n, slC_i, revK_ok, clA_ok, clB_ok, clC_s, biK_ok, isiK_ok, meA_ok, meB_t, meC_ok, cmA_ok, cmB_s, cmC_ok, esA_f, esA_t, spl_l, spl_t, esB_s, esC_ok, prC_s, prB_s, pr_nil, pr_cons, fin_rt', fin_nx', it_lst, it_ro, it_tup, it_str, tg_nm, tg_tup, sa_nil, sa_cons, ns_0, ns_1, ns_2, ns_3, ns_4, ns_5, ns_6, ns_7, ns_8, ns_9, ns_10, ns_11, ns_12, ns_13, ns_14, ns_15, ns_16, ns_17, ns_18, ns_19, ns_20, ns_21, ns_22, ns_23, ns_24, ns_25, ns_star, sat_ok, osat_nx, osat_rt, List.getElem?_cons_zero, List.getElem?_cons_succ, List.set, List.cons_append, List.nil_append, List.append_nil, wipe_nil, wipe_cons, view_non, view_bl, view_int, view_str, view_tup', view_lst, view_ro, view_dic, view_set, tr_non, tr_bl, tr_int, tr_tup, tr_lst, nl_nil, nl_cons1, nl2, nl3, nl4, nl5, nl6, nl7, nl8, nt0, nt1, nt2, nt3, nt4, mo_join, mo_app, mo_pop, mo_ext, mo_get, bi_lenl, bi_lent, bi_listl, bi_listt, bi_listd, bi_tupl, bi_int, b_add, b_sub, b_addl, b_addt, c_eqi, c_eqs, c_nei, c_nes, c_lti, c_lei, c_gti, c_gei, c_les, i_tup, i_lst, isi_str, isi_tup, isi_int, isi_lst, opt_non, opt_int, List.map_cons, List.map_nil, List.length_cons, List.length_nil, Nat.sub_self, List.replicate_zero, Nat.reduceAdd, Nat.reduceSub, List.reduceReplicate, Option.some.injEq, h3, atI_nat h1, leave_S0]
end

/-! books, as drawn -/
inductive Nd where
  | part (j : Nat) | around (c : Str) (j : Nat) | inside (j : Nat) (c : Str)
structure Op where
  w : Str
  kd : Str
  gv : Nat
  ns : List Nd
def Nd.d : Nd → D
  | .part j => .tup [.str "part", .int j]
  | .around c j => .tup [.str "around", .str c, .int j]
  | .inside j c => .tup [.str "inside", .int j, .str c]
def Op.d (o : Op) : D := .tup [.str o.w, .str o.kd, .int o.gv, .tup (o.ns.map Nd.d)]
def mkd (p : Str × Nat) : D := .tup [.str p.1, .int p.2]
def wordsK : List Str := ["box", "half", "lock", "mark", "pair", "q", "seal", "zzzzzzzz"]
def wordsO : List Str := ["ahead", "first", "look", "open", "second", "undo"]
def MkOk (MK : List (Str × Nat)) : Prop := MK.length ≤ 20 ∧ ∀ p ∈ MK, gd p.1 = true ∧ 1 ≤ p.2 ∧ p.2 ≤ 3
def LsOk (LS : List Str) : Prop := LS.length ≤ 20 ∧ LS ≠ [] ∧ ∀ x ∈ LS, gd x = true
mutual
/-- a thing made of these kinds and leaves -/
def Th.of (MK : List (Str × Nat)) (LS : List Str) : Th → Prop
  | .leaf x => x ∈ LS
  | .node w ps => (w, ps.length) ∈ MK ∧ Th.ofs MK LS ps
def Th.ofs (MK : List (Str × Nat)) (LS : List Str) : List Th → Prop
  | [] => True
  | t :: r => t.of MK LS ∧ Th.ofs MK LS r
end
theorem ofs_app {MK : List (Str × Nat)} {LS : List Str} : ∀ {xs ys : List Th}, Th.ofs MK LS xs → Th.ofs MK LS ys → Th.ofs MK LS (xs ++ ys)
  | [], ys, _, h => h
  | x :: r, ys, h, h' => by rw [Th.ofs] at h; rw [List.cons_append, Th.ofs]; exact ⟨h.1, ofs_app h.2 h'⟩
theorem ofs_mem {MK : List (Str × Nat)} {LS : List Str} : ∀ {xs : List Th}, Th.ofs MK LS xs ↔ ∀ t ∈ xs, t.of MK LS
  | [] => by simp [Th.ofs]
  | x :: r => by rw [Th.ofs, ofs_mem]; simp
theorem dps_app : ∀ xs ys : List Th, Th.dps (xs ++ ys) = max (Th.dps xs) (Th.dps ys)
  | [], ys => by simp [Th.dps]
  | x :: r, ys => by rw [List.cons_append, Th.dps, Th.dps, dps_app]; omega
theorem of_ok {MK : List (Str × Nat)} {LS : List Str} (hM : MkOk MK) (hL : LsOk LS) (t : Th) : t.of MK LS → t.ok = true := by
  refine Th.ind (M := fun t => t.of MK LS → t.ok = true) (fun x h => ?_) (fun w ps ih h => ?_) t
  · rw [Th.of] at h; rw [Th.ok]; exact hL.2.2 x h
  · rw [Th.of] at h
    obtain ⟨h1, h2⟩ := h
    obtain ⟨g1, g2, g3⟩ := hM.2 _ h1
    have h3 := ofs_mem.mp h2
    rw [Th.ok, g1]
    have key : ∀ ps : List Th, (∀ t ∈ ps, t.of MK LS → t.ok = true) → (∀ t ∈ ps, t.of MK LS) → Th.oks ps = true := by
      intro ps ih h3
      induction ps with
      | nil => rw [Th.oks]
      | cons p r ihr =>
        rw [Th.oks, ih p List.mem_cons_self (h3 p List.mem_cons_self), ihr (fun t ht => ih t (List.mem_cons_of_mem _ ht)) (fun t ht => h3 t (List.mem_cons_of_mem _ ht))]
        rfl
    rw [key ps ih h3]
    cases ps with
    | nil => simp at g2
    | cons p r => rfl
theorem mkd_sim {p : Str × Nat} (h : gd p.1 = true) : D.sim false (mkd p) = true ∧ (mkd p).dp ≤ 1 := by
  unfold mkd D.sim D.dp
  have x1 : D.sim false (.str p.1) = true := by unfold D.sim; exact strok h
  have x2 : D.sim false (.int p.2) = true := by unfold D.sim; rfl
  have x3 : (D.str p.1).dp = 0 := by unfold D.dp; rfl
  have x4 : (D.int p.2).dp = 0 := by unfold D.dp; rfl
  rw [D.sims, D.sims, D.sims, D.dps, D.dps, D.dps, x1, x2, x3, x4]
  exact ⟨rfl, by decide⟩
theorem mkd_1 {p : Str × Nat} {τ : Store} : idxD (mkd p) (.int 1) τ = .ok (.int p.2) τ := rfl
theorem mkd_nil {MK : List (Str × Nat)} (h : ∀ p ∈ MK, gd p.1 = true) {τ : Store} : cmpD .eq (.lst (MK.map mkd)) (.lst []) τ = .ok (.bl MK.isEmpty) τ := by
  have := c_eqnil (b := false) (x := .lst (MK.map mkd)) (σ := τ) rfl (sims_map fun p hp => (mkd_sim (h p hp)).1) (Nat.le_trans (dps_map (n := 1) fun p hp => (mkd_sim (h p hp)).2) (by decide))
  rwa [map_isEmpty] at this
section
variable {pr : List Fd} [KitA pr]
def OneOf (MK : List (Str × Nat)) (LS : List Str) (top deep : Nat) (d : D) : Prop := ∃ t : Th, d = t.d ∧ t.of MK LS ∧ t.sz ≤ top ∧ t.dp ≤ deep
theorem w_thing {MK : List (Str × Nat)} {LS : List Str} (hM : MkOk MK) (hL : LsOk LS) : ∀ (deep k top n : Nat) (δ : Dk) (X : Store), deep + 3 ≤ k → deep ≤ 20 → 1 ≤ top → top ≤ 100 → δ.ok n → n + 5 * top < 1000000000 →
    Drawn δ X (n + 5 * top) (OneOf MK LS top deep) (callK pr k 17 [.ref 1, .tup (MK.map mkd), .lst (LS.map D.str), .int top, .int deep] (S δ ++ X)) := by
  intro deep
  induction deep using Nat.strongRecOn with
  | ind deep ih =>
    intro k top n δ X hk hd ht1 ht2 hδ hn
    obtain ⟨k, rfl⟩ : ∃ j, k = j + 1 := ⟨k - 1, by omega⟩
    have hM1 := hM.1
    have hL1 := hL.1
    -- a leaf
    have leaf : ∀ (δ1 : Dk) (m : Nat), δ1.ok m → m ≤ n + 1 → ∃ (x : Str) (δ' : Dk), x ∈ LS ∧ δ'.ok (n + 5 * top) ∧ callK pr k 14 [.ref 1, .lst (LS.map D.str)] (S δ1 ++ X) = .ok (.str x) (S δ' ++ X) := by
      intro δ1 m h1 h2
      obtain ⟨d, δ', g1, g2, g3⟩ := g_pick (pr := pr) (k := k) (xs := LS.map D.str) (by omega) (by simpa using hL.2.1) (by rw [List.length_map]; omega) h1 (by omega) X
      obtain ⟨x, hx, rfl⟩ := List.mem_map.mp g1
      exact ⟨x, δ', hx, g2.le (by omega), g3⟩
    have isleaf : ∀ x ∈ LS, OneOf MK LS top deep (.str x) := fun x hx => ⟨.leaf x, by rw [Th.d], by rw [Th.of]; exact hx, by rw [Th.sz]; exact ht1, by rw [Th.dp]; exact Nat.zero_le _⟩
    unfold Drawn
    rw [callK_run KitA.thing rfl]
    unfold b_thingA
    simp only [fx_nil, fx_one, fx_cons, fx_asg, fx_par, fx_put, fx_exp, fx_ret, fx_ite, fx_for, fx_pass, fx_frz, fv_loc, fv_bin, fv_cmp, fv_chain, fv_and, fv_or, fv_not, fv_ite, fv_tup, fv_lst, fv_dic, fv_star, fv_idx, fv_slice, fv_rev, fv_call, fv_bi, fv_isi, fv_me, fv_comp, fvs_cons, ev_nop, ev_non, ev_bl, ev_int, ev_str, ev_glo, ev_neg_int, evs_nil, thenS_nx, thenS_rt, thenS_exc, asgK_ok, asgK_exc, asgT_some, parA_ok, parB_ok, putA_ok, putB_ok, putC_ok, putR_some, expK_ok, expK_exc, retK_ok, retK_exc, iteK_ok, iteB_t, iteB_f, forA_ok, forB_some, frzA_ref, frzB_l, frzB_d, getK_s, binA_ok, binB_ok, cmpA_ok, cmpB_ok, chA_ok, chB_ok, chC_t, chC_f, andK_ok, andB_t, andB_f, orK_ok, orB_t, orB_f, notK_ok, notB_s, iteE_ok, iteEB_t, iteEB_f, tupK_ok, lstK_ok, dicK_ok, idxA_ok, idxB_ok, slA_ok, slB_n, slB_i, slC_n, slC_i, revK_ok, clA_ok, clB_ok, clC_s, biK_ok, isiK_ok, meA_ok, meB_t, meC_ok, cmA_ok, cmB_s, cmC_ok, esA_f, esA_t, spl_l, spl_t, esB_s, esC_ok, prC_s, prB_s, pr_nil, pr_cons, fin_rt', fin_nx', it_lst, it_ro, it_tup, it_str, tg_nm, tg_tup, sa_nil, sa_cons, ns_0, ns_1, ns_2, ns_3, ns_4, ns_5, ns_6, ns_7, ns_8, ns_9, ns_10, ns_11, ns_12, ns_13, ns_14, ns_15, ns_16, ns_17, ns_18, ns_19, ns_20, ns_21, ns_22, ns_23, ns_24, ns_25, ns_star, sat_ok, osat_nx, osat_rt, List.getElem?_cons_zero, List.getElem?_cons_succ, List.set, List.cons_append, List.nil_append, List.append_nil, wipe_nil, wipe_cons, view_non, view_bl, view_int, view_str, view_tup', view_lst, view_ro, view_dic, view_set, tr_non, tr_bl, tr_int, tr_tup, tr_lst, nl_nil, nl_cons1, nl2, nl3, nl4, nl5, nl6, nl7, nl8, nt0, nt1, nt2, nt3, nt4, mo_join, mo_app, mo_pop, mo_ext, mo_get, bi_lenl, bi_lent, bi_listl, bi_listt, bi_listd, bi_tupl, bi_int, b_add, b_sub, b_addl, b_addt, c_eqi, c_eqs, c_nei, c_nes, c_lti, c_lei, c_gti, c_gei, c_les, i_tup, i_lst, isi_str, isi_tup, isi_int, isi_lst, opt_non, opt_int, List.map_cons, List.map_nil, List.length_cons, List.length_nil, Nat.sub_self, List.replicate_zero, Nat.reduceAdd, Nat.reduceSub, List.reduceReplicate, Option.some.injEq]
    rw [compL_fT mkd (fun p => decide ((p.2 : Int) < top) && decide ((0 : Int) < deep)) mkd (fun p hp => ?_) (by rw [lim_v, List.length_nil]; omega)]
    rotate_left
    · refine ⟨_, rfl, ?_, ?_⟩
      · by_cases e : (p.2 : Int) < top
        · simp only [fx_nil, fx_one, fx_cons, fx_asg, fx_par, fx_put, fx_exp, fx_ret, fx_ite, fx_for, fx_pass, fx_frz, fv_loc, fv_bin, fv_cmp, fv_chain, fv_and, fv_or, fv_not, fv_ite, fv_tup, fv_lst, fv_dic, fv_star, fv_idx, fv_slice, fv_rev, fv_call, fv_bi, fv_isi, fv_me, fv_comp, fvs_cons, ev_nop, ev_non, ev_bl, ev_int, ev_str, ev_glo, ev_neg_int, evs_nil, thenS_nx, thenS_rt, thenS_exc, asgK_ok, asgK_exc, asgT_some, parA_ok, parB_ok, putA_ok, putB_ok, putC_ok, putR_some, expK_ok, expK_exc, retK_ok, retK_exc, iteK_ok, iteB_t, iteB_f, forA_ok, forB_some, frzA_ref, frzB_l, frzB_d, getK_s, binA_ok, binB_ok, cmpA_ok, cmpB_ok, chA_ok, chB_ok, chC_t, chC_f, andK_ok, andB_t, andB_f, orK_ok, orB_t, orB_f, notK_ok, notB_s, iteE_ok, iteEB_t, iteEB_f, tupK_ok, lstK_ok, dicK_ok, idxA_ok, idxB_ok, slA_ok, slB_n, slB_i, slC_n, slC_i, revK_ok, clA_ok, clB_ok, clC_s, biK_ok, isiK_ok, meA_ok, meB_t, meC_ok, cmA_ok, cmB_s, cmC_ok, esA_f, esA_t, spl_l, spl_t, esB_s, esC_ok, prC_s, prB_s, pr_nil, pr_cons, fin_rt', fin_nx', it_lst, it_ro, it_tup, it_str, tg_nm, tg_tup, sa_nil, sa_cons, ns_0, ns_1, ns_2, ns_3, ns_4, ns_5, ns_6, ns_7, ns_8, ns_9, ns_10, ns_11, ns_12, ns_13, ns_14, ns_15, ns_16, ns_17, ns_18, ns_19, ns_20, ns_21, ns_22, ns_23, ns_24, ns_25, ns_star, sat_ok, osat_nx, osat_rt, List.getElem?_cons_zero, List.getElem?_cons_succ, List.set, List.cons_append, List.nil_append, List.append_nil, wipe_nil, wipe_cons, view_non, view_bl, view_int, view_str, view_tup', view_lst, view_ro, view_dic, view_set, tr_non, tr_bl, tr_int, tr_tup, tr_lst, nl_nil, nl_cons1, nl2, nl3, nl4, nl5, nl6, nl7, nl8, nt0, nt1, nt2, nt3, nt4, mo_join, mo_app, mo_pop, mo_ext, mo_get, bi_lenl, bi_lent, bi_listl, bi_listt, bi_listd, bi_tupl, bi_int, b_add, b_sub, b_addl, b_addt, c_eqi, c_eqs, c_nei, c_nes, c_lti, c_lei, c_gti, c_gei, c_les, i_tup, i_lst, isi_str, isi_tup, isi_int, isi_lst, opt_non, opt_int, List.map_cons, List.map_nil, List.length_cons, List.length_nil, Nat.sub_self, List.replicate_zero, Nat.reduceAdd, Nat.reduceSub, List.reduceReplicate, Option.some.injEq, mkd_1, decide_eq_true e, Bool.true_and]
        · simp only [fx_nil, fx_one, fx_cons, fx_asg, fx_par, fx_put, fx_exp, fx_ret, fx_ite, fx_for, fx_pass, fx_frz, fv_loc, fv_bin, fv_cmp, fv_chain, fv_and, fv_or, fv_not, fv_ite, fv_tup, fv_lst, fv_dic, fv_star, fv_idx, fv_slice, fv_rev, fv_call, fv_bi, fv_isi, fv_me, fv_comp, fvs_cons, ev_nop, ev_non, ev_bl, ev_int, ev_str, ev_glo, ev_neg_int, evs_nil, thenS_nx, thenS_rt, thenS_exc, asgK_ok, asgK_exc, asgT_some, parA_ok, parB_ok, putA_ok, putB_ok, putC_ok, putR_some, expK_ok, expK_exc, retK_ok, retK_exc, iteK_ok, iteB_t, iteB_f, forA_ok, forB_some, frzA_ref, frzB_l, frzB_d, getK_s, binA_ok, binB_ok, cmpA_ok, cmpB_ok, chA_ok, chB_ok, chC_t, chC_f, andK_ok, andB_t, andB_f, orK_ok, orB_t, orB_f, notK_ok, notB_s, iteE_ok, iteEB_t, iteEB_f, tupK_ok, lstK_ok, dicK_ok, idxA_ok, idxB_ok, slA_ok, slB_n, slB_i, slC_n, slC_i, revK_ok, clA_ok, clB_ok, clC_s, biK_ok, isiK_ok, meA_ok, meB_t, meC_ok, cmA_ok, cmB_s, cmC_ok, esA_f, esA_t, spl_l, spl_t, esB_s, esC_ok, prC_s, prB_s, pr_nil, pr_cons, fin_rt', fin_nx', it_lst, it_ro, it_tup, it_str, tg_nm, tg_tup, sa_nil, sa_cons, ns_0, ns_1, ns_2, ns_3, ns_4, ns_5, ns_6, ns_7, ns_8, ns_9, ns_10, ns_11, ns_12, ns_13, ns_14, ns_15, ns_16, ns_17, ns_18, ns_19, ns_20, ns_21, ns_22, ns_23, ns_24, ns_25, ns_star, sat_ok, osat_nx, osat_rt, List.getElem?_cons_zero, List.getElem?_cons_succ, List.set, List.cons_append, List.nil_append, List.append_nil, wipe_nil, wipe_cons, view_non, view_bl, view_int, view_str, view_tup', view_lst, view_ro, view_dic, view_set, tr_non, tr_bl, tr_int, tr_tup, tr_lst, nl_nil, nl_cons1, nl2, nl3, nl4, nl5, nl6, nl7, nl8, nt0, nt1, nt2, nt3, nt4, mo_join, mo_app, mo_pop, mo_ext, mo_get, bi_lenl, bi_lent, bi_listl, bi_listt, bi_listd, bi_tupl, bi_int, b_add, b_sub, b_addl, b_addt, c_eqi, c_eqs, c_nei, c_nes, c_lti, c_lei, c_gti, c_gei, c_les, i_tup, i_lst, isi_str, isi_tup, isi_int, isi_lst, opt_non, opt_int, List.map_cons, List.map_nil, List.length_cons, List.length_nil, Nat.sub_self, List.replicate_zero, Nat.reduceAdd, Nat.reduceSub, List.reduceReplicate, Option.some.injEq, mkd_1, decide_eq_false e, Bool.false_and]
      · intro _
        simp only [fx_nil, fx_one, fx_cons, fx_asg, fx_par, fx_put, fx_exp, fx_ret, fx_ite, fx_for, fx_pass, fx_frz, fv_loc, fv_bin, fv_cmp, fv_chain, fv_and, fv_or, fv_not, fv_ite, fv_tup, fv_lst, fv_dic, fv_star, fv_idx, fv_slice, fv_rev, fv_call, fv_bi, fv_isi, fv_me, fv_comp, fvs_cons, ev_nop, ev_non, ev_bl, ev_int, ev_str, ev_glo, ev_neg_int, evs_nil, thenS_nx, thenS_rt, thenS_exc, asgK_ok, asgK_exc, asgT_some, parA_ok, parB_ok, putA_ok, putB_ok, putC_ok, putR_some, expK_ok, expK_exc, retK_ok, retK_exc, iteK_ok, iteB_t, iteB_f, forA_ok, forB_some, frzA_ref, frzB_l, frzB_d, getK_s, binA_ok, binB_ok, cmpA_ok, cmpB_ok, chA_ok, chB_ok, chC_t, chC_f, andK_ok, andB_t, andB_f, orK_ok, orB_t, orB_f, notK_ok, notB_s, iteE_ok, iteEB_t, iteEB_f, tupK_ok, lstK_ok, dicK_ok, idxA_ok, idxB_ok, slA_ok, slB_n, slB_i, slC_n, slC_i, revK_ok, clA_ok, clB_ok, clC_s, biK_ok, isiK_ok, meA_ok, meB_t, meC_ok, cmA_ok, cmB_s, cmC_ok, esA_f, esA_t, spl_l, spl_t, esB_s, esC_ok, prC_s, prB_s, pr_nil, pr_cons, fin_rt', fin_nx', it_lst, it_ro, it_tup, it_str, tg_nm, tg_tup, sa_nil, sa_cons, ns_0, ns_1, ns_2, ns_3, ns_4, ns_5, ns_6, ns_7, ns_8, ns_9, ns_10, ns_11, ns_12, ns_13, ns_14, ns_15, ns_16, ns_17, ns_18, ns_19, ns_20, ns_21, ns_22, ns_23, ns_24, ns_25, ns_star, sat_ok, osat_nx, osat_rt, List.getElem?_cons_zero, List.getElem?_cons_succ, List.set, List.cons_append, List.nil_append, List.append_nil, wipe_nil, wipe_cons, view_non, view_bl, view_int, view_str, view_tup', view_lst, view_ro, view_dic, view_set, tr_non, tr_bl, tr_int, tr_tup, tr_lst, nl_nil, nl_cons1, nl2, nl3, nl4, nl5, nl6, nl7, nl8, nt0, nt1, nt2, nt3, nt4, mo_join, mo_app, mo_pop, mo_ext, mo_get, bi_lenl, bi_lent, bi_listl, bi_listt, bi_listd, bi_tupl, bi_int, b_add, b_sub, b_addl, b_addt, c_eqi, c_eqs, c_nei, c_nes, c_lti, c_lei, c_gti, c_gei, c_les, i_tup, i_lst, isi_str, isi_tup, isi_int, isi_lst, opt_non, opt_int, List.map_cons, List.map_nil, List.length_cons, List.length_nil, Nat.sub_self, List.replicate_zero, Nat.reduceAdd, Nat.reduceSub, List.reduceReplicate, Option.some.injEq]
    have hfl := List.length_filter_le (fun p : Str × Nat => decide ((p.2 : Int) < top) && decide ((0 : Int) < deep)) MK
    generalize hF : MK.filter (fun p => decide ((p.2 : Int) < top) && decide ((0 : Int) < deep)) = F
    rw [hF] at hfl
    have hFm : ∀ p ∈ F, p ∈ MK ∧ p.2 < top ∧ 0 < deep := fun p hp => by
      rw [← hF] at hp
      obtain ⟨a, b⟩ := List.mem_filter.mp hp
      rw [Bool.and_eq_true, decide_eq_true_eq, decide_eq_true_eq] at b
      exact ⟨a, by omega, by omega⟩
    have hnF : ∀ τ : Store, newL false (F.map mkd) τ = .ok (.lst (F.map mkd)) τ := fun τ => newL_f (by rw [List.length_map, lim_v]; omega)
    have hnil : ∀ τ : Store, cmpD .eq (.lst (F.map mkd)) (.lst []) τ = .ok (.bl F.isEmpty) τ := fun τ => mkd_nil fun p hp => (hM.2 p (hFm p hp).1).1
    cases hE : F.isEmpty with
    | true =>
      obtain ⟨x, δ', h1, h2, h3⟩ := leaf δ n hδ (by omega)
      simp only [fx_nil, fx_one, fx_cons, fx_asg, fx_par, fx_put, fx_exp, fx_ret, fx_ite, fx_for, fx_pass, fx_frz, fv_loc, fv_bin, fv_cmp, fv_chain, fv_and, fv_or, fv_not, fv_ite, fv_tup, fv_lst, fv_dic, fv_star, fv_idx, fv_slice, fv_rev, fv_call, fv_bi, fv_isi, fv_me, fv_comp, fvs_cons, ev_nop, ev_non, ev_bl, ev_int, ev_str, ev_glo, ev_neg_int, evs_nil, thenS_nx, thenS_rt, thenS_exc, asgK_ok, asgK_exc, asgT_some, parA_ok, parB_ok, putA_ok, putB_ok, putC_ok, putR_some, expK_ok, expK_exc, retK_ok, retK_exc, iteK_ok, iteB_t, iteB_f, forA_ok, forB_some, frzA_ref, frzB_l, frzB_d, getK_s, binA_ok, binB_ok, cmpA_ok, cmpB_ok, chA_ok, chB_ok, chC_t, chC_f, andK_ok, andB_t, andB_f, orK_ok, orB_t, orB_f, notK_ok, notB_s, iteE_ok, iteEB_t, iteEB_f, tupK_ok, lstK_ok, dicK_ok, idxA_ok, idxB_ok, slA_ok, slB_n, slB_i, slC_n, slC_i, revK_ok, clA_ok, clB_ok, clC_s, biK_ok, isiK_ok, meA_ok, meB_t, meC_ok, cmA_ok, cmB_s, cmC_ok, esA_f, esA_t, spl_l, spl_t, esB_s, esC_ok, prC_s, prB_s, pr_nil, pr_cons, fin_rt', fin_nx', it_lst, it_ro, it_tup, it_str, tg_nm, tg_tup, sa_nil, sa_cons, ns_0, ns_1, ns_2, ns_3, ns_4, ns_5, ns_6, ns_7, ns_8, ns_9, ns_10, ns_11, ns_12, ns_13, ns_14, ns_15, ns_16, ns_17, ns_18, ns_19, ns_20, ns_21, ns_22, ns_23, ns_24, ns_25, ns_star, sat_ok, osat_nx, osat_rt, List.getElem?_cons_zero, List.getElem?_cons_succ, List.set, List.cons_append, List.nil_append, List.append_nil, wipe_nil, wipe_cons, view_non, view_bl, view_int, view_str, view_tup', view_lst, view_ro, view_dic, view_set, tr_non, tr_bl, tr_int, tr_tup, tr_lst, nl_nil, nl_cons1, nl2, nl3, nl4, nl5, nl6, nl7, nl8, nt0, nt1, nt2, nt3, nt4, mo_join, mo_app, mo_pop, mo_ext, mo_get, bi_lenl, bi_lent, bi_listl, bi_listt, bi_listd, bi_tupl, bi_int, b_add, b_sub, b_addl, b_addt, c_eqi, c_eqs, c_nei, c_nes, c_lti, c_lei, c_gti, c_gei, c_les, i_tup, i_lst, isi_str, isi_tup, isi_int, isi_lst, opt_non, opt_int, List.map_cons, List.map_nil, List.length_cons, List.length_nil, Nat.sub_self, List.replicate_zero, Nat.reduceAdd, Nat.reduceSub, List.reduceReplicate, Option.some.injEq, hnF, hnil, hE, h3, leave_S0]
      exact ⟨isleaf x h1, δ', h2, rfl⟩
    | false =>
      obtain ⟨r, δ1, g1, g2, g3⟩ := g_draw (pr := pr) (k := k) (m := 4) (by omega) (by omega) (by omega) hδ (by omega) X
      have g3 : callK pr k 13 [.ref 1, .int 4] (S δ ++ X) = .ok (.int r) (S δ1 ++ X) := g3
      by_cases hr : (r : Int) = 0
      · obtain ⟨x, δ', h1, h2, h3⟩ := leaf δ1 (n + 1) g2 (by omega)
        simp only [fx_nil, fx_one, fx_cons, fx_asg, fx_par, fx_put, fx_exp, fx_ret, fx_ite, fx_for, fx_pass, fx_frz, fv_loc, fv_bin, fv_cmp, fv_chain, fv_and, fv_or, fv_not, fv_ite, fv_tup, fv_lst, fv_dic, fv_star, fv_idx, fv_slice, fv_rev, fv_call, fv_bi, fv_isi, fv_me, fv_comp, fvs_cons, ev_nop, ev_non, ev_bl, ev_int, ev_str, ev_glo, ev_neg_int, evs_nil, thenS_nx, thenS_rt, thenS_exc, asgK_ok, asgK_exc, asgT_some, parA_ok, parB_ok, putA_ok, putB_ok, putC_ok, putR_some, expK_ok, expK_exc, retK_ok, retK_exc, iteK_ok, iteB_t, iteB_f, forA_ok, forB_some, frzA_ref, frzB_l, frzB_d, getK_s, binA_ok, binB_ok, cmpA_ok, cmpB_ok, chA_ok, chB_ok, chC_t, chC_f, andK_ok, andB_t, andB_f, orK_ok, orB_t, orB_f, notK_ok, notB_s, iteE_ok, iteEB_t, iteEB_f, tupK_ok, lstK_ok, dicK_ok, idxA_ok, idxB_ok, slA_ok, slB_n, slB_i, slC_n, slC_i, revK_ok, clA_ok, clB_ok, clC_s, biK_ok, isiK_ok, meA_ok, meB_t, meC_ok, cmA_ok, cmB_s, cmC_ok, esA_f, esA_t, spl_l, spl_t, esB_s, esC_ok, prC_s, prB_s, pr_nil, pr_cons, fin_rt', fin_nx', it_lst, it_ro, it_tup, it_str, tg_nm, tg_tup, sa_nil, sa_cons, ns_0, ns_1, ns_2, ns_3, ns_4, ns_5, ns_6, ns_7, ns_8, ns_9, ns_10, ns_11, ns_12, ns_13, ns_14, ns_15, ns_16, ns_17, ns_18, ns_19, ns_20, ns_21, ns_22, ns_23, ns_24, ns_25, ns_star, sat_ok, osat_nx, osat_rt, List.getElem?_cons_zero, List.getElem?_cons_succ, List.set, List.cons_append, List.nil_append, List.append_nil, wipe_nil, wipe_cons, view_non, view_bl, view_int, view_str, view_tup', view_lst, view_ro, view_dic, view_set, tr_non, tr_bl, tr_int, tr_tup, tr_lst, nl_nil, nl_cons1, nl2, nl3, nl4, nl5, nl6, nl7, nl8, nt0, nt1, nt2, nt3, nt4, mo_join, mo_app, mo_pop, mo_ext, mo_get, bi_lenl, bi_lent, bi_listl, bi_listt, bi_listd, bi_tupl, bi_int, b_add, b_sub, b_addl, b_addt, c_eqi, c_eqs, c_nei, c_nes, c_lti, c_lei, c_gti, c_gei, c_les, i_tup, i_lst, isi_str, isi_tup, isi_int, isi_lst, opt_non, opt_int, List.map_cons, List.map_nil, List.length_cons, List.length_nil, Nat.sub_self, List.replicate_zero, Nat.reduceAdd, Nat.reduceSub, List.reduceReplicate, Option.some.injEq, hnF, hnil, hE, g3, decide_eq_true hr, h3, leave_S0]
        exact ⟨isleaf x h1, δ', h2, rfl⟩
      · have hFn : F ≠ [] := fun e => by rw [e] at hE; cases hE
        obtain ⟨d, δ2, q1, q2, q3⟩ := g_pick (pr := pr) (k := k) (xs := F.map mkd) (by omega) (by simpa using hFn) (by rw [List.length_map]; omega) g2 (by omega) X
        obtain ⟨⟨w, m⟩, hp, rfl⟩ := List.mem_map.mp q1
        obtain ⟨hp1, hp2, hp3⟩ := hFm _ hp
        obtain ⟨hg, hm1, hm2⟩ := hM.2 _ hp1
        dsimp only at hp2 hm1 hm2 hg
        have tg : ∀ ρ : Iv.Env, tgD (.tup [7, 8]) (mkd (w, m)) ρ = some ((ρ.set 7 (some (.str w))).set 8 (some (.int m))) := fun ρ => rfl
        have e5 : (top : Int) - 1 = ((top - 1 : Nat) : Int) := by omega
        have e6 : (deep : Int) - 1 = ((deep - 1 : Nat) : Int) := by omega
        simp only [fx_nil, fx_one, fx_cons, fx_asg, fx_par, fx_put, fx_exp, fx_ret, fx_ite, fx_for, fx_pass, fx_frz, fv_loc, fv_bin, fv_cmp, fv_chain, fv_and, fv_or, fv_not, fv_ite, fv_tup, fv_lst, fv_dic, fv_star, fv_idx, fv_slice, fv_rev, fv_call, fv_bi, fv_isi, fv_me, fv_comp, fvs_cons, ev_nop, ev_non, ev_bl, ev_int, ev_str, ev_glo, ev_neg_int, evs_nil, thenS_nx, thenS_rt, thenS_exc, asgK_ok, asgK_exc, asgT_some, parA_ok, parB_ok, putA_ok, putB_ok, putC_ok, putR_some, expK_ok, expK_exc, retK_ok, retK_exc, iteK_ok, iteB_t, iteB_f, forA_ok, forB_some, frzA_ref, frzB_l, frzB_d, getK_s, binA_ok, binB_ok, cmpA_ok, cmpB_ok, chA_ok, chB_ok, chC_t, chC_f, andK_ok, andB_t, andB_f, orK_ok, orB_t, orB_f, notK_ok, notB_s, iteE_ok, iteEB_t, iteEB_f, tupK_ok, lstK_ok, dicK_ok, idxA_ok, idxB_ok, slA_ok, slB_n, slB_i, slC_n, slC_i, revK_ok, clA_ok, clB_ok, clC_s, biK_ok, isiK_ok, meA_ok, meB_t, meC_ok, cmA_ok, cmB_s, cmC_ok, esA_f, esA_t, spl_l, spl_t, esB_s, esC_ok, prC_s, prB_s, pr_nil, pr_cons, fin_rt', fin_nx', it_lst, it_ro, it_tup, it_str, tg_nm, tg_tup, sa_nil, sa_cons, ns_0, ns_1, ns_2, ns_3, ns_4, ns_5, ns_6, ns_7, ns_8, ns_9, ns_10, ns_11, ns_12, ns_13, ns_14, ns_15, ns_16, ns_17, ns_18, ns_19, ns_20, ns_21, ns_22, ns_23, ns_24, ns_25, ns_star, sat_ok, osat_nx, osat_rt, List.getElem?_cons_zero, List.getElem?_cons_succ, List.set, List.cons_append, List.nil_append, List.append_nil, wipe_nil, wipe_cons, view_non, view_bl, view_int, view_str, view_tup', view_lst, view_ro, view_dic, view_set, tr_non, tr_bl, tr_int, tr_tup, tr_lst, nl_nil, nl_cons1, nl2, nl3, nl4, nl5, nl6, nl7, nl8, nt0, nt1, nt2, nt3, nt4, mo_join, mo_app, mo_pop, mo_ext, mo_get, bi_lenl, bi_lent, bi_listl, bi_listt, bi_listd, bi_tupl, bi_int, b_add, b_sub, b_addl, b_addt, c_eqi, c_eqs, c_nei, c_nes, c_lti, c_lei, c_gti, c_gei, c_les, i_tup, i_lst, isi_str, isi_tup, isi_int, isi_lst, opt_non, opt_int, List.map_cons, List.map_nil, List.length_cons, List.length_nil, Nat.sub_self, List.replicate_zero, Nat.reduceAdd, Nat.reduceSub, List.reduceReplicate, Option.some.injEq, hnF, hnil, hE, g3, decide_eq_false hr, q3, tg, e5]
        rw [it_rngN (by omega)]
        simp only [fx_nil, fx_one, fx_cons, fx_asg, fx_par, fx_put, fx_exp, fx_ret, fx_ite, fx_for, fx_pass, fx_frz, fv_loc, fv_bin, fv_cmp, fv_chain, fv_and, fv_or, fv_not, fv_ite, fv_tup, fv_lst, fv_dic, fv_star, fv_idx, fv_slice, fv_rev, fv_call, fv_bi, fv_isi, fv_me, fv_comp, fvs_cons, ev_nop, ev_non, ev_bl, ev_int, ev_str, ev_glo, ev_neg_int, evs_nil, thenS_nx, thenS_rt, thenS_exc, asgK_ok, asgK_exc, asgT_some, parA_ok, parB_ok, putA_ok, putB_ok, putC_ok, putR_some, expK_ok, expK_exc, retK_ok, retK_exc, iteK_ok, iteB_t, iteB_f, forA_ok, forB_some, frzA_ref, frzB_l, frzB_d, getK_s, binA_ok, binB_ok, cmpA_ok, cmpB_ok, chA_ok, chB_ok, chC_t, chC_f, andK_ok, andB_t, andB_f, orK_ok, orB_t, orB_f, notK_ok, notB_s, iteE_ok, iteEB_t, iteEB_f, tupK_ok, lstK_ok, dicK_ok, idxA_ok, idxB_ok, slA_ok, slB_n, slB_i, slC_n, slC_i, revK_ok, clA_ok, clB_ok, clC_s, biK_ok, isiK_ok, meA_ok, meB_t, meC_ok, cmA_ok, cmB_s, cmC_ok, esA_f, esA_t, spl_l, spl_t, esB_s, esC_ok, prC_s, prB_s, pr_nil, pr_cons, fin_rt', fin_nx', it_lst, it_ro, it_tup, it_str, tg_nm, tg_tup, sa_nil, sa_cons, ns_0, ns_1, ns_2, ns_3, ns_4, ns_5, ns_6, ns_7, ns_8, ns_9, ns_10, ns_11, ns_12, ns_13, ns_14, ns_15, ns_16, ns_17, ns_18, ns_19, ns_20, ns_21, ns_22, ns_23, ns_24, ns_25, ns_star, sat_ok, osat_nx, osat_rt, List.getElem?_cons_zero, List.getElem?_cons_succ, List.set, List.cons_append, List.nil_append, List.append_nil, wipe_nil, wipe_cons, view_non, view_bl, view_int, view_str, view_tup', view_lst, view_ro, view_dic, view_set, tr_non, tr_bl, tr_int, tr_tup, tr_lst, nl_nil, nl_cons1, nl2, nl3, nl4, nl5, nl6, nl7, nl8, nt0, nt1, nt2, nt3, nt4, mo_join, mo_app, mo_pop, mo_ext, mo_get, bi_lenl, bi_lent, bi_listl, bi_listt, bi_listd, bi_tupl, bi_int, b_add, b_sub, b_addl, b_addt, c_eqi, c_eqs, c_nei, c_nes, c_lti, c_lei, c_gti, c_gei, c_les, i_tup, i_lst, isi_str, isi_tup, isi_int, isi_lst, opt_non, opt_int, List.map_cons, List.map_nil, List.length_cons, List.length_nil, Nat.sub_self, List.replicate_zero, Nat.reduceAdd, Nat.reduceSub, List.reduceReplicate, Option.some.injEq]
        refine fsat (osat_range (fun i ρ σ => ∃ (ps : List Th) (L : Nat) (δ' : Dk) (y z : Option D), ρ = [some (.ref 1), some (.tup (MK.map mkd)), some (.lst (LS.map D.str)), some (.int top), some (.int deep), some (.lst (F.map mkd)), z, some (.str w), some (.int m), some (.tup (.str w :: ps.map Th.d)), some (.int L), y, none] ∧ σ = S δ' ++ X ∧
          ps.length = i ∧ Th.ofs MK LS ps ∧ Th.dps ps ≤ deep - 1 ∧ Th.szs ps + L ≤ top - 1 ∧ m - i ≤ L ∧ δ'.ok (n + 2 + i + 5 * (top - 1 - L)) ∧ L ≤ top - 1) ?_ ?_ ?_)
        · refine ⟨[], top - 1, δ2, none, none, rfl, rfl, rfl, by rw [Th.ofs]; trivial, by rw [Th.dps]; omega, by rw [Th.szs]; omega, by omega, q2.le (by omega), by omega⟩
        · rintro i hi ρ σ ⟨ps, L, δ', y, z, rfl, rfl, hl, h1, h2, h3, h4, h5, h6⟩
          refine ⟨_, rfl, ?_⟩
          have e7 : ((L : Nat) : Int) - (((m : Nat) : Int) - (i : Int) - 1) = ((L - (m - i - 1) : Nat) : Int) := by omega
          obtain ⟨r1, δ3, a1, a2, a3⟩ := g_draw (pr := pr) (k := k) (m := L - (m - i - 1)) (by omega) (by omega) (by omega) h5 (by omega) X
          have e8 : (1 : Int) + (r1 : Int) = ((r1 + 1 : Nat) : Int) := by omega
          have e9 : (L : Int) - ((r1 + 1 : Nat) : Int) = ((L - (r1 + 1) : Nat) : Int) := by omega
          obtain ⟨d, δ4, b1, ⟨t, rfl, t1, t2, t3⟩, b3⟩ := (ih (deep - 1) (by omega) k (r1 + 1) (n + 2 + i + 5 * (top - 1 - L) + 1) δ3 X (by omega) (by omega) (by omega) (by omega) a2 (by omega)).elim
          have n1 : ∀ τ : Store, newT (.str w :: (ps.map Th.d ++ [t.d])) τ = .ok (.tup (.str w :: (ps.map Th.d ++ [t.d]))) τ := fun τ => newT_ok (by simp [lim_v]; omega)
          simp only [fx_nil, fx_one, fx_cons, fx_asg, fx_par, fx_put, fx_exp, fx_ret, fx_ite, fx_for, fx_pass, fx_frz, fv_loc, fv_bin, fv_cmp, fv_chain, fv_and, fv_or, fv_not, fv_ite, fv_tup, fv_lst, fv_dic, fv_star, fv_idx, fv_slice, fv_rev, fv_call, fv_bi, fv_isi, fv_me, fv_comp, fvs_cons, ev_nop, ev_non, ev_bl, ev_int, ev_str, ev_glo, ev_neg_int, evs_nil, thenS_nx, thenS_rt, thenS_exc, asgK_ok, asgK_exc, asgT_some, parA_ok, parB_ok, putA_ok, putB_ok, putC_ok, putR_some, expK_ok, expK_exc, retK_ok, retK_exc, iteK_ok, iteB_t, iteB_f, forA_ok, forB_some, frzA_ref, frzB_l, frzB_d, getK_s, binA_ok, binB_ok, cmpA_ok, cmpB_ok, chA_ok, chB_ok, chC_t, chC_f, andK_ok, andB_t, andB_f, orK_ok, orB_t, orB_f, notK_ok, notB_s, iteE_ok, iteEB_t, iteEB_f, tupK_ok, lstK_ok, dicK_ok, idxA_ok, idxB_ok, slA_ok, slB_n, slB_i, slC_n, slC_i, revK_ok, clA_ok, clB_ok, clC_s, biK_ok, isiK_ok, meA_ok, meB_t, meC_ok, cmA_ok, cmB_s, cmC_ok, esA_f, esA_t, spl_l, spl_t, esB_s, esC_ok, prC_s, prB_s, pr_nil, pr_cons, fin_rt', fin_nx', it_lst, it_ro, it_tup, it_str, tg_nm, tg_tup, sa_nil, sa_cons, ns_0, ns_1, ns_2, ns_3, ns_4, ns_5, ns_6, ns_7, ns_8, ns_9, ns_10, ns_11, ns_12, ns_13, ns_14, ns_15, ns_16, ns_17, ns_18, ns_19, ns_20, ns_21, ns_22, ns_23, ns_24, ns_25, ns_star, sat_ok, osat_nx, osat_rt, List.getElem?_cons_zero, List.getElem?_cons_succ, List.set, List.cons_append, List.nil_append, List.append_nil, wipe_nil, wipe_cons, view_non, view_bl, view_int, view_str, view_tup', view_lst, view_ro, view_dic, view_set, tr_non, tr_bl, tr_int, tr_tup, tr_lst, nl_nil, nl_cons1, nl2, nl3, nl4, nl5, nl6, nl7, nl8, nt0, nt1, nt2, nt3, nt4, mo_join, mo_app, mo_pop, mo_ext, mo_get, bi_lenl, bi_lent, bi_listl, bi_listt, bi_listd, bi_tupl, bi_int, b_add, b_sub, b_addl, b_addt, c_eqi, c_eqs, c_nei, c_nes, c_lti, c_lei, c_gti, c_gei, c_les, i_tup, i_lst, isi_str, isi_tup, isi_int, isi_lst, opt_non, opt_int, List.map_cons, List.map_nil, List.length_cons, List.length_nil, Nat.sub_self, List.replicate_zero, Nat.reduceAdd, Nat.reduceSub, List.reduceReplicate, Option.some.injEq, e7, a3, e8, e6, b1, e9, n1]
          exact ⟨ps ++ [t], L - (r1 + 1), δ4, _, _, by rw [List.map_append]; rfl, rfl, by simp [hl], ofs_app h1 (by rw [Th.ofs, Th.ofs]; exact ⟨t1, trivial⟩), by rw [dps_app, Th.dps, Th.dps]; omega, by rw [szs_app, Th.szs, Th.szs]; omega, by omega, b3.le (by omega), by omega⟩
        · rintro ρ σ ⟨ps, L, δ', y, z, rfl, rfl, hl, h1, h2, h3, h4, h5, h6⟩
          simp only [fx_nil, fx_one, fx_cons, fx_asg, fx_par, fx_put, fx_exp, fx_ret, fx_ite, fx_for, fx_pass, fx_frz, fv_loc, fv_bin, fv_cmp, fv_chain, fv_and, fv_or, fv_not, fv_ite, fv_tup, fv_lst, fv_dic, fv_star, fv_idx, fv_slice, fv_rev, fv_call, fv_bi, fv_isi, fv_me, fv_comp, fvs_cons, ev_nop, ev_non, ev_bl, ev_int, ev_str, ev_glo, ev_neg_int, evs_nil, thenS_nx, thenS_rt, thenS_exc, asgK_ok, asgK_exc, asgT_some, parA_ok, parB_ok, putA_ok, putB_ok, putC_ok, putR_some, expK_ok, expK_exc, retK_ok, retK_exc, iteK_ok, iteB_t, iteB_f, forA_ok, forB_some, frzA_ref, frzB_l, frzB_d, getK_s, binA_ok, binB_ok, cmpA_ok, cmpB_ok, chA_ok, chB_ok, chC_t, chC_f, andK_ok, andB_t, andB_f, orK_ok, orB_t, orB_f, notK_ok, notB_s, iteE_ok, iteEB_t, iteEB_f, tupK_ok, lstK_ok, dicK_ok, idxA_ok, idxB_ok, slA_ok, slB_n, slB_i, slC_n, slC_i, revK_ok, clA_ok, clB_ok, clC_s, biK_ok, isiK_ok, meA_ok, meB_t, meC_ok, cmA_ok, cmB_s, cmC_ok, esA_f, esA_t, spl_l, spl_t, esB_s, esC_ok, prC_s, prB_s, pr_nil, pr_cons, fin_rt', fin_nx', it_lst, it_ro, it_tup, it_str, tg_nm, tg_tup, sa_nil, sa_cons, ns_0, ns_1, ns_2, ns_3, ns_4, ns_5, ns_6, ns_7, ns_8, ns_9, ns_10, ns_11, ns_12, ns_13, ns_14, ns_15, ns_16, ns_17, ns_18, ns_19, ns_20, ns_21, ns_22, ns_23, ns_24, ns_25, ns_star, sat_ok, osat_nx, osat_rt, List.getElem?_cons_zero, List.getElem?_cons_succ, List.set, List.cons_append, List.nil_append, List.append_nil, wipe_nil, wipe_cons, view_non, view_bl, view_int, view_str, view_tup', view_lst, view_ro, view_dic, view_set, tr_non, tr_bl, tr_int, tr_tup, tr_lst, nl_nil, nl_cons1, nl2, nl3, nl4, nl5, nl6, nl7, nl8, nt0, nt1, nt2, nt3, nt4, mo_join, mo_app, mo_pop, mo_ext, mo_get, bi_lenl, bi_lent, bi_listl, bi_listt, bi_listd, bi_tupl, bi_int, b_add, b_sub, b_addl, b_addt, c_eqi, c_eqs, c_nei, c_nes, c_lti, c_lei, c_gti, c_gei, c_les, i_tup, i_lst, isi_str, isi_tup, isi_int, isi_lst, opt_non, opt_int, List.map_cons, List.map_nil, List.length_cons, List.length_nil, Nat.sub_self, List.replicate_zero, Nat.reduceAdd, Nat.reduceSub, List.reduceReplicate, Option.some.injEq, leave_S0]
          refine ⟨⟨.node w ps, by rw [d_node], by rw [Th.of, hl]; exact ⟨hp1, h1⟩, by rw [Th.sz]; omega, by rw [Th.dp]; omega⟩, δ', h5.le (by omega), rfl⟩
end

/-! a drawn kit -/
def Nd.okIn (MK : List (Str × Nat)) (m : Nat) : Nd → Prop
  | .part j => j < m
  | .around c j => (c, 1) ∈ MK ∧ j < m
  | .inside j c => j < m ∧ (c, 1) ∈ MK
def Op.okIn (MK : List (Str × Nat)) (o : Op) : Prop := ∃ m, (o.kd, m) ∈ MK ∧ o.gv < m ∧ o.ns.length ≤ 2 ∧ ∀ n ∈ o.ns, n.okIn MK m
/-- the parts of a drawn book -/
structure KitOk (MK : List (Str × Nat)) (OS : List Op) : Prop where
  ne : MK ≠ []
  mw : (MK.map (·.1)).Sublist wordsK
  mn : ∀ p ∈ MK, 1 ≤ p.2 ∧ p.2 ≤ 3
  ow : (OS.map (·.w)).Sublist wordsO
  oo : ∀ o ∈ OS, o.okIn MK
theorem unders_map {α : Type} {N : Nat} {f : α → D} : ∀ {xs : List α}, (∀ x ∈ xs, D.under N (f x) = true) → D.unders N (xs.map f) = true
  | [], _ => by rw [List.map_nil, D.unders]
  | x :: r, h => by rw [List.map_cons, D.unders, h x List.mem_cons_self, unders_map fun y hy => h y (List.mem_cons_of_mem _ hy)]; rfl
theorem mkd_under {N : Nat} {p : Str × Nat} : D.under N (mkd p) = true := by unfold mkd; simp [D.under, D.unders]
theorem nd_under {N : Nat} {n : Nd} : D.under N n.d = true := by cases n <;> simp [Nd.d, D.under, D.unders]
theorem op_under {N : Nat} {o : Op} : D.under N o.d = true := by
  unfold Op.d
  simp only [D.under, D.unders, Bool.true_and, Bool.and_true]
  exact unders_map fun n _ => nd_under
theorem wordsK_gd : ∀ x ∈ wordsK, gd x = true := by decide +kernel
theorem KitOk.mkOk {MK : List (Str × Nat)} {OS : List Op} (h : KitOk MK OS) : MkOk MK := by
  refine ⟨?_, fun p hp => ⟨wordsK_gd _ (h.mw.subset (List.mem_map_of_mem hp)), h.mn p hp⟩⟩
  have := h.mw.length_le
  rw [List.length_map] at this
  have e : wordsK.length = 8 := rfl
  omega
theorem strs_nil {xs : List Str} (h : ∀ x ∈ xs, gd x = true) {τ : Store} : cmpD .eq (.lst (xs.map D.str)) (.lst []) τ = .ok (.bl xs.isEmpty) τ := by
  have := c_eqnil (b := false) (x := .lst (xs.map D.str)) (σ := τ) rfl (sims_map fun p hp => by unfold D.sim; exact strok (h p hp)) (Nat.le_trans (dps_map (n := 0) fun p hp => by unfold D.dp; exact Nat.le_refl _) (by decide))
  rwa [map_isEmpty] at this
section
variable {pr : List Fd} [KitA pr]
theorem g_need {k n m : Nat} (hk : 3 ≤ k) {MK : List (Str × Nat)} {SG : List Str} (hS : SG.length ≤ 20) (hg : ∀ c ∈ SG, gd c = true ∧ (c, 1) ∈ MK) (hm : 1 ≤ m) (hm2 : m ≤ 3) {δ : Dk} (hδ : δ.ok n) (hn : n + 3 < 1000000000) (X : Store) :
    ∃ (nd : Nd) (δ' : Dk), nd.okIn MK m ∧ δ'.ok (n + 3) ∧ callK pr k 15 [.ref 1, .lst (SG.map D.str), .int m] (S δ ++ X) = .ok nd.d (S δ' ++ X) := by
  obtain ⟨k, rfl⟩ : ∃ j, k = j + 1 := ⟨k - 1, by omega⟩
  rw [callK_run KitA.need rfl]
  unfold b_needA
  obtain ⟨r, δ1, g1, g2, g3⟩ := g_draw (pr := pr) (k := k) (m := 3) (by omega) (by omega) (by omega) hδ (by omega) X
  have g3 : callK pr k 13 [.ref 1, .int 3] (S δ ++ X) = .ok (.int r) (S δ1 ++ X) := g3
  obtain ⟨j, δ2, j1, j2, j3⟩ := g_draw (pr := pr) (k := k) (m := m) (by omega) (by omega) (by omega) g2 (by omega) X
  have hnil : ∀ τ : Store, cmpD .eq (.lst (SG.map D.str)) (.lst []) τ = .ok (.bl SG.isEmpty) τ := fun τ => strs_nil fun c hc => (hg c hc).1
  by_cases hr : (r : Int) = 0
  · refine ⟨.part j, δ2, j1, j2.le (by omega), ?_⟩
    simp only [fx_nil, fx_one, fx_cons, fx_asg, fx_par, fx_put, fx_exp, fx_ret, fx_ite, fx_for, fx_pass, fx_frz, fv_loc, fv_bin, fv_cmp, fv_chain, fv_and, fv_or, fv_not, fv_ite, fv_tup, fv_lst, fv_dic, fv_star, fv_idx, fv_slice, fv_rev, fv_call, fv_bi, fv_isi, fv_me, fv_comp, fvs_cons, ev_nop, ev_non, ev_bl, ev_int, ev_str, ev_glo, ev_neg_int, evs_nil, thenS_nx, thenS_rt, thenS_exc, asgK_ok, asgK_exc, asgT_some, parA_ok, parB_ok, putA_ok, putB_ok, putC_ok, putR_some, expK_ok, expK_exc, retK_ok, retK_exc, iteK_ok, iteB_t, iteB_f, forA_ok, forB_some, frzA_ref, frzB_l, frzB_d, getK_s, binA_ok, binB_ok, cmpA_ok, cmpB_ok, chA_ok, chB_ok, chC_t, chC_f, andK_ok, andB_t, andB_f, orK_ok, orB_t, orB_f, notK_ok, notB_s, iteE_ok, iteEB_t, iteEB_f, tupK_ok, lstK_ok, dicK_ok, idxA_ok, idxB_ok, slA_ok, slB_n, slB_i, slC_n, slC_i, revK_ok, clA_ok, clB_ok, clC_s, biK_ok, isiK_ok, meA_ok, meB_t, meC_ok, cmA_ok, cmB_s, cmC_ok, esA_f, esA_t, spl_l, spl_t, esB_s, esC_ok, prC_s, prB_s, pr_nil, pr_cons, fin_rt', fin_nx', it_lst, it_ro, it_tup, it_str, tg_nm, tg_tup, sa_nil, sa_cons, ns_0, ns_1, ns_2, ns_3, ns_4, ns_5, ns_6, ns_7, ns_8, ns_9, ns_10, ns_11, ns_12, ns_13, ns_14, ns_15, ns_16, ns_17, ns_18, ns_19, ns_20, ns_21, ns_22, ns_23, ns_24, ns_25, ns_star, sat_ok, osat_nx, osat_rt, List.getElem?_cons_zero, List.getElem?_cons_succ, List.set, List.cons_append, List.nil_append, List.append_nil, wipe_nil, wipe_cons, view_non, view_bl, view_int, view_str, view_tup', view_lst, view_ro, view_dic, view_set, tr_non, tr_bl, tr_int, tr_tup, tr_lst, nl_nil, nl_cons1, nl2, nl3, nl4, nl5, nl6, nl7, nl8, nt0, nt1, nt2, nt3, nt4, mo_join, mo_app, mo_pop, mo_ext, mo_get, bi_lenl, bi_lent, bi_listl, bi_listt, bi_listd, bi_tupl, bi_int, b_add, b_sub, b_addl, b_addt, c_eqi, c_eqs, c_nei, c_nes, c_lti, c_lei, c_gti, c_gei, c_les, i_tup, i_lst, isi_str, isi_tup, isi_int, isi_lst, opt_non, opt_int, List.map_cons, List.map_nil, List.length_cons, List.length_nil, Nat.sub_self, List.replicate_zero, Nat.reduceAdd, Nat.reduceSub, List.reduceReplicate, Option.some.injEq, g3, j3, decide_eq_true hr, leave_S0]
    rfl
  · cases hE : SG.isEmpty with
    | true =>
      refine ⟨.part j, δ2, j1, j2.le (by omega), ?_⟩
      simp only [fx_nil, fx_one, fx_cons, fx_asg, fx_par, fx_put, fx_exp, fx_ret, fx_ite, fx_for, fx_pass, fx_frz, fv_loc, fv_bin, fv_cmp, fv_chain, fv_and, fv_or, fv_not, fv_ite, fv_tup, fv_lst, fv_dic, fv_star, fv_idx, fv_slice, fv_rev, fv_call, fv_bi, fv_isi, fv_me, fv_comp, fvs_cons, ev_nop, ev_non, ev_bl, ev_int, ev_str, ev_glo, ev_neg_int, evs_nil, thenS_nx, thenS_rt, thenS_exc, asgK_ok, asgK_exc, asgT_some, parA_ok, parB_ok, putA_ok, putB_ok, putC_ok, putR_some, expK_ok, expK_exc, retK_ok, retK_exc, iteK_ok, iteB_t, iteB_f, forA_ok, forB_some, frzA_ref, frzB_l, frzB_d, getK_s, binA_ok, binB_ok, cmpA_ok, cmpB_ok, chA_ok, chB_ok, chC_t, chC_f, andK_ok, andB_t, andB_f, orK_ok, orB_t, orB_f, notK_ok, notB_s, iteE_ok, iteEB_t, iteEB_f, tupK_ok, lstK_ok, dicK_ok, idxA_ok, idxB_ok, slA_ok, slB_n, slB_i, slC_n, slC_i, revK_ok, clA_ok, clB_ok, clC_s, biK_ok, isiK_ok, meA_ok, meB_t, meC_ok, cmA_ok, cmB_s, cmC_ok, esA_f, esA_t, spl_l, spl_t, esB_s, esC_ok, prC_s, prB_s, pr_nil, pr_cons, fin_rt', fin_nx', it_lst, it_ro, it_tup, it_str, tg_nm, tg_tup, sa_nil, sa_cons, ns_0, ns_1, ns_2, ns_3, ns_4, ns_5, ns_6, ns_7, ns_8, ns_9, ns_10, ns_11, ns_12, ns_13, ns_14, ns_15, ns_16, ns_17, ns_18, ns_19, ns_20, ns_21, ns_22, ns_23, ns_24, ns_25, ns_star, sat_ok, osat_nx, osat_rt, List.getElem?_cons_zero, List.getElem?_cons_succ, List.set, List.cons_append, List.nil_append, List.append_nil, wipe_nil, wipe_cons, view_non, view_bl, view_int, view_str, view_tup', view_lst, view_ro, view_dic, view_set, tr_non, tr_bl, tr_int, tr_tup, tr_lst, nl_nil, nl_cons1, nl2, nl3, nl4, nl5, nl6, nl7, nl8, nt0, nt1, nt2, nt3, nt4, mo_join, mo_app, mo_pop, mo_ext, mo_get, bi_lenl, bi_lent, bi_listl, bi_listt, bi_listd, bi_tupl, bi_int, b_add, b_sub, b_addl, b_addt, c_eqi, c_eqs, c_nei, c_nes, c_lti, c_lei, c_gti, c_gei, c_les, i_tup, i_lst, isi_str, isi_tup, isi_int, isi_lst, opt_non, opt_int, List.map_cons, List.map_nil, List.length_cons, List.length_nil, Nat.sub_self, List.replicate_zero, Nat.reduceAdd, Nat.reduceSub, List.reduceReplicate, Option.some.injEq, g3, j3, decide_eq_false hr, hnil, hE, leave_S0]
      rfl
    | false =>
      have hne : SG ≠ [] := fun e => by rw [e] at hE; cases hE
      obtain ⟨d, δ3, q1, q2, q3⟩ := g_pick (pr := pr) (k := k) (xs := SG.map D.str) (by omega) (by simpa using hne) (by rw [List.length_map]; omega) j2 (by omega) X
      obtain ⟨c, hc, rfl⟩ := List.mem_map.mp q1
      by_cases h1 : (r : Int) = 1
      · refine ⟨.around c j, δ3, ⟨(hg c hc).2, j1⟩, q2.le (by omega), ?_⟩
        simp only [fx_nil, fx_one, fx_cons, fx_asg, fx_par, fx_put, fx_exp, fx_ret, fx_ite, fx_for, fx_pass, fx_frz, fv_loc, fv_bin, fv_cmp, fv_chain, fv_and, fv_or, fv_not, fv_ite, fv_tup, fv_lst, fv_dic, fv_star, fv_idx, fv_slice, fv_rev, fv_call, fv_bi, fv_isi, fv_me, fv_comp, fvs_cons, ev_nop, ev_non, ev_bl, ev_int, ev_str, ev_glo, ev_neg_int, evs_nil, thenS_nx, thenS_rt, thenS_exc, asgK_ok, asgK_exc, asgT_some, parA_ok, parB_ok, putA_ok, putB_ok, putC_ok, putR_some, expK_ok, expK_exc, retK_ok, retK_exc, iteK_ok, iteB_t, iteB_f, forA_ok, forB_some, frzA_ref, frzB_l, frzB_d, getK_s, binA_ok, binB_ok, cmpA_ok, cmpB_ok, chA_ok, chB_ok, chC_t, chC_f, andK_ok, andB_t, andB_f, orK_ok, orB_t, orB_f, notK_ok, notB_s, iteE_ok, iteEB_t, iteEB_f, tupK_ok, lstK_ok, dicK_ok, idxA_ok, idxB_ok, slA_ok, slB_n, slB_i, slC_n, slC_i, revK_ok, clA_ok, clB_ok, clC_s, biK_ok, isiK_ok, meA_ok, meB_t, meC_ok, cmA_ok, cmB_s, cmC_ok, esA_f, esA_t, spl_l, spl_t, esB_s, esC_ok, prC_s, prB_s, pr_nil, pr_cons, fin_rt', fin_nx', it_lst, it_ro, it_tup, it_str, tg_nm, tg_tup, sa_nil, sa_cons, ns_0, ns_1, ns_2, ns_3, ns_4, ns_5, ns_6, ns_7, ns_8, ns_9, ns_10, ns_11, ns_12, ns_13, ns_14, ns_15, ns_16, ns_17, ns_18, ns_19, ns_20, ns_21, ns_22, ns_23, ns_24, ns_25, ns_star, sat_ok, osat_nx, osat_rt, List.getElem?_cons_zero, List.getElem?_cons_succ, List.set, List.cons_append, List.nil_append, List.append_nil, wipe_nil, wipe_cons, view_non, view_bl, view_int, view_str, view_tup', view_lst, view_ro, view_dic, view_set, tr_non, tr_bl, tr_int, tr_tup, tr_lst, nl_nil, nl_cons1, nl2, nl3, nl4, nl5, nl6, nl7, nl8, nt0, nt1, nt2, nt3, nt4, mo_join, mo_app, mo_pop, mo_ext, mo_get, bi_lenl, bi_lent, bi_listl, bi_listt, bi_listd, bi_tupl, bi_int, b_add, b_sub, b_addl, b_addt, c_eqi, c_eqs, c_nei, c_nes, c_lti, c_lei, c_gti, c_gei, c_les, i_tup, i_lst, isi_str, isi_tup, isi_int, isi_lst, opt_non, opt_int, List.map_cons, List.map_nil, List.length_cons, List.length_nil, Nat.sub_self, List.replicate_zero, Nat.reduceAdd, Nat.reduceSub, List.reduceReplicate, Option.some.injEq, g3, j3, decide_eq_false hr, hnil, hE, q3, decide_eq_true h1, leave_S0]
        rfl
      · refine ⟨.inside j c, δ3, ⟨j1, (hg c hc).2⟩, q2.le (by omega), ?_⟩
        simp only [fx_nil, fx_one, fx_cons, fx_asg, fx_par, fx_put, fx_exp, fx_ret, fx_ite, fx_for, fx_pass, fx_frz, fv_loc, fv_bin, fv_cmp, fv_chain, fv_and, fv_or, fv_not, fv_ite, fv_tup, fv_lst, fv_dic, fv_star, fv_idx, fv_slice, fv_rev, fv_call, fv_bi, fv_isi, fv_me, fv_comp, fvs_cons, ev_nop, ev_non, ev_bl, ev_int, ev_str, ev_glo, ev_neg_int, evs_nil, thenS_nx, thenS_rt, thenS_exc, asgK_ok, asgK_exc, asgT_some, parA_ok, parB_ok, putA_ok, putB_ok, putC_ok, putR_some, expK_ok, expK_exc, retK_ok, retK_exc, iteK_ok, iteB_t, iteB_f, forA_ok, forB_some, frzA_ref, frzB_l, frzB_d, getK_s, binA_ok, binB_ok, cmpA_ok, cmpB_ok, chA_ok, chB_ok, chC_t, chC_f, andK_ok, andB_t, andB_f, orK_ok, orB_t, orB_f, notK_ok, notB_s, iteE_ok, iteEB_t, iteEB_f, tupK_ok, lstK_ok, dicK_ok, idxA_ok, idxB_ok, slA_ok, slB_n, slB_i, slC_n, slC_i, revK_ok, clA_ok, clB_ok, clC_s, biK_ok, isiK_ok, meA_ok, meB_t, meC_ok, cmA_ok, cmB_s, cmC_ok, esA_f, esA_t, spl_l, spl_t, esB_s, esC_ok, prC_s, prB_s, pr_nil, pr_cons, fin_rt', fin_nx', it_lst, it_ro, it_tup, it_str, tg_nm, tg_tup, sa_nil, sa_cons, ns_0, ns_1, ns_2, ns_3, ns_4, ns_5, ns_6, ns_7, ns_8, ns_9, ns_10, ns_11, ns_12, ns_13, ns_14, ns_15, ns_16, ns_17, ns_18, ns_19, ns_20, ns_21, ns_22, ns_23, ns_24, ns_25, ns_star, sat_ok, osat_nx, osat_rt, List.getElem?_cons_zero, List.getElem?_cons_succ, List.set, List.cons_append, List.nil_append, List.append_nil, wipe_nil, wipe_cons, view_non, view_bl, view_int, view_str, view_tup', view_lst, view_ro, view_dic, view_set, tr_non, tr_bl, tr_int, tr_tup, tr_lst, nl_nil, nl_cons1, nl2, nl3, nl4, nl5, nl6, nl7, nl8, nt0, nt1, nt2, nt3, nt4, mo_join, mo_app, mo_pop, mo_ext, mo_get, bi_lenl, bi_lent, bi_listl, bi_listt, bi_listd, bi_tupl, bi_int, b_add, b_sub, b_addl, b_addt, c_eqi, c_eqs, c_nei, c_nes, c_lti, c_lei, c_gti, c_gei, c_les, i_tup, i_lst, isi_str, isi_tup, isi_int, isi_lst, opt_non, opt_int, List.map_cons, List.map_nil, List.length_cons, List.length_nil, Nat.sub_self, List.replicate_zero, Nat.reduceAdd, Nat.reduceSub, List.reduceReplicate, Option.some.injEq, g3, j3, decide_eq_false hr, hnil, hE, q3, decide_eq_false h1, leave_S0]
        rfl
/-- a comprehension whose items are drawn -/
theorem comp_draw {Φ : CallSem} {γ ι : Type} (g : ι → D) (f : γ → D) (Pg : γ → Prop) (c : Nat) {i : Nat} {elt : Ex} {ρ : Iv.Env} {X : Store} {xs : List ι} {δ : Dk} {n B : Nat} (hn : n + c * xs.length ≤ B) (hl : xs.length ≤ 1000)
    (h : ∀ x ∈ xs, ∀ (δ : Dk) (m : Nat), δ.ok m → m + c ≤ B → ∃ (y : γ) (δ' : Dk), Pg y ∧ δ'.ok (m + c) ∧ ev Φ elt (ρ.set i (some (g x))) (S δ ++ X) = .ok (f y) (S δ' ++ X)) (hδ : δ.ok n) :
    (compL (.nm i) (ev Φ (.bl true)) (ev Φ elt) ρ (xs.map g) [] (S δ ++ X)).sat fun vs σ => ∃ (ys : List γ) (δ' : Dk), vs = ys.map f ∧ σ = S δ' ++ X ∧ ys.length = xs.length ∧ (∀ y ∈ ys, Pg y) ∧ δ'.ok (n + c * xs.length) := by
  refine sat_comp g (fun r acc σ => ∃ (pre : List ι) (ys : List γ) (δ' : Dk), xs = pre ++ r ∧ acc = ys.map f ∧ σ = S δ' ++ X ∧ ys.length = pre.length ∧ (∀ y ∈ ys, Pg y) ∧ δ'.ok (n + c * pre.length)) ?_ ?_ ?_
  · exact ⟨[], [], δ, rfl, rfl, rfl, rfl, (fun y hy => by cases hy), hδ⟩
  · rintro x r acc σ ⟨pre, ys, δ', rfl, rfl, rfl, h1, h2, h3⟩
    refine ⟨_, rfl, ?_⟩
    rw [List.length_append, List.length_cons] at hl hn
    have hc : c * (pre.length + (r.length + 1)) = c * pre.length + c + c * r.length := by rw [Nat.mul_add, Nat.mul_add, Nat.mul_one]; omega
    rw [ev_bl, sat_ok]
    refine ⟨true, rfl, ?_⟩
    rw [if_pos rfl]
    obtain ⟨y, δ2, k1, k2, k3⟩ := h x (List.mem_append.mpr (.inr List.mem_cons_self)) δ' _ h3 (by omega)
    refine ⟨by rw [List.length_map, lim_v]; omega, ?_⟩
    rw [k3, sat_ok]
    refine ⟨pre ++ [x], ys ++ [y], δ2, by simp, by simp, rfl, by simp [h1], fun z hz => ?_, k2.le (by rw [List.length_append, List.length_singleton, Nat.mul_add]; omega)⟩
    rcases List.mem_append.mp hz with hz | hz
    · exact h2 z hz
    · rw [List.mem_singleton] at hz; subst hz; exact k1
  · rintro acc σ ⟨pre, ys, δ', h0, rfl, rfl, h1, h2, h3⟩
    rw [List.append_nil] at h0
    subst h0
    exact ⟨ys, δ', rfl, rfl, h1, h2, h3⟩
theorem S_len {δ : Dk} : (S δ).length = 2 := rfl
section
variable {δ : Dk} {X L : Store} {i : Nat} {c : Cell}
theorem sx_at : (S δ ++ (X ++ L))[2 + (X.length + i)]? = L[i]? := by
  rw [List.getElem?_append_right (by rw [S_len]; omega), List.getElem?_append_right (by rw [S_len]; omega), S_len]
  congr 1; omega
theorem sx_at0 : (S δ ++ (X ++ L))[2 + X.length]? = L[0]? := sx_at (i := 0)
theorem sx_set : (S δ ++ (X ++ L)).set (2 + (X.length + i)) c = S δ ++ (X ++ L.set i c) := by
  rw [List.set_append_right _ _ (by rw [S_len]; omega), List.set_append_right _ _ (by rw [S_len]; omega), S_len]
  congr 3; omega
theorem sx_set0 : (S δ ++ (X ++ L)).set (2 + X.length) c = S δ ++ (X ++ L.set 0 c) := sx_set (i := 0)
end
theorem leave_S' {δ δ' : Dk} {X Y : Store} {d : D} (h : d.under (2 + X.length) = true) : leave (S δ ++ X) d (S δ' ++ (X ++ Y)) = .ok d (S δ' ++ X) := by
  rw [← List.append_assoc]; exact leave_S h
theorem g_kit {k n : Nat} (hk : 4 ≤ k) {δ : Dk} (hδ : δ.ok n) (hn : n + 100 < 1000000000) (X : Store) :
    ∃ (MK : List (Str × Nat)) (OS : List Op) (δ' : Dk), KitOk MK OS ∧ δ'.ok (n + 100) ∧ callK pr k 16 [.ref 1] (S δ ++ X) = .ok (.tup [.tup (MK.map mkd), .tup (OS.map Op.d)]) (S δ' ++ X) := by
  obtain ⟨k, rfl⟩ : ∃ j, k = j + 1 := ⟨k - 1, by omega⟩
  have h : Drawn δ X (n + 100) (fun d => ∃ (MK : List (Str × Nat)) (OS : List Op), KitOk MK OS ∧ d = .tup [.tup (MK.map mkd), .tup (OS.map Op.d)]) (callK pr (k + 1) 16 [.ref 1] (S δ ++ X)) := by
    unfold Drawn
    rw [callK_run KitA.kit rfl]
    unfold b_kitA
    simp only [fx_nil, fx_one, fx_cons, fx_asg, fx_par, fx_put, fx_exp, fx_ret, fx_ite, fx_for, fx_pass, fx_frz, fv_loc, fv_bin, fv_cmp, fv_chain, fv_and, fv_or, fv_not, fv_ite, fv_tup, fv_lst, fv_dic, fv_star, fv_idx, fv_slice, fv_rev, fv_call, fv_bi, fv_isi, fv_me, fv_comp, fvs_cons, ev_nop, ev_non, ev_bl, ev_int, ev_str, ev_glo, ev_neg_int, evs_nil, thenS_nx, thenS_rt, thenS_exc, asgK_ok, asgK_exc, asgT_some, parA_ok, parB_ok, putA_ok, putB_ok, putC_ok, putR_some, expK_ok, expK_exc, retK_ok, retK_exc, iteK_ok, iteB_t, iteB_f, forA_ok, forB_some, frzA_ref, frzB_l, frzB_d, getK_s, binA_ok, binB_ok, cmpA_ok, cmpB_ok, chA_ok, chB_ok, chC_t, chC_f, andK_ok, andB_t, andB_f, orK_ok, orB_t, orB_f, notK_ok, notB_s, iteE_ok, iteEB_t, iteEB_f, tupK_ok, lstK_ok, dicK_ok, idxA_ok, idxB_ok, slA_ok, slB_n, slB_i, slC_n, slC_i, revK_ok, clA_ok, clB_ok, clC_s, biK_ok, isiK_ok, meA_ok, meB_t, meC_ok, cmA_ok, cmB_s, cmC_ok, esA_f, esA_t, spl_l, spl_t, esB_s, esC_ok, prC_s, prB_s, pr_nil, pr_cons, fin_rt', fin_nx', it_lst, it_ro, it_tup, it_str, tg_nm, tg_tup, sa_nil, sa_cons, ns_0, ns_1, ns_2, ns_3, ns_4, ns_5, ns_6, ns_7, ns_8, ns_9, ns_10, ns_11, ns_12, ns_13, ns_14, ns_15, ns_16, ns_17, ns_18, ns_19, ns_20, ns_21, ns_22, ns_23, ns_24, ns_25, ns_star, sat_ok, osat_nx, osat_rt, List.getElem?_cons_zero, List.getElem?_cons_succ, List.set, List.cons_append, List.nil_append, List.append_nil, wipe_nil, wipe_cons, view_non, view_bl, view_int, view_str, view_tup', view_lst, view_ro, view_dic, view_set, tr_non, tr_bl, tr_int, tr_tup, tr_lst, nl_nil, nl_cons1, nl2, nl3, nl4, nl5, nl6, nl7, nl8, nt0, nt1, nt2, nt3, nt4, mo_join, mo_app, mo_pop, mo_ext, mo_get, bi_lenl, bi_lent, bi_listl, bi_listt, bi_listd, bi_tupl, bi_int, b_add, b_sub, b_addl, b_addt, c_eqi, c_eqs, c_nei, c_nes, c_lti, c_lei, c_gti, c_gei, c_les, i_tup, i_lst, isi_str, isi_tup, isi_int, isi_lst, opt_non, opt_int, List.map_cons, List.map_nil, List.length_cons, List.length_nil, Nat.sub_self, List.replicate_zero, Nat.reduceAdd, Nat.reduceSub, List.reduceReplicate, Option.some.injEq, nlm_nil, List.append_assoc, List.length_append, S_len]
    rw [show [D.str "box", .str "half", .str "lock", .str "mark", .str "pair", .str "q", .str "seal", .str "zzzzzzzz"] = wordsK.map D.str from rfl]
    refine fsat (osat_for D.str (fun r ρ σ => ∃ (pre : List Str) (MK : List (Str × Nat)) (δ' : Dk) (z : Option D), ρ = [some (.ref 1), z, some (.ref (2 + X.length)), none, some (.ref (2 + (X.length + 1))), none, none, none, none] ∧ σ = S δ' ++ (X ++ [.lst (MK.map mkd), .lst []]) ∧
      wordsK = pre ++ r ∧ (MK.map (·.1)).Sublist pre ∧ (∀ p ∈ MK, 1 ≤ p.2 ∧ p.2 ≤ 3) ∧ δ'.ok (n + 2 * pre.length)) ?_ ?_ ?_)
    · exact ⟨[], [], δ, none, rfl, rfl, rfl, List.Sublist.refl _, (fun p hp => by cases hp), hδ⟩
    · rintro x r ρ σ ⟨pre, MK, δ', z, rfl, rfl, h1, h2, h3, h4⟩
      refine ⟨_, rfl, ?_⟩
      have hl := congrArg List.length h1
      rw [List.length_append, List.length_cons] at hl
      have hl8 : wordsK.length = 8 := rfl
      have hml := h2.length_le
      rw [List.length_map] at hml
      obtain ⟨a, δ1, g1, g2, g3⟩ := g_draw (pr := pr) (k := k) (m := 2) (by omega) (by omega) (by omega) h4 (by omega) (X ++ [.lst (MK.map mkd), .lst []])
      have g3 : callK pr k 13 [.ref 1, .int 2] _ = _ := g3
      have e1 : wordsK = (pre ++ [x]) ++ r := by rw [h1]; simp
      by_cases ha : (a : Int) = 0
      · obtain ⟨b, δ2, b1, b2, b3⟩ := g_draw (pr := pr) (k := k) (m := 3) (by omega) (by omega) (by omega) g2 (by omega) (X ++ [.lst (MK.map mkd), .lst []])
        have b3 : callK pr k 13 [.ref 1, .int 3] _ = _ := b3
        have hlt : (MK.map mkd).length < lim := by rw [List.length_map, lim_v]; omega
        simp only [fx_nil, fx_one, fx_cons, fx_asg, fx_par, fx_put, fx_exp, fx_ret, fx_ite, fx_for, fx_pass, fx_frz, fv_loc, fv_bin, fv_cmp, fv_chain, fv_and, fv_or, fv_not, fv_ite, fv_tup, fv_lst, fv_dic, fv_star, fv_idx, fv_slice, fv_rev, fv_call, fv_bi, fv_isi, fv_me, fv_comp, fvs_cons, ev_nop, ev_non, ev_bl, ev_int, ev_str, ev_glo, ev_neg_int, evs_nil, thenS_nx, thenS_rt, thenS_exc, asgK_ok, asgK_exc, asgT_some, parA_ok, parB_ok, putA_ok, putB_ok, putC_ok, putR_some, expK_ok, expK_exc, retK_ok, retK_exc, iteK_ok, iteB_t, iteB_f, forA_ok, forB_some, frzA_ref, frzB_l, frzB_d, getK_s, binA_ok, binB_ok, cmpA_ok, cmpB_ok, chA_ok, chB_ok, chC_t, chC_f, andK_ok, andB_t, andB_f, orK_ok, orB_t, orB_f, notK_ok, notB_s, iteE_ok, iteEB_t, iteEB_f, tupK_ok, lstK_ok, dicK_ok, idxA_ok, idxB_ok, slA_ok, slB_n, slB_i, slC_n, slC_i, revK_ok, clA_ok, clB_ok, clC_s, biK_ok, isiK_ok, meA_ok, meB_t, meC_ok, cmA_ok, cmB_s, cmC_ok, esA_f, esA_t, spl_l, spl_t, esB_s, esC_ok, prC_s, prB_s, pr_nil, pr_cons, fin_rt', fin_nx', it_lst, it_ro, it_tup, it_str, tg_nm, tg_tup, sa_nil, sa_cons, ns_0, ns_1, ns_2, ns_3, ns_4, ns_5, ns_6, ns_7, ns_8, ns_9, ns_10, ns_11, ns_12, ns_13, ns_14, ns_15, ns_16, ns_17, ns_18, ns_19, ns_20, ns_21, ns_22, ns_23, ns_24, ns_25, ns_star, sat_ok, osat_nx, osat_rt, List.getElem?_cons_zero, List.getElem?_cons_succ, List.set, List.cons_append, List.nil_append, List.append_nil, wipe_nil, wipe_cons, view_non, view_bl, view_int, view_str, view_tup', view_lst, view_ro, view_dic, view_set, tr_non, tr_bl, tr_int, tr_tup, tr_lst, nl_nil, nl_cons1, nl2, nl3, nl4, nl5, nl6, nl7, nl8, nt0, nt1, nt2, nt3, nt4, mo_join, mo_app, mo_pop, mo_ext, mo_get, bi_lenl, bi_lent, bi_listl, bi_listt, bi_listd, bi_tupl, bi_int, b_add, b_sub, b_addl, b_addt, c_eqi, c_eqs, c_nei, c_nes, c_lti, c_lei, c_gti, c_gei, c_les, i_tup, i_lst, isi_str, isi_tup, isi_int, isi_lst, opt_non, opt_int, List.map_cons, List.map_nil, List.length_cons, List.length_nil, Nat.sub_self, List.replicate_zero, Nat.reduceAdd, Nat.reduceSub, List.reduceReplicate, Option.some.injEq, vw_ref, viewC_l, viewC_d, rf_idx, rf_bi, rf_slice, rf_rev, rf_cmp1, rf_cmp2, rf_bin1, rf_bin2, rf_app, appC_l, rf_ext, extC_l, rf_pop, popC_l, rf_put, putC_s, putC_i, g3, decide_eq_true ha, b3, sx_at0, sx_at, sx_set0, sx_set, hlt]
        refine ⟨pre ++ [x], MK ++ [(x, b + 1)], δ2, _, rfl, ?_, e1, ?_, ?_, b2.le (by rw [List.length_append, List.length_singleton]; omega)⟩
        · rw [List.map_append]
          have e2 : (1 : Int) + (b : Int) = ((b + 1 : Nat) : Int) := by omega
          rw [e2]; rfl
        · rw [List.map_append]; exact h2.append (List.Sublist.refl _)
        · intro p hp
          rcases List.mem_append.mp hp with hp | hp
          · exact h3 p hp
          · rw [List.mem_singleton] at hp; subst hp; show 1 ≤ b + 1 ∧ b + 1 ≤ 3; omega
      · simp only [fx_nil, fx_one, fx_cons, fx_asg, fx_par, fx_put, fx_exp, fx_ret, fx_ite, fx_for, fx_pass, fx_frz, fv_loc, fv_bin, fv_cmp, fv_chain, fv_and, fv_or, fv_not, fv_ite, fv_tup, fv_lst, fv_dic, fv_star, fv_idx, fv_slice, fv_rev, fv_call, fv_bi, fv_isi, fv_me, fv_comp, fvs_cons, ev_nop, ev_non, ev_bl, ev_int, ev_str, ev_glo, ev_neg_int, evs_nil, thenS_nx, thenS_rt, thenS_exc, asgK_ok, asgK_exc, asgT_some, parA_ok, parB_ok, putA_ok, putB_ok, putC_ok, putR_some, expK_ok, expK_exc, retK_ok, retK_exc, iteK_ok, iteB_t, iteB_f, forA_ok, forB_some, frzA_ref, frzB_l, frzB_d, getK_s, binA_ok, binB_ok, cmpA_ok, cmpB_ok, chA_ok, chB_ok, chC_t, chC_f, andK_ok, andB_t, andB_f, orK_ok, orB_t, orB_f, notK_ok, notB_s, iteE_ok, iteEB_t, iteEB_f, tupK_ok, lstK_ok, dicK_ok, idxA_ok, idxB_ok, slA_ok, slB_n, slB_i, slC_n, slC_i, revK_ok, clA_ok, clB_ok, clC_s, biK_ok, isiK_ok, meA_ok, meB_t, meC_ok, cmA_ok, cmB_s, cmC_ok, esA_f, esA_t, spl_l, spl_t, esB_s, esC_ok, prC_s, prB_s, pr_nil, pr_cons, fin_rt', fin_nx', it_lst, it_ro, it_tup, it_str, tg_nm, tg_tup, sa_nil, sa_cons, ns_0, ns_1, ns_2, ns_3, ns_4, ns_5, ns_6, ns_7, ns_8, ns_9, ns_10, ns_11, ns_12, ns_13, ns_14, ns_15, ns_16, ns_17, ns_18, ns_19, ns_20, ns_21, ns_22, ns_23, ns_24, ns_25, ns_star, sat_ok, osat_nx, osat_rt, List.getElem?_cons_zero, List.getElem?_cons_succ, List.set, List.cons_append, List.nil_append, List.append_nil, wipe_nil, wipe_cons, view_non, view_bl, view_int, view_str, view_tup', view_lst, view_ro, view_dic, view_set, tr_non, tr_bl, tr_int, tr_tup, tr_lst, nl_nil, nl_cons1, nl2, nl3, nl4, nl5, nl6, nl7, nl8, nt0, nt1, nt2, nt3, nt4, mo_join, mo_app, mo_pop, mo_ext, mo_get, bi_lenl, bi_lent, bi_listl, bi_listt, bi_listd, bi_tupl, bi_int, b_add, b_sub, b_addl, b_addt, c_eqi, c_eqs, c_nei, c_nes, c_lti, c_lei, c_gti, c_gei, c_les, i_tup, i_lst, isi_str, isi_tup, isi_int, isi_lst, opt_non, opt_int, List.map_cons, List.map_nil, List.length_cons, List.length_nil, Nat.sub_self, List.replicate_zero, Nat.reduceAdd, Nat.reduceSub, List.reduceReplicate, Option.some.injEq, vw_ref, viewC_l, viewC_d, rf_idx, rf_bi, rf_slice, rf_rev, rf_cmp1, rf_cmp2, rf_bin1, rf_bin2, rf_app, appC_l, rf_ext, extC_l, rf_pop, popC_l, rf_put, putC_s, putC_i, g3, decide_eq_false ha]
        exact ⟨pre ++ [x], MK, δ1, _, rfl, rfl, e1, h2.trans (List.sublist_append_left _ _), h3, g2.le (by rw [List.length_append, List.length_singleton]; omega)⟩
    · rintro ρ σ ⟨pre, MK, δ', z, rfl, rfl, h1, h2, h3, h4⟩
      have hl := congrArg List.length h1
      rw [List.append_nil] at h1 hl
      have hl8 : wordsK.length = 8 := rfl
      have hml := h2.length_le
      rw [List.length_map] at hml
      have hne : ∀ τ : Store, cmpD .ne (.lst (MK.map mkd)) (.lst []) τ = .ok (.bl (!MK.isEmpty)) τ := fun τ => by
        have hg : ∀ p ∈ MK, gd p.1 = true := fun p hp => wordsK_gd _ (by rw [h1]; exact h2.subset (List.mem_map_of_mem hp))
        have := c_nenil (b := false) (x := .lst (MK.map mkd)) (σ := τ) rfl (sims_map fun p hp => (mkd_sim (hg p hp)).1) (Nat.le_trans (dps_map (n := 1) fun p hp => (mkd_sim (hg p hp)).2) (by decide))
        rwa [map_isEmpty] at this
      simp only [fx_nil, fx_one, fx_cons, fx_asg, fx_par, fx_put, fx_exp, fx_ret, fx_ite, fx_for, fx_pass, fx_frz, fv_loc, fv_bin, fv_cmp, fv_chain, fv_and, fv_or, fv_not, fv_ite, fv_tup, fv_lst, fv_dic, fv_star, fv_idx, fv_slice, fv_rev, fv_call, fv_bi, fv_isi, fv_me, fv_comp, fvs_cons, ev_nop, ev_non, ev_bl, ev_int, ev_str, ev_glo, ev_neg_int, evs_nil, thenS_nx, thenS_rt, thenS_exc, asgK_ok, asgK_exc, asgT_some, parA_ok, parB_ok, putA_ok, putB_ok, putC_ok, putR_some, expK_ok, expK_exc, retK_ok, retK_exc, iteK_ok, iteB_t, iteB_f, forA_ok, forB_some, frzA_ref, frzB_l, frzB_d, getK_s, binA_ok, binB_ok, cmpA_ok, cmpB_ok, chA_ok, chB_ok, chC_t, chC_f, andK_ok, andB_t, andB_f, orK_ok, orB_t, orB_f, notK_ok, notB_s, iteE_ok, iteEB_t, iteEB_f, tupK_ok, lstK_ok, dicK_ok, idxA_ok, idxB_ok, slA_ok, slB_n, slB_i, slC_n, slC_i, revK_ok, clA_ok, clB_ok, clC_s, biK_ok, isiK_ok, meA_ok, meB_t, meC_ok, cmA_ok, cmB_s, cmC_ok, esA_f, esA_t, spl_l, spl_t, esB_s, esC_ok, prC_s, prB_s, pr_nil, pr_cons, fin_rt', fin_nx', it_lst, it_ro, it_tup, it_str, tg_nm, tg_tup, sa_nil, sa_cons, ns_0, ns_1, ns_2, ns_3, ns_4, ns_5, ns_6, ns_7, ns_8, ns_9, ns_10, ns_11, ns_12, ns_13, ns_14, ns_15, ns_16, ns_17, ns_18, ns_19, ns_20, ns_21, ns_22, ns_23, ns_24, ns_25, ns_star, sat_ok, osat_nx, osat_rt, List.getElem?_cons_zero, List.getElem?_cons_succ, List.set, List.cons_append, List.nil_append, List.append_nil, wipe_nil, wipe_cons, view_non, view_bl, view_int, view_str, view_tup', view_lst, view_ro, view_dic, view_set, tr_non, tr_bl, tr_int, tr_tup, tr_lst, nl_nil, nl_cons1, nl2, nl3, nl4, nl5, nl6, nl7, nl8, nt0, nt1, nt2, nt3, nt4, mo_join, mo_app, mo_pop, mo_ext, mo_get, bi_lenl, bi_lent, bi_listl, bi_listt, bi_listd, bi_tupl, bi_int, b_add, b_sub, b_addl, b_addt, c_eqi, c_eqs, c_nei, c_nes, c_lti, c_lei, c_gti, c_gei, c_les, i_tup, i_lst, isi_str, isi_tup, isi_int, isi_lst, opt_non, opt_int, List.map_cons, List.map_nil, List.length_cons, List.length_nil, Nat.sub_self, List.replicate_zero, Nat.reduceAdd, Nat.reduceSub, List.reduceReplicate, Option.some.injEq, vw_ref, viewC_l, viewC_d, rf_idx, rf_bi, rf_slice, rf_rev, rf_cmp1, rf_cmp2, rf_bin1, rf_bin2, rf_app, appC_l, rf_ext, extC_l, rf_pop, popC_l, rf_put, putC_s, putC_i, sx_at0, sx_set0, hne]
      refine focus (C := fun r => (fin _ (thenS _ _ (asgK _ _ r))).sat _) (P := fun d τ => τ = S δ' ++ (X ++ [.dead, .lst []]) ∧ ∃ MK2 : List (Str × Nat), MK2 ≠ [] ∧ (MK2.map (·.1)).Sublist wordsK ∧ (∀ p ∈ MK2, 1 ≤ p.2 ∧ p.2 ≤ 3) ∧ d = .lst (MK2.map mkd)) ?_ ?_
      · cases hE : MK.isEmpty with
        | true =>
          simp only [fx_nil, fx_one, fx_cons, fx_asg, fx_par, fx_put, fx_exp, fx_ret, fx_ite, fx_for, fx_pass, fx_frz, fv_loc, fv_bin, fv_cmp, fv_chain, fv_and, fv_or, fv_not, fv_ite, fv_tup, fv_lst, fv_dic, fv_star, fv_idx, fv_slice, fv_rev, fv_call, fv_bi, fv_isi, fv_me, fv_comp, fvs_cons, ev_nop, ev_non, ev_bl, ev_int, ev_str, ev_glo, ev_neg_int, evs_nil, thenS_nx, thenS_rt, thenS_exc, asgK_ok, asgK_exc, asgT_some, parA_ok, parB_ok, putA_ok, putB_ok, putC_ok, putR_some, expK_ok, expK_exc, retK_ok, retK_exc, iteK_ok, iteB_t, iteB_f, forA_ok, forB_some, frzA_ref, frzB_l, frzB_d, getK_s, binA_ok, binB_ok, cmpA_ok, cmpB_ok, chA_ok, chB_ok, chC_t, chC_f, andK_ok, andB_t, andB_f, orK_ok, orB_t, orB_f, notK_ok, notB_s, iteE_ok, iteEB_t, iteEB_f, tupK_ok, lstK_ok, dicK_ok, idxA_ok, idxB_ok, slA_ok, slB_n, slB_i, slC_n, slC_i, revK_ok, clA_ok, clB_ok, clC_s, biK_ok, isiK_ok, meA_ok, meB_t, meC_ok, cmA_ok, cmB_s, cmC_ok, esA_f, esA_t, spl_l, spl_t, esB_s, esC_ok, prC_s, prB_s, pr_nil, pr_cons, fin_rt', fin_nx', it_lst, it_ro, it_tup, it_str, tg_nm, tg_tup, sa_nil, sa_cons, ns_0, ns_1, ns_2, ns_3, ns_4, ns_5, ns_6, ns_7, ns_8, ns_9, ns_10, ns_11, ns_12, ns_13, ns_14, ns_15, ns_16, ns_17, ns_18, ns_19, ns_20, ns_21, ns_22, ns_23, ns_24, ns_25, ns_star, sat_ok, osat_nx, osat_rt, List.getElem?_cons_zero, List.getElem?_cons_succ, List.set, List.cons_append, List.nil_append, List.append_nil, wipe_nil, wipe_cons, view_non, view_bl, view_int, view_str, view_tup', view_lst, view_ro, view_dic, view_set, tr_non, tr_bl, tr_int, tr_tup, tr_lst, nl_nil, nl_cons1, nl2, nl3, nl4, nl5, nl6, nl7, nl8, nt0, nt1, nt2, nt3, nt4, mo_join, mo_app, mo_pop, mo_ext, mo_get, bi_lenl, bi_lent, bi_listl, bi_listt, bi_listd, bi_tupl, bi_int, b_add, b_sub, b_addl, b_addt, c_eqi, c_eqs, c_nei, c_nes, c_lti, c_lei, c_gti, c_gei, c_les, i_tup, i_lst, isi_str, isi_tup, isi_int, isi_lst, opt_non, opt_int, List.map_cons, List.map_nil, List.length_cons, List.length_nil, Nat.sub_self, List.replicate_zero, Nat.reduceAdd, Nat.reduceSub, List.reduceReplicate, Option.some.injEq, Bool.not_true]
          exact ⟨trivial, [("half", 1)], by simp, by decide +kernel, by simp, rfl⟩
        | false =>
          simp only [fx_nil, fx_one, fx_cons, fx_asg, fx_par, fx_put, fx_exp, fx_ret, fx_ite, fx_for, fx_pass, fx_frz, fv_loc, fv_bin, fv_cmp, fv_chain, fv_and, fv_or, fv_not, fv_ite, fv_tup, fv_lst, fv_dic, fv_star, fv_idx, fv_slice, fv_rev, fv_call, fv_bi, fv_isi, fv_me, fv_comp, fvs_cons, ev_nop, ev_non, ev_bl, ev_int, ev_str, ev_glo, ev_neg_int, evs_nil, thenS_nx, thenS_rt, thenS_exc, asgK_ok, asgK_exc, asgT_some, parA_ok, parB_ok, putA_ok, putB_ok, putC_ok, putR_some, expK_ok, expK_exc, retK_ok, retK_exc, iteK_ok, iteB_t, iteB_f, forA_ok, forB_some, frzA_ref, frzB_l, frzB_d, getK_s, binA_ok, binB_ok, cmpA_ok, cmpB_ok, chA_ok, chB_ok, chC_t, chC_f, andK_ok, andB_t, andB_f, orK_ok, orB_t, orB_f, notK_ok, notB_s, iteE_ok, iteEB_t, iteEB_f, tupK_ok, lstK_ok, dicK_ok, idxA_ok, idxB_ok, slA_ok, slB_n, slB_i, slC_n, slC_i, revK_ok, clA_ok, clB_ok, clC_s, biK_ok, isiK_ok, meA_ok, meB_t, meC_ok, cmA_ok, cmB_s, cmC_ok, esA_f, esA_t, spl_l, spl_t, esB_s, esC_ok, prC_s, prB_s, pr_nil, pr_cons, fin_rt', fin_nx', it_lst, it_ro, it_tup, it_str, tg_nm, tg_tup, sa_nil, sa_cons, ns_0, ns_1, ns_2, ns_3, ns_4, ns_5, ns_6, ns_7, ns_8, ns_9, ns_10, ns_11, ns_12, ns_13, ns_14, ns_15, ns_16, ns_17, ns_18, ns_19, ns_20, ns_21, ns_22, ns_23, ns_24, ns_25, ns_star, sat_ok, osat_nx, osat_rt, List.getElem?_cons_zero, List.getElem?_cons_succ, List.set, List.cons_append, List.nil_append, List.append_nil, wipe_nil, wipe_cons, view_non, view_bl, view_int, view_str, view_tup', view_lst, view_ro, view_dic, view_set, tr_non, tr_bl, tr_int, tr_tup, tr_lst, nl_nil, nl_cons1, nl2, nl3, nl4, nl5, nl6, nl7, nl8, nt0, nt1, nt2, nt3, nt4, mo_join, mo_app, mo_pop, mo_ext, mo_get, bi_lenl, bi_lent, bi_listl, bi_listt, bi_listd, bi_tupl, bi_int, b_add, b_sub, b_addl, b_addt, c_eqi, c_eqs, c_nei, c_nes, c_lti, c_lei, c_gti, c_gei, c_les, i_tup, i_lst, isi_str, isi_tup, isi_int, isi_lst, opt_non, opt_int, List.map_cons, List.map_nil, List.length_cons, List.length_nil, Nat.sub_self, List.replicate_zero, Nat.reduceAdd, Nat.reduceSub, List.reduceReplicate, Option.some.injEq, Bool.not_false]
          exact ⟨trivial, MK, (by rintro rfl; cases hE), (by rw [h1]; exact h2), h3, rfl⟩
      · rintro _ _ ⟨rfl, MK, k1, k2, k3, rfl⟩
        have hml := k2.length_le
        rw [List.length_map] at hml
        have tgk : ∀ (p : Str × Nat) (ρ : Iv.Env), tgD (.tup [1, 6]) (mkd p) ρ = some ((ρ.set 1 (some (.str p.1))).set 6 (some (.int p.2))) := fun p ρ => rfl
        simp only [fx_nil, fx_one, fx_cons, fx_asg, fx_par, fx_put, fx_exp, fx_ret, fx_ite, fx_for, fx_pass, fx_frz, fv_loc, fv_bin, fv_cmp, fv_chain, fv_and, fv_or, fv_not, fv_ite, fv_tup, fv_lst, fv_dic, fv_star, fv_idx, fv_slice, fv_rev, fv_call, fv_bi, fv_isi, fv_me, fv_comp, fvs_cons, ev_nop, ev_non, ev_bl, ev_int, ev_str, ev_glo, ev_neg_int, evs_nil, thenS_nx, thenS_rt, thenS_exc, asgK_ok, asgK_exc, asgT_some, parA_ok, parB_ok, putA_ok, putB_ok, putC_ok, putR_some, expK_ok, expK_exc, retK_ok, retK_exc, iteK_ok, iteB_t, iteB_f, forA_ok, forB_some, frzA_ref, frzB_l, frzB_d, getK_s, binA_ok, binB_ok, cmpA_ok, cmpB_ok, chA_ok, chB_ok, chC_t, chC_f, andK_ok, andB_t, andB_f, orK_ok, orB_t, orB_f, notK_ok, notB_s, iteE_ok, iteEB_t, iteEB_f, tupK_ok, lstK_ok, dicK_ok, idxA_ok, idxB_ok, slA_ok, slB_n, slB_i, slC_n, slC_i, revK_ok, clA_ok, clB_ok, clC_s, biK_ok, isiK_ok, meA_ok, meB_t, meC_ok, cmA_ok, cmB_s, cmC_ok, esA_f, esA_t, spl_l, spl_t, esB_s, esC_ok, prC_s, prB_s, pr_nil, pr_cons, fin_rt', fin_nx', it_lst, it_ro, it_tup, it_str, tg_nm, tg_tup, sa_nil, sa_cons, ns_0, ns_1, ns_2, ns_3, ns_4, ns_5, ns_6, ns_7, ns_8, ns_9, ns_10, ns_11, ns_12, ns_13, ns_14, ns_15, ns_16, ns_17, ns_18, ns_19, ns_20, ns_21, ns_22, ns_23, ns_24, ns_25, ns_star, sat_ok, osat_nx, osat_rt, List.getElem?_cons_zero, List.getElem?_cons_succ, List.set, List.cons_append, List.nil_append, List.append_nil, wipe_nil, wipe_cons, view_non, view_bl, view_int, view_str, view_tup', view_lst, view_ro, view_dic, view_set, tr_non, tr_bl, tr_int, tr_tup, tr_lst, nl_nil, nl_cons1, nl2, nl3, nl4, nl5, nl6, nl7, nl8, nt0, nt1, nt2, nt3, nt4, mo_join, mo_app, mo_pop, mo_ext, mo_get, bi_lenl, bi_lent, bi_listl, bi_listt, bi_listd, bi_tupl, bi_int, b_add, b_sub, b_addl, b_addt, c_eqi, c_eqs, c_nei, c_nes, c_lti, c_lei, c_gti, c_gei, c_les, i_tup, i_lst, isi_str, isi_tup, isi_int, isi_lst, opt_non, opt_int, List.map_cons, List.map_nil, List.length_cons, List.length_nil, Nat.sub_self, List.replicate_zero, Nat.reduceAdd, Nat.reduceSub, List.reduceReplicate, Option.some.injEq]
        rw [compL_fT mkd (fun p => decide (p.2 = 1)) (fun p => .str p.1) (fun p hp => ?_) (by rw [lim_v, List.length_nil]; omega)]
        rotate_left
        · refine ⟨_, tgk p _, ?_, fun _ => ?_⟩
          · simp only [fx_nil, fx_one, fx_cons, fx_asg, fx_par, fx_put, fx_exp, fx_ret, fx_ite, fx_for, fx_pass, fx_frz, fv_loc, fv_bin, fv_cmp, fv_chain, fv_and, fv_or, fv_not, fv_ite, fv_tup, fv_lst, fv_dic, fv_star, fv_idx, fv_slice, fv_rev, fv_call, fv_bi, fv_isi, fv_me, fv_comp, fvs_cons, ev_nop, ev_non, ev_bl, ev_int, ev_str, ev_glo, ev_neg_int, evs_nil, thenS_nx, thenS_rt, thenS_exc, asgK_ok, asgK_exc, asgT_some, parA_ok, parB_ok, putA_ok, putB_ok, putC_ok, putR_some, expK_ok, expK_exc, retK_ok, retK_exc, iteK_ok, iteB_t, iteB_f, forA_ok, forB_some, frzA_ref, frzB_l, frzB_d, getK_s, binA_ok, binB_ok, cmpA_ok, cmpB_ok, chA_ok, chB_ok, chC_t, chC_f, andK_ok, andB_t, andB_f, orK_ok, orB_t, orB_f, notK_ok, notB_s, iteE_ok, iteEB_t, iteEB_f, tupK_ok, lstK_ok, dicK_ok, idxA_ok, idxB_ok, slA_ok, slB_n, slB_i, slC_n, slC_i, revK_ok, clA_ok, clB_ok, clC_s, biK_ok, isiK_ok, meA_ok, meB_t, meC_ok, cmA_ok, cmB_s, cmC_ok, esA_f, esA_t, spl_l, spl_t, esB_s, esC_ok, prC_s, prB_s, pr_nil, pr_cons, fin_rt', fin_nx', it_lst, it_ro, it_tup, it_str, tg_nm, tg_tup, sa_nil, sa_cons, ns_0, ns_1, ns_2, ns_3, ns_4, ns_5, ns_6, ns_7, ns_8, ns_9, ns_10, ns_11, ns_12, ns_13, ns_14, ns_15, ns_16, ns_17, ns_18, ns_19, ns_20, ns_21, ns_22, ns_23, ns_24, ns_25, ns_star, sat_ok, osat_nx, osat_rt, List.getElem?_cons_zero, List.getElem?_cons_succ, List.set, List.cons_append, List.nil_append, List.append_nil, wipe_nil, wipe_cons, view_non, view_bl, view_int, view_str, view_tup', view_lst, view_ro, view_dic, view_set, tr_non, tr_bl, tr_int, tr_tup, tr_lst, nl_nil, nl_cons1, nl2, nl3, nl4, nl5, nl6, nl7, nl8, nt0, nt1, nt2, nt3, nt4, mo_join, mo_app, mo_pop, mo_ext, mo_get, bi_lenl, bi_lent, bi_listl, bi_listt, bi_listd, bi_tupl, bi_int, b_add, b_sub, b_addl, b_addt, c_eqi, c_eqs, c_nei, c_nes, c_lti, c_lei, c_gti, c_gei, c_les, i_tup, i_lst, isi_str, isi_tup, isi_int, isi_lst, opt_non, opt_int, List.map_cons, List.map_nil, List.length_cons, List.length_nil, Nat.sub_self, List.replicate_zero, Nat.reduceAdd, Nat.reduceSub, List.reduceReplicate, Option.some.injEq]
            congr 2
            exact decide_eq_decide.mpr (by omega)
          · simp only [fx_nil, fx_one, fx_cons, fx_asg, fx_par, fx_put, fx_exp, fx_ret, fx_ite, fx_for, fx_pass, fx_frz, fv_loc, fv_bin, fv_cmp, fv_chain, fv_and, fv_or, fv_not, fv_ite, fv_tup, fv_lst, fv_dic, fv_star, fv_idx, fv_slice, fv_rev, fv_call, fv_bi, fv_isi, fv_me, fv_comp, fvs_cons, ev_nop, ev_non, ev_bl, ev_int, ev_str, ev_glo, ev_neg_int, evs_nil, thenS_nx, thenS_rt, thenS_exc, asgK_ok, asgK_exc, asgT_some, parA_ok, parB_ok, putA_ok, putB_ok, putC_ok, putR_some, expK_ok, expK_exc, retK_ok, retK_exc, iteK_ok, iteB_t, iteB_f, forA_ok, forB_some, frzA_ref, frzB_l, frzB_d, getK_s, binA_ok, binB_ok, cmpA_ok, cmpB_ok, chA_ok, chB_ok, chC_t, chC_f, andK_ok, andB_t, andB_f, orK_ok, orB_t, orB_f, notK_ok, notB_s, iteE_ok, iteEB_t, iteEB_f, tupK_ok, lstK_ok, dicK_ok, idxA_ok, idxB_ok, slA_ok, slB_n, slB_i, slC_n, slC_i, revK_ok, clA_ok, clB_ok, clC_s, biK_ok, isiK_ok, meA_ok, meB_t, meC_ok, cmA_ok, cmB_s, cmC_ok, esA_f, esA_t, spl_l, spl_t, esB_s, esC_ok, prC_s, prB_s, pr_nil, pr_cons, fin_rt', fin_nx', it_lst, it_ro, it_tup, it_str, tg_nm, tg_tup, sa_nil, sa_cons, ns_0, ns_1, ns_2, ns_3, ns_4, ns_5, ns_6, ns_7, ns_8, ns_9, ns_10, ns_11, ns_12, ns_13, ns_14, ns_15, ns_16, ns_17, ns_18, ns_19, ns_20, ns_21, ns_22, ns_23, ns_24, ns_25, ns_star, sat_ok, osat_nx, osat_rt, List.getElem?_cons_zero, List.getElem?_cons_succ, List.set, List.cons_append, List.nil_append, List.append_nil, wipe_nil, wipe_cons, view_non, view_bl, view_int, view_str, view_tup', view_lst, view_ro, view_dic, view_set, tr_non, tr_bl, tr_int, tr_tup, tr_lst, nl_nil, nl_cons1, nl2, nl3, nl4, nl5, nl6, nl7, nl8, nt0, nt1, nt2, nt3, nt4, mo_join, mo_app, mo_pop, mo_ext, mo_get, bi_lenl, bi_lent, bi_listl, bi_listt, bi_listd, bi_tupl, bi_int, b_add, b_sub, b_addl, b_addt, c_eqi, c_eqs, c_nei, c_nes, c_lti, c_lei, c_gti, c_gei, c_les, i_tup, i_lst, isi_str, isi_tup, isi_int, isi_lst, opt_non, opt_int, List.map_cons, List.map_nil, List.length_cons, List.length_nil, Nat.sub_self, List.replicate_zero, Nat.reduceAdd, Nat.reduceSub, List.reduceReplicate, Option.some.injEq]
        have hsl := List.length_filter_le (fun p : Str × Nat => decide (p.2 = 1)) MK
        obtain ⟨SG, hSG⟩ : ∃ SG : List Str, SG = (MK.filter fun p => decide (p.2 = 1)).map (·.1) := ⟨_, rfl⟩
        have hSm : (MK.filter fun p => decide (p.2 = 1)).map (fun p => D.str p.1) = SG.map D.str := by rw [hSG, List.map_map]; rfl
        have hSl : SG.length ≤ 20 := by rw [hSG, List.length_map]; omega
        have hSg : ∀ c ∈ SG, gd c = true ∧ (c, 1) ∈ MK := by
          intro c hc
          rw [hSG] at hc
          obtain ⟨p, hp, rfl⟩ := List.mem_map.mp hc
          obtain ⟨hp1, hp2⟩ := List.mem_filter.mp hp
          have e : p.2 = 1 := by simpa using hp2
          exact ⟨wordsK_gd _ (k2.subset (List.mem_map_of_mem hp1)), by rw [← e]; exact hp1⟩
        have hnS : ∀ τ : Store, newL false (SG.map D.str) τ = .ok (.lst (SG.map D.str)) τ := fun τ => newL_f (by rw [List.length_map, lim_v]; omega)
        simp only [fx_nil, fx_one, fx_cons, fx_asg, fx_par, fx_put, fx_exp, fx_ret, fx_ite, fx_for, fx_pass, fx_frz, fv_loc, fv_bin, fv_cmp, fv_chain, fv_and, fv_or, fv_not, fv_ite, fv_tup, fv_lst, fv_dic, fv_star, fv_idx, fv_slice, fv_rev, fv_call, fv_bi, fv_isi, fv_me, fv_comp, fvs_cons, ev_nop, ev_non, ev_bl, ev_int, ev_str, ev_glo, ev_neg_int, evs_nil, thenS_nx, thenS_rt, thenS_exc, asgK_ok, asgK_exc, asgT_some, parA_ok, parB_ok, putA_ok, putB_ok, putC_ok, putR_some, expK_ok, expK_exc, retK_ok, retK_exc, iteK_ok, iteB_t, iteB_f, forA_ok, forB_some, frzA_ref, frzB_l, frzB_d, getK_s, binA_ok, binB_ok, cmpA_ok, cmpB_ok, chA_ok, chB_ok, chC_t, chC_f, andK_ok, andB_t, andB_f, orK_ok, orB_t, orB_f, notK_ok, notB_s, iteE_ok, iteEB_t, iteEB_f, tupK_ok, lstK_ok, dicK_ok, idxA_ok, idxB_ok, slA_ok, slB_n, slB_i, slC_n, slC_i, revK_ok, clA_ok, clB_ok, clC_s, biK_ok, isiK_ok, meA_ok, meB_t, meC_ok, cmA_ok, cmB_s, cmC_ok, esA_f, esA_t, spl_l, spl_t, esB_s, esC_ok, prC_s, prB_s, pr_nil, pr_cons, fin_rt', fin_nx', it_lst, it_ro, it_tup, it_str, tg_nm, tg_tup, sa_nil, sa_cons, ns_0, ns_1, ns_2, ns_3, ns_4, ns_5, ns_6, ns_7, ns_8, ns_9, ns_10, ns_11, ns_12, ns_13, ns_14, ns_15, ns_16, ns_17, ns_18, ns_19, ns_20, ns_21, ns_22, ns_23, ns_24, ns_25, ns_star, sat_ok, osat_nx, osat_rt, List.getElem?_cons_zero, List.getElem?_cons_succ, List.set, List.cons_append, List.nil_append, List.append_nil, wipe_nil, wipe_cons, view_non, view_bl, view_int, view_str, view_tup', view_lst, view_ro, view_dic, view_set, tr_non, tr_bl, tr_int, tr_tup, tr_lst, nl_nil, nl_cons1, nl2, nl3, nl4, nl5, nl6, nl7, nl8, nt0, nt1, nt2, nt3, nt4, mo_join, mo_app, mo_pop, mo_ext, mo_get, bi_lenl, bi_lent, bi_listl, bi_listt, bi_listd, bi_tupl, bi_int, b_add, b_sub, b_addl, b_addt, c_eqi, c_eqs, c_nei, c_nes, c_lti, c_lei, c_gti, c_gei, c_les, i_tup, i_lst, isi_str, isi_tup, isi_int, isi_lst, opt_non, opt_int, List.map_cons, List.map_nil, List.length_cons, List.length_nil, Nat.sub_self, List.replicate_zero, Nat.reduceAdd, Nat.reduceSub, List.reduceReplicate, Option.some.injEq, hSm, hnS]
        rw [show [D.str "ahead", .str "first", .str "look", .str "open", .str "second", .str "undo"] = wordsO.map D.str from rfl]
        refine fsat (osat_for D.str (fun r ρ σ => ∃ (pre : List Str) (OS : List Op) (δ' : Dk) (z a b c e : Option D), ρ = [some (.ref 1), z, some (.lst (MK.map mkd)), some (.lst (SG.map D.str)), some (.ref (2 + (X.length + 1))), a, b, c, e] ∧ σ = S δ' ++ (X ++ [.dead, .lst (OS.map Op.d)]) ∧
          wordsO = pre ++ r ∧ (OS.map (·.w)).Sublist pre ∧ (∀ o ∈ OS, o.okIn MK) ∧ δ'.ok (n + 16 + 12 * pre.length)) ?_ ?_ ?_)
        · exact ⟨[], [], δ', _, _, _, _, _, rfl, rfl, rfl, List.Sublist.refl _, (fun p hp => by cases hp), h4.le (by omega)⟩
        · rintro x r ρ σ ⟨pre, OS, δ', z, a, b, c, e, rfl, rfl, o1, o2, o3, o4⟩
          refine ⟨_, rfl, ?_⟩
          have hl := congrArg List.length o1
          rw [List.length_append, List.length_cons] at hl
          have hlO : wordsO.length = 6 := rfl
          have hol := o2.length_le
          rw [List.length_map] at hol
          obtain ⟨q, δ1, g1, g2, g3⟩ := g_draw (pr := pr) (k := k) (m := 2) (by omega) (by omega) (by omega) o4 (by omega) (X ++ [.dead, .lst (OS.map Op.d)])
          have g3 : callK pr k 13 [.ref 1, .int 2] _ = _ := g3
          have e1 : wordsO = (pre ++ [x]) ++ r := by rw [o1]; simp
          by_cases hq : (q : Int) = 0
          · obtain ⟨d, δ2, p1, p2, p3⟩ := g_pick (pr := pr) (k := k) (xs := MK.map mkd) (by omega) (by simpa using k1) (by rw [List.length_map]; omega) g2 (by omega) (X ++ [.dead, .lst (OS.map Op.d)])
            obtain ⟨⟨w, m⟩, hp, rfl⟩ := List.mem_map.mp p1
            have hm := k3 _ hp
            dsimp only at hm
            have tg : ∀ ρ : Iv.Env, tgD (.tup [7, 6]) (mkd (w, m)) ρ = some ((ρ.set 7 (some (.str w))).set 6 (some (.int m))) := fun ρ => rfl
            obtain ⟨b, δ3, b1, b2, b3⟩ := g_draw (pr := pr) (k := k) (m := 3) (by omega) (by omega) (by omega) p2 (by omega) (X ++ [.dead, .lst (OS.map Op.d)])
            have b3 : callK pr k 13 [.ref 1, .int 3] _ = _ := b3
            simp only [fx_nil, fx_one, fx_cons, fx_asg, fx_par, fx_put, fx_exp, fx_ret, fx_ite, fx_for, fx_pass, fx_frz, fv_loc, fv_bin, fv_cmp, fv_chain, fv_and, fv_or, fv_not, fv_ite, fv_tup, fv_lst, fv_dic, fv_star, fv_idx, fv_slice, fv_rev, fv_call, fv_bi, fv_isi, fv_me, fv_comp, fvs_cons, ev_nop, ev_non, ev_bl, ev_int, ev_str, ev_glo, ev_neg_int, evs_nil, thenS_nx, thenS_rt, thenS_exc, asgK_ok, asgK_exc, asgT_some, parA_ok, parB_ok, putA_ok, putB_ok, putC_ok, putR_some, expK_ok, expK_exc, retK_ok, retK_exc, iteK_ok, iteB_t, iteB_f, forA_ok, forB_some, frzA_ref, frzB_l, frzB_d, getK_s, binA_ok, binB_ok, cmpA_ok, cmpB_ok, chA_ok, chB_ok, chC_t, chC_f, andK_ok, andB_t, andB_f, orK_ok, orB_t, orB_f, notK_ok, notB_s, iteE_ok, iteEB_t, iteEB_f, tupK_ok, lstK_ok, dicK_ok, idxA_ok, idxB_ok, slA_ok, slB_n, slB_i, slC_n, slC_i, revK_ok, clA_ok, clB_ok, clC_s, biK_ok, isiK_ok, meA_ok, meB_t, meC_ok, cmA_ok, cmB_s, cmC_ok, esA_f, esA_t, spl_l, spl_t, esB_s, esC_ok, prC_s, prB_s, pr_nil, pr_cons, fin_rt', fin_nx', it_lst, it_ro, it_tup, it_str, tg_nm, tg_tup, sa_nil, sa_cons, ns_0, ns_1, ns_2, ns_3, ns_4, ns_5, ns_6, ns_7, ns_8, ns_9, ns_10, ns_11, ns_12, ns_13, ns_14, ns_15, ns_16, ns_17, ns_18, ns_19, ns_20, ns_21, ns_22, ns_23, ns_24, ns_25, ns_star, sat_ok, osat_nx, osat_rt, List.getElem?_cons_zero, List.getElem?_cons_succ, List.set, List.cons_append, List.nil_append, List.append_nil, wipe_nil, wipe_cons, view_non, view_bl, view_int, view_str, view_tup', view_lst, view_ro, view_dic, view_set, tr_non, tr_bl, tr_int, tr_tup, tr_lst, nl_nil, nl_cons1, nl2, nl3, nl4, nl5, nl6, nl7, nl8, nt0, nt1, nt2, nt3, nt4, mo_join, mo_app, mo_pop, mo_ext, mo_get, bi_lenl, bi_lent, bi_listl, bi_listt, bi_listd, bi_tupl, bi_int, b_add, b_sub, b_addl, b_addt, c_eqi, c_eqs, c_nei, c_nes, c_lti, c_lei, c_gti, c_gei, c_les, i_tup, i_lst, isi_str, isi_tup, isi_int, isi_lst, opt_non, opt_int, List.map_cons, List.map_nil, List.length_cons, List.length_nil, Nat.sub_self, List.replicate_zero, Nat.reduceAdd, Nat.reduceSub, List.reduceReplicate, Option.some.injEq, g3, decide_eq_true hq, p3, tg, b3]
            rw [it_rngN (by omega)]
            simp only [fx_nil, fx_one, fx_cons, fx_asg, fx_par, fx_put, fx_exp, fx_ret, fx_ite, fx_for, fx_pass, fx_frz, fv_loc, fv_bin, fv_cmp, fv_chain, fv_and, fv_or, fv_not, fv_ite, fv_tup, fv_lst, fv_dic, fv_star, fv_idx, fv_slice, fv_rev, fv_call, fv_bi, fv_isi, fv_me, fv_comp, fvs_cons, ev_nop, ev_non, ev_bl, ev_int, ev_str, ev_glo, ev_neg_int, evs_nil, thenS_nx, thenS_rt, thenS_exc, asgK_ok, asgK_exc, asgT_some, parA_ok, parB_ok, putA_ok, putB_ok, putC_ok, putR_some, expK_ok, expK_exc, retK_ok, retK_exc, iteK_ok, iteB_t, iteB_f, forA_ok, forB_some, frzA_ref, frzB_l, frzB_d, getK_s, binA_ok, binB_ok, cmpA_ok, cmpB_ok, chA_ok, chB_ok, chC_t, chC_f, andK_ok, andB_t, andB_f, orK_ok, orB_t, orB_f, notK_ok, notB_s, iteE_ok, iteEB_t, iteEB_f, tupK_ok, lstK_ok, dicK_ok, idxA_ok, idxB_ok, slA_ok, slB_n, slB_i, slC_n, slC_i, revK_ok, clA_ok, clB_ok, clC_s, biK_ok, isiK_ok, meA_ok, meB_t, meC_ok, cmA_ok, cmB_s, cmC_ok, esA_f, esA_t, spl_l, spl_t, esB_s, esC_ok, prC_s, prB_s, pr_nil, pr_cons, fin_rt', fin_nx', it_lst, it_ro, it_tup, it_str, tg_nm, tg_tup, sa_nil, sa_cons, ns_0, ns_1, ns_2, ns_3, ns_4, ns_5, ns_6, ns_7, ns_8, ns_9, ns_10, ns_11, ns_12, ns_13, ns_14, ns_15, ns_16, ns_17, ns_18, ns_19, ns_20, ns_21, ns_22, ns_23, ns_24, ns_25, ns_star, sat_ok, osat_nx, osat_rt, List.getElem?_cons_zero, List.getElem?_cons_succ, List.set, List.cons_append, List.nil_append, List.append_nil, wipe_nil, wipe_cons, view_non, view_bl, view_int, view_str, view_tup', view_lst, view_ro, view_dic, view_set, tr_non, tr_bl, tr_int, tr_tup, tr_lst, nl_nil, nl_cons1, nl2, nl3, nl4, nl5, nl6, nl7, nl8, nt0, nt1, nt2, nt3, nt4, mo_join, mo_app, mo_pop, mo_ext, mo_get, bi_lenl, bi_lent, bi_listl, bi_listt, bi_listd, bi_tupl, bi_int, b_add, b_sub, b_addl, b_addt, c_eqi, c_eqs, c_nei, c_nes, c_lti, c_lei, c_gti, c_gei, c_les, i_tup, i_lst, isi_str, isi_tup, isi_int, isi_lst, opt_non, opt_int, List.map_cons, List.map_nil, List.length_cons, List.length_nil, Nat.sub_self, List.replicate_zero, Nat.reduceAdd, Nat.reduceSub, List.reduceReplicate, Option.some.injEq]
            refine focus (C := fun r => (thenS _ _ (asgK _ _ (biK _ _ (cmC _ r)))).sat _ _) (comp_draw (fun (i : Nat) => D.int (i : Int)) Nd.d (fun nd => nd.okIn MK m) 3 (B := n + 16 + 12 * pre.length + 9) (by rw [List.length_range]; omega) (by rw [List.length_range]; omega) (fun x _ δ3 m3 h3 h4 => ?_) b2) ?_
            · obtain ⟨nd, δ4, c1, c2, c3⟩ := g_need (pr := pr) (k := k) (MK := MK) (SG := SG) (m := m) (by omega) hSl hSg hm.1 hm.2 h3 (by omega) (X ++ [.dead, .lst (OS.map Op.d)])
              exact ⟨nd, δ4, c1, c2, by simp only [fx_nil, fx_one, fx_cons, fx_asg, fx_par, fx_put, fx_exp, fx_ret, fx_ite, fx_for, fx_pass, fx_frz, fv_loc, fv_bin, fv_cmp, fv_chain, fv_and, fv_or, fv_not, fv_ite, fv_tup, fv_lst, fv_dic, fv_star, fv_idx, fv_slice, fv_rev, fv_call, fv_bi, fv_isi, fv_me, fv_comp, fvs_cons, ev_nop, ev_non, ev_bl, ev_int, ev_str, ev_glo, ev_neg_int, evs_nil, thenS_nx, thenS_rt, thenS_exc, asgK_ok, asgK_exc, asgT_some, parA_ok, parB_ok, putA_ok, putB_ok, putC_ok, putR_some, expK_ok, expK_exc, retK_ok, retK_exc, iteK_ok, iteB_t, iteB_f, forA_ok, forB_some, frzA_ref, frzB_l, frzB_d, getK_s, binA_ok, binB_ok, cmpA_ok, cmpB_ok, chA_ok, chB_ok, chC_t, chC_f, andK_ok, andB_t, andB_f, orK_ok, orB_t, orB_f, notK_ok, notB_s, iteE_ok, iteEB_t, iteEB_f, tupK_ok, lstK_ok, dicK_ok, idxA_ok, idxB_ok, slA_ok, slB_n, slB_i, slC_n, slC_i, revK_ok, clA_ok, clB_ok, clC_s, biK_ok, isiK_ok, meA_ok, meB_t, meC_ok, cmA_ok, cmB_s, cmC_ok, esA_f, esA_t, spl_l, spl_t, esB_s, esC_ok, prC_s, prB_s, pr_nil, pr_cons, fin_rt', fin_nx', it_lst, it_ro, it_tup, it_str, tg_nm, tg_tup, sa_nil, sa_cons, ns_0, ns_1, ns_2, ns_3, ns_4, ns_5, ns_6, ns_7, ns_8, ns_9, ns_10, ns_11, ns_12, ns_13, ns_14, ns_15, ns_16, ns_17, ns_18, ns_19, ns_20, ns_21, ns_22, ns_23, ns_24, ns_25, ns_star, sat_ok, osat_nx, osat_rt, List.getElem?_cons_zero, List.getElem?_cons_succ, List.set, List.cons_append, List.nil_append, List.append_nil, wipe_nil, wipe_cons, view_non, view_bl, view_int, view_str, view_tup', view_lst, view_ro, view_dic, view_set, tr_non, tr_bl, tr_int, tr_tup, tr_lst, nl_nil, nl_cons1, nl2, nl3, nl4, nl5, nl6, nl7, nl8, nt0, nt1, nt2, nt3, nt4, mo_join, mo_app, mo_pop, mo_ext, mo_get, bi_lenl, bi_lent, bi_listl, bi_listt, bi_listd, bi_tupl, bi_int, b_add, b_sub, b_addl, b_addt, c_eqi, c_eqs, c_nei, c_nes, c_lti, c_lei, c_gti, c_gei, c_les, i_tup, i_lst, isi_str, isi_tup, isi_int, isi_lst, opt_non, opt_int, List.map_cons, List.map_nil, List.length_cons, List.length_nil, Nat.sub_self, List.replicate_zero, Nat.reduceAdd, Nat.reduceSub, List.reduceReplicate, Option.some.injEq, c3]⟩
            · rintro _ _ ⟨NS, δ4, rfl, rfl, c1, c2, c3⟩
              rw [List.length_range] at c1 c3
              have n1 : ∀ τ : Store, newL false (NS.map Nd.d) τ = .ok (.lst (NS.map Nd.d)) τ := fun τ => newL_f (by rw [List.length_map, lim_v]; omega)
              have n2 : ∀ τ : Store, newT (NS.map Nd.d) τ = .ok (.tup (NS.map Nd.d)) τ := fun τ => newT_ok (by rw [List.length_map, lim_v]; omega)
              obtain ⟨v, δ5, d1, d2, d3⟩ := g_draw (pr := pr) (k := k) (m := m) (by omega) (by omega) (by omega) c3 (by omega) (X ++ [.dead, .lst (OS.map Op.d)])
              have hlt : (OS.map Op.d).length < lim := by rw [List.length_map, lim_v]; omega
              simp only [fx_nil, fx_one, fx_cons, fx_asg, fx_par, fx_put, fx_exp, fx_ret, fx_ite, fx_for, fx_pass, fx_frz, fv_loc, fv_bin, fv_cmp, fv_chain, fv_and, fv_or, fv_not, fv_ite, fv_tup, fv_lst, fv_dic, fv_star, fv_idx, fv_slice, fv_rev, fv_call, fv_bi, fv_isi, fv_me, fv_comp, fvs_cons, ev_nop, ev_non, ev_bl, ev_int, ev_str, ev_glo, ev_neg_int, evs_nil, thenS_nx, thenS_rt, thenS_exc, asgK_ok, asgK_exc, asgT_some, parA_ok, parB_ok, putA_ok, putB_ok, putC_ok, putR_some, expK_ok, expK_exc, retK_ok, retK_exc, iteK_ok, iteB_t, iteB_f, forA_ok, forB_some, frzA_ref, frzB_l, frzB_d, getK_s, binA_ok, binB_ok, cmpA_ok, cmpB_ok, chA_ok, chB_ok, chC_t, chC_f, andK_ok, andB_t, andB_f, orK_ok, orB_t, orB_f, notK_ok, notB_s, iteE_ok, iteEB_t, iteEB_f, tupK_ok, lstK_ok, dicK_ok, idxA_ok, idxB_ok, slA_ok, slB_n, slB_i, slC_n, slC_i, revK_ok, clA_ok, clB_ok, clC_s, biK_ok, isiK_ok, meA_ok, meB_t, meC_ok, cmA_ok, cmB_s, cmC_ok, esA_f, esA_t, spl_l, spl_t, esB_s, esC_ok, prC_s, prB_s, pr_nil, pr_cons, fin_rt', fin_nx', it_lst, it_ro, it_tup, it_str, tg_nm, tg_tup, sa_nil, sa_cons, ns_0, ns_1, ns_2, ns_3, ns_4, ns_5, ns_6, ns_7, ns_8, ns_9, ns_10, ns_11, ns_12, ns_13, ns_14, ns_15, ns_16, ns_17, ns_18, ns_19, ns_20, ns_21, ns_22, ns_23, ns_24, ns_25, ns_star, sat_ok, osat_nx, osat_rt, List.getElem?_cons_zero, List.getElem?_cons_succ, List.set, List.cons_append, List.nil_append, List.append_nil, wipe_nil, wipe_cons, view_non, view_bl, view_int, view_str, view_tup', view_lst, view_ro, view_dic, view_set, tr_non, tr_bl, tr_int, tr_tup, tr_lst, nl_nil, nl_cons1, nl2, nl3, nl4, nl5, nl6, nl7, nl8, nt0, nt1, nt2, nt3, nt4, mo_join, mo_app, mo_pop, mo_ext, mo_get, bi_lenl, bi_lent, bi_listl, bi_listt, bi_listd, bi_tupl, bi_int, b_add, b_sub, b_addl, b_addt, c_eqi, c_eqs, c_nei, c_nes, c_lti, c_lei, c_gti, c_gei, c_les, i_tup, i_lst, isi_str, isi_tup, isi_int, isi_lst, opt_non, opt_int, List.map_cons, List.map_nil, List.length_cons, List.length_nil, Nat.sub_self, List.replicate_zero, Nat.reduceAdd, Nat.reduceSub, List.reduceReplicate, Option.some.injEq, vw_ref, viewC_l, viewC_d, rf_idx, rf_bi, rf_slice, rf_rev, rf_cmp1, rf_cmp2, rf_bin1, rf_bin2, rf_app, appC_l, rf_ext, extC_l, rf_pop, popC_l, rf_put, putC_s, putC_i, n1, n2, d3, sx_at, sx_set, hlt]
              refine ⟨pre ++ [x], OS ++ [⟨x, w, v, NS⟩], δ5, _, _, _, _, _, rfl, by rw [List.map_append]; rfl, e1, ?_, ?_, d2.le (by rw [List.length_append, List.length_singleton]; omega)⟩
              · rw [List.map_append]; exact o2.append (List.Sublist.refl _)
              · intro o ho
                rcases List.mem_append.mp ho with ho | ho
                · exact o3 o ho
                · rw [List.mem_singleton] at ho; subst ho; exact ⟨m, hp, d1, by show NS.length ≤ 2; omega, c2⟩
          · simp only [fx_nil, fx_one, fx_cons, fx_asg, fx_par, fx_put, fx_exp, fx_ret, fx_ite, fx_for, fx_pass, fx_frz, fv_loc, fv_bin, fv_cmp, fv_chain, fv_and, fv_or, fv_not, fv_ite, fv_tup, fv_lst, fv_dic, fv_star, fv_idx, fv_slice, fv_rev, fv_call, fv_bi, fv_isi, fv_me, fv_comp, fvs_cons, ev_nop, ev_non, ev_bl, ev_int, ev_str, ev_glo, ev_neg_int, evs_nil, thenS_nx, thenS_rt, thenS_exc, asgK_ok, asgK_exc, asgT_some, parA_ok, parB_ok, putA_ok, putB_ok, putC_ok, putR_some, expK_ok, expK_exc, retK_ok, retK_exc, iteK_ok, iteB_t, iteB_f, forA_ok, forB_some, frzA_ref, frzB_l, frzB_d, getK_s, binA_ok, binB_ok, cmpA_ok, cmpB_ok, chA_ok, chB_ok, chC_t, chC_f, andK_ok, andB_t, andB_f, orK_ok, orB_t, orB_f, notK_ok, notB_s, iteE_ok, iteEB_t, iteEB_f, tupK_ok, lstK_ok, dicK_ok, idxA_ok, idxB_ok, slA_ok, slB_n, slB_i, slC_n, slC_i, revK_ok, clA_ok, clB_ok, clC_s, biK_ok, isiK_ok, meA_ok, meB_t, meC_ok, cmA_ok, cmB_s, cmC_ok, esA_f, esA_t, spl_l, spl_t, esB_s, esC_ok, prC_s, prB_s, pr_nil, pr_cons, fin_rt', fin_nx', it_lst, it_ro, it_tup, it_str, tg_nm, tg_tup, sa_nil, sa_cons, ns_0, ns_1, ns_2, ns_3, ns_4, ns_5, ns_6, ns_7, ns_8, ns_9, ns_10, ns_11, ns_12, ns_13, ns_14, ns_15, ns_16, ns_17, ns_18, ns_19, ns_20, ns_21, ns_22, ns_23, ns_24, ns_25, ns_star, sat_ok, osat_nx, osat_rt, List.getElem?_cons_zero, List.getElem?_cons_succ, List.set, List.cons_append, List.nil_append, List.append_nil, wipe_nil, wipe_cons, view_non, view_bl, view_int, view_str, view_tup', view_lst, view_ro, view_dic, view_set, tr_non, tr_bl, tr_int, tr_tup, tr_lst, nl_nil, nl_cons1, nl2, nl3, nl4, nl5, nl6, nl7, nl8, nt0, nt1, nt2, nt3, nt4, mo_join, mo_app, mo_pop, mo_ext, mo_get, bi_lenl, bi_lent, bi_listl, bi_listt, bi_listd, bi_tupl, bi_int, b_add, b_sub, b_addl, b_addt, c_eqi, c_eqs, c_nei, c_nes, c_lti, c_lei, c_gti, c_gei, c_les, i_tup, i_lst, isi_str, isi_tup, isi_int, isi_lst, opt_non, opt_int, List.map_cons, List.map_nil, List.length_cons, List.length_nil, Nat.sub_self, List.replicate_zero, Nat.reduceAdd, Nat.reduceSub, List.reduceReplicate, Option.some.injEq, g3, decide_eq_false hq]
            exact ⟨pre ++ [x], OS, δ1, _, _, _, _, _, rfl, rfl, e1, o2.trans (List.sublist_append_left _ _), o3, g2.le (by rw [List.length_append, List.length_singleton]; omega)⟩
        · rintro ρ σ ⟨pre, OS, δ', z, a, b, c, e, rfl, rfl, o1, o2, o3, o4⟩
          have hol := o2.length_le
          have e1 := congrArg List.length o1
          have hlO : wordsO.length = 6 := rfl
          rw [List.length_map] at hol
          rw [List.append_nil] at o1 e1
          have n1 : ∀ τ : Store, newT (MK.map mkd) τ = .ok (.tup (MK.map mkd)) τ := fun τ => newT_ok (by rw [List.length_map, lim_v]; omega)
          have n2 : ∀ τ : Store, newT (OS.map Op.d) τ = .ok (.tup (OS.map Op.d)) τ := fun τ => newT_ok (by rw [List.length_map, lim_v]; omega)
          have u1 : ∀ N, D.under N (.tup [.tup (MK.map mkd), .tup (OS.map Op.d)]) = true := by
            intro N
            rw [D.under, D.unders, D.unders, D.unders, D.under, D.under, unders_map (fun p _ => mkd_under), unders_map (fun o _ => op_under)]
            rfl
          simp only [fx_nil, fx_one, fx_cons, fx_asg, fx_par, fx_put, fx_exp, fx_ret, fx_ite, fx_for, fx_pass, fx_frz, fv_loc, fv_bin, fv_cmp, fv_chain, fv_and, fv_or, fv_not, fv_ite, fv_tup, fv_lst, fv_dic, fv_star, fv_idx, fv_slice, fv_rev, fv_call, fv_bi, fv_isi, fv_me, fv_comp, fvs_cons, ev_nop, ev_non, ev_bl, ev_int, ev_str, ev_glo, ev_neg_int, evs_nil, thenS_nx, thenS_rt, thenS_exc, asgK_ok, asgK_exc, asgT_some, parA_ok, parB_ok, putA_ok, putB_ok, putC_ok, putR_some, expK_ok, expK_exc, retK_ok, retK_exc, iteK_ok, iteB_t, iteB_f, forA_ok, forB_some, frzA_ref, frzB_l, frzB_d, getK_s, binA_ok, binB_ok, cmpA_ok, cmpB_ok, chA_ok, chB_ok, chC_t, chC_f, andK_ok, andB_t, andB_f, orK_ok, orB_t, orB_f, notK_ok, notB_s, iteE_ok, iteEB_t, iteEB_f, tupK_ok, lstK_ok, dicK_ok, idxA_ok, idxB_ok, slA_ok, slB_n, slB_i, slC_n, slC_i, revK_ok, clA_ok, clB_ok, clC_s, biK_ok, isiK_ok, meA_ok, meB_t, meC_ok, cmA_ok, cmB_s, cmC_ok, esA_f, esA_t, spl_l, spl_t, esB_s, esC_ok, prC_s, prB_s, pr_nil, pr_cons, fin_rt', fin_nx', it_lst, it_ro, it_tup, it_str, tg_nm, tg_tup, sa_nil, sa_cons, ns_0, ns_1, ns_2, ns_3, ns_4, ns_5, ns_6, ns_7, ns_8, ns_9, ns_10, ns_11, ns_12, ns_13, ns_14, ns_15, ns_16, ns_17, ns_18, ns_19, ns_20, ns_21, ns_22, ns_23, ns_24, ns_25, ns_star, sat_ok, osat_nx, osat_rt, List.getElem?_cons_zero, List.getElem?_cons_succ, List.set, List.cons_append, List.nil_append, List.append_nil, wipe_nil, wipe_cons, view_non, view_bl, view_int, view_str, view_tup', view_lst, view_ro, view_dic, view_set, tr_non, tr_bl, tr_int, tr_tup, tr_lst, nl_nil, nl_cons1, nl2, nl3, nl4, nl5, nl6, nl7, nl8, nt0, nt1, nt2, nt3, nt4, mo_join, mo_app, mo_pop, mo_ext, mo_get, bi_lenl, bi_lent, bi_listl, bi_listt, bi_listd, bi_tupl, bi_int, b_add, b_sub, b_addl, b_addt, c_eqi, c_eqs, c_nei, c_nes, c_lti, c_lei, c_gti, c_gei, c_les, i_tup, i_lst, isi_str, isi_tup, isi_int, isi_lst, opt_non, opt_int, List.map_cons, List.map_nil, List.length_cons, List.length_nil, Nat.sub_self, List.replicate_zero, Nat.reduceAdd, Nat.reduceSub, List.reduceReplicate, Option.some.injEq, vw_ref, viewC_l, viewC_d, rf_idx, rf_bi, rf_slice, rf_rev, rf_cmp1, rf_cmp2, rf_bin1, rf_bin2, rf_app, appC_l, rf_ext, extC_l, rf_pop, popC_l, rf_put, putC_s, putC_i, sx_at, sx_set, n1, n2]
          rw [leave_S' (u1 _), sat_ok]
          exact ⟨⟨MK, OS, ⟨k1, k2, k3, by rw [o1]; exact o2, o3⟩, rfl⟩, δ', o4.le (by omega), rfl⟩
  obtain ⟨d, δ', e, ⟨MK, OS, h1, rfl⟩, h2⟩ := h.elim
  exact ⟨MK, OS, δ', h1, h2, e⟩
end
end Iv

set_option Elab.async false
set_option linter.all false
set_option maxHeartbeats 4000000
set_option maxRecDepth 20000
namespace K03
open PySem Iv L2
instance : Things pr := ⟨rfl, rfl, rfl, rfl, rfl, rfl, rfl, rfl, rfl, rfl, rfl, rfl⟩
instance : LawA pr := ⟨rfl, rfl, rfl, rfl, rfl, rfl⟩
instance : KitA pr := { draw := ⟨_, _, _, rfl⟩, pick := rfl, need := rfl, kit := rfl, thing := rfl }
theorem view_d (t : Th) (σ : Store) : view σ t.d = t.d := by
  cases t with
  | leaf x => rw [d_leaf]; rfl
  | node w ps => rw [d_node]; rfl
theorem isi_d (t : Th) (σ : Store) : isiD [.str] t.d σ = .ok (.bl (isL t)) σ := by
  cases t with
  | leaf x => rw [d_leaf]; rfl
  | node w ps => rw [d_node]; rfl
theorem leaf_strs : ∀ {xs : List Th}, (∀ t ∈ xs, isL t = true) → strsOf (xs.map Th.d) = some (xs.map Th.text)
  | [], _ => rfl
  | t :: r, h => by
    have ih := leaf_strs fun u hu => h u (List.mem_cons_of_mem _ hu)
    have := h t List.mem_cons_self
    cases t with
    | leaf x =>
      rw [List.map_cons, List.map_cons, d_leaf, strsOf, ih]
      unfold Th.text
      rfl
    | node w ps => cases this
/-- the sorted leaves that are p -/
def sl (t : Th) (p : Th → Bool) : D := .tup (((pcs t.units).filter p).map Th.d)
theorem r_right {n : Str} {t o : Th} (ht : t.ok = true) (ho : o.ok = true) (h1 : t.sz ≤ 100) (h2 : o.sz ≤ 100) (h3 : t.dp ≤ 20) (h4 : o.dp ≤ 20) (k : Nat) (hk : 30 ≤ k) (σ : Store) : callK pr (k + 1) 24 [t.d, .str n, o.d] σ = .ok (.bl true) σ := by
  obtain ⟨p1, p2, p3⟩ := th_put_all (n := n) ho t ht
  have p4 : (put n o t).sz ≤ 10000 := Nat.le_trans p2 (Nat.mul_le_mul h1 h2)
  have hok := units_ok t ht
  have hU : ∀ u ∈ t.units, u.ok = true := fun u hu => (hok u hu).1
  have hul := units_len t
  obtain ⟨a1, a2, a3⟩ := sim_th t ht
  obtain ⟨b1, b2, b3⟩ := sim_th o ho
  obtain ⟨c1, c2, c3⟩ := sim_th (put n o t) p1
  obtain ⟨d1, d2, d3⟩ := due_ok ht h1 h3
  have q1 : ∀ τ : Store, biD .repr false (.lst [t.d, o.d]) τ = .ok (.str (D.py (.lst [t.d, o.d])).shown) τ := fun τ => pair_repr a1 b1 (by omega) (by omega) (by omega)
  have q2 : ∀ τ : Store, biD .repr false (.lst [due t, due t]) τ = .ok (.str (D.py (.lst [due t, due t])).shown) τ := fun τ => pair_repr d1 d1 (by omega) (by omega) (by omega)
  have q3 : ∀ τ : Store, biD .repr false (.lst [(put n o t).d, (put n o t).d]) τ = .ok (.str (D.py (.lst [(put n o t).d, (put n o t).d])).shown) τ := fun τ => pair_repr c1 c1 (by omega) (by omega) (by omega)
  have r1 : ∀ τ : Store, callK pr k 21 [t.d] τ = .ok (.lst (t.units.map Th.d)) τ := fun τ => r_lot t (by omega) k (by omega) τ
  have r2 : ∀ τ : Store, callK pr k 18 [t.d] τ = .ok (.str t.text) τ := fun τ => r_ltext t ht (by omega) k (by omega) τ
  have r3 : ∀ τ : Store, callK pr k 22 [.lst (t.units.map Th.d)] τ = .ok (.tup ((pcs t.units).map Th.d)) τ := fun τ => by
    obtain ⟨k, rfl⟩ : ∃ j, k = j + 1 := ⟨k - 1, by omega⟩
    exact r_law_sorted hU (fun u hu => by have := (hok u hu).2.1; omega) (by omega) k (fun u hu => by have := (hok u hu).2.2; omega) τ
  have r4 : ∀ τ : Store, callK pr k 4 [t.d] τ = .ok (.str t.text) τ := fun τ => r_text t ht (by omega) k (by omega) τ
  have r5 : ∀ τ : Store, callK pr k 6 [t.d] τ = .ok (.tup ((pcs t.units).map Th.d)) τ := fun τ => r_pieces_of ht (by omega) (by omega) k (by omega) τ
  have r6 : ∀ τ : Store, callK pr k 7 [t.d] τ = .ok (.int t.sz) τ := fun τ => r_size t (by omega) k (by omega) τ
  have r7 : ∀ τ : Store, callK pr k 8 [t.d] τ = .ok (sl t isN) τ := fun τ => r_names ht (by omega) (by omega) k (by omega) τ
  have r8 : ∀ τ : Store, callK pr k 9 [t.d] τ = .ok (sl t isW) τ := fun τ => r_words ht (by omega) (by omega) k (by omega) τ
  have r9 : ∀ τ : Store, callK pr k 11 [t.d, .str n, o.d] τ = .ok (put n o t).d τ := fun τ => r_replaced t (by omega) k (by omega) τ
  have r10 : ∀ τ : Store, callK pr k 23 [t.d, .str n, o.d] τ = .ok (put n o t).d τ := fun τ => r_put t (by omega) k (by omega) τ
  have nl : ∀ (τ : Store) (xs : List D), xs.length ≤ 1000 → newL false xs τ = .ok (.lst xs) τ := fun τ xs h => newL_f (by rw [lim_v]; omega)
  have hfl := List.length_filter_le isL t.units
  -- the leaves
  have k1 : ∀ (ρ : Iv.Env) (τ : Store), 10 < ρ.length → compL (.nm 10) (ev (callK pr k) (.isi (.loc 10) [.str])) (ev (callK pr k) (.loc 10)) ρ (t.units.map Th.d) [] τ = .ok ((t.units.filter isL).map Th.d) τ := by
    intro ρ τ hρ
    rw [compL_fT Th.d isL Th.d (xs := t.units) (acc := []) (fun u hu => ⟨_, rfl, by simp [List.getElem?_set_self hρ, isi_d], fun _ => by simp [List.getElem?_set_self hρ]⟩) (by rw [lim_v, List.length_nil]; omega), List.nil_append]
  have k2 : ∀ (f : Nat) (p : Th → Bool) (ρ : Iv.Env) (τ : Store), (∀ u ∈ t.units, ∀ τ : Store, callK pr k f [u.d] τ = .ok (.bl (p u)) τ) → 10 < ρ.length → compL (.nm 10) (ev (callK pr k) (.call f [.loc 10] [] [] [0])) (ev (callK pr k) (.loc 10)) ρ ((t.units.filter isL).map Th.d) [] τ = .ok (((t.units.filter isL).filter p).map Th.d) τ := by
    intro f p ρ τ hf hρ
    rw [compL_fT Th.d p Th.d (xs := t.units.filter isL) (acc := []) (fun u hu => ⟨_, rfl, by simp [List.getElem?_set_self hρ, hf u (List.mem_filter.mp hu).1], fun _ => by simp [List.getElem?_set_self hρ]⟩) (by rw [lim_v, List.length_nil]; omega), List.nil_append]
  obtain ⟨k', hk'⟩ : ∃ j, k = j + 1 := ⟨k - 1, by omega⟩
  have kN : ∀ u ∈ t.units, ∀ τ : Store, callK pr k 20 [u.d] τ = .ok (.bl (isN u)) τ := fun u hu τ => by rw [hk']; exact r_law_is_name u (hU u hu) k' τ
  have kW : ∀ u ∈ t.units, ∀ τ : Store, callK pr k 19 [u.d] τ = .ok (.bl (isW u)) τ := fun u hu τ => by rw [hk']; exact r_law_is_word u (hU u hu) k' τ
  have k3 : ∀ (p : Th → Bool) (τ : Store), (∀ u, p u = true → isL u = true) → biD .set false (.lst (((t.units.filter isL).filter p).map Th.d)) τ = .ok (.set (((t.units.filter isL).filter p).map Th.text).eraseDups) τ := by
    intro p τ hp
    have := List.length_filter_le p (t.units.filter isL)
    exact bi_set (leaf_strs fun u hu => hp u (List.mem_filter.mp hu).2) (by rw [List.length_map]; omega)
  have k4 : ∀ (p : Th → Bool) (τ : Store), (∀ u, p u = true → isL u = true) → biD .sorted false (.set (((t.units.filter isL).filter p).map Th.text).eraseDups) τ = .ok (.lst (((pcs t.units).filter p).map Th.d)) τ := by
    intro p τ hp
    have h1 := List.length_filter_le p (pcs t.units)
    have h2 := pcs_len (U := t.units)
    rw [bi_sorteds, names_eq hU p hp, nl]
    rw [List.length_map]; omega
  have k5 : ∀ (p : Th → Bool) (τ : Store), newT (((pcs t.units).filter p).map Th.d) τ = .ok (sl t p) τ := by
    intro p τ
    have h1 := List.length_filter_le p (pcs t.units)
    have h2 := pcs_len (U := t.units)
    exact newT_ok (by rw [List.length_map, lim_v]; omega)
  have k6 := fun (p : Th → Bool) (τ : Store) => nl τ (((t.units.filter isL).filter p).map Th.d) (by
    have := List.length_filter_le p (t.units.filter isL)
    rw [List.length_map]; omega)
  have k7 := fun (τ : Store) => nl τ ((t.units.filter isL).map Th.d) (by rw [List.length_map]; omega)
  have hdue : due t = .lst [.str t.text, .tup ((pcs t.units).map Th.d), .int t.sz, sl t isN, sl t isW] := rfl
  rw [callK_run (fd := b_law_right) rfl rfl]
  have s1 : ∀ (τ : Store) (ρ : Iv.Env), ρ = [some t.d, some (.str n), some o.d, none, none, none, none, none, none, none, none] → ∃ ρ', exs (callK pr k) (b_law_right.body.take 6) ρ τ = .nx [some t.d, some (.str n), some o.d, some (.lst ((t.units.filter isL).map Th.d)), some (due t), none, none, none, some (.str (D.py (.lst [t.d, o.d])).shown), some (.lst (t.units.map Th.d)), none] (τ ++ [.dead]) ∧ ρ' = ρ := by
    intro τ ρ hρ
    subst hρ
    refine ⟨_, ?_, rfl⟩
    have nl2 := nl τ [t.d, o.d] (by simp)
    have m1 : newL true [.str t.text, .tup ((pcs t.units).map Th.d), .int t.sz] τ = .ok (.ref τ.length) (τ ++ [.lst [.str t.text, .tup ((pcs t.units).map Th.d), .int t.sz]]) := newL_t (by simp [lim_v])
    have m2 := me_app (σ := τ ++ [.lst [.str t.text, .tup ((pcs t.units).map Th.d), .int t.sz]]) (n := τ.length) (d := sl t isN) atA (by simp [lim_v])
    have m3 := me_app (σ := τ ++ [.lst [.str t.text, .tup ((pcs t.units).map Th.d), .int t.sz, sl t isN]]) (n := τ.length) (d := sl t isW) atA (by simp [lim_v])
    have v1 := view_cell (σ := τ ++ [.lst [.str t.text, .tup ((pcs t.units).map Th.d), .int t.sz]]) (n := τ.length) atA
    have v2 := view_cell (σ := τ ++ [.lst [.str t.text, .tup ((pcs t.units).map Th.d), .int t.sz, sl t isN]]) (n := τ.length) atA
    rw [setA] at m2 m3
    have kk1 := fun ρ τ => k2 20 isN ρ τ kN
    have kk2 := fun ρ τ => k2 19 isW ρ τ kW
    have kN3 := fun τ => k3 isN τ n_leaf
    have kW3 := fun τ => k3 isW τ w_leaf
    have kN4 := fun τ => k4 isN τ n_leaf
    have kW4 := fun τ => k4 isW τ w_leaf
    rw [hdue]
    generalize hpc : (pcs t.units).map Th.d = PC at *
    generalize hun : t.units.map Th.d = UN at *
    have hUN : UN.length = t.sz := by rw [← hun, List.length_map, hul]
    simp [b_law_right, nl2, q1, r1, r2, r3, k1, k7, kk1, kk2, k6, kN3, kW3, kN4, kW4, k5, m1, m2, m3, v1, v2, atA, setA, hUN, -List.map_map, -List.filter_filter]
  obtain ⟨ρ', s2, _⟩ := s1 σ _ rfl
  have nl5 : ∀ (τ : Store) (a b c d e : D), newL false [a, b, c, d, e] τ = .ok (.lst [a, b, c, d, e]) τ := fun τ a b c d e => nl τ _ (by simp)
  have nl3 : ∀ (τ : Store) (a b : D), newL false [a, b] τ = .ok (.lst [a, b]) τ := fun τ a b => nl τ _ (by simp)
  have nl1 : ∀ (τ : Store) (a : D), newL false [a] τ = .ok (.lst [a]) τ := fun τ a => nl τ _ (by simp)
  have hlv := leave_own (σ := σ) (ext := [.dead]) (b := true) (d := .bl true) (by unfold D.sim; rfl)
  have hsplit : b_law_right.body = b_law_right.body.take 6 ++ b_law_right.body.drop 6 := rfl
  have happ : ∀ (xs ys : List Stt) (ρ : Iv.Env) (τ : Store), exs (callK pr k) (xs ++ ys) ρ τ = (exs (callK pr k) xs ρ τ).then fun ρ τ => exs (callK pr k) ys ρ τ := by
    intro xs
    induction xs with
    | nil => intro ys ρ τ; simp
    | cons x xs ih =>
      intro ys ρ τ
      rw [List.cons_append, exs_cons, exs_cons]
      cases ex (callK pr k) x ρ τ <;> first | rfl | simp [ih]
  rw [hsplit, happ]
  have henv : [t.d, .str n, o.d].map some ++ List.replicate (b_law_right.ns - [t.d, .str n, o.d].length) none = [some t.d, some (.str n), some o.d, none, none, none, none, none, none, none, none] := rfl
  rw [henv, s2, then_nx]
  have nd : ∀ τ : Store, newL false [.str t.text, .tup ((pcs t.units).map Th.d), .int t.sz, sl t isN, sl t isW] τ = .ok (due t) τ := fun τ => nl5 τ _ _ _ _ _
  simp [b_law_right, nl1, nl3, nd, r4, r5, r6, r7, r8, r9, r10, q1, q2, q3, b_mull, hlv, -List.map_map]
end K03

set_option Elab.async false
set_option linter.all false
set_option maxHeartbeats 4000000
set_option maxRecDepth 20000
namespace K03
open PySem Iv L2
theorem _root_.Iv.leave_sat {σ0 σ : Store} {d : D} {Q : D → Store → Prop} (h : ∀ τ, Q d τ) : (leave σ0 d σ).sat Q := by
  unfold leave
  split <;> (rw [sat_ok]; exact h _)
def LL : List (List Str) := [["a", "K"], ["a", "b", "K", "L", "K1"], ["K"], ["half", "Zz", "Z", "Za"]]
theorem leaves_ok : ∀ LS ∈ LL, LsOk LS := by
  intro LS h
  simp only [LL, List.mem_cons, List.not_mem_nil, or_false] at h
  rcases h with rfl | rfl | rfl | rfl <;> exact ⟨by decide, by decide, by decide +kernel⟩
theorem right_of {MK : List (Str × Nat)} {LS : List Str} (hM : MkOk MK) (hL : LsOk LS) {n : Str} {t o : Th} (ht : t.of MK LS) (ho : o.of MK LS) (h1 : t.sz ≤ 100) (h2 : o.sz ≤ 100) (h3 : t.dp ≤ 20) (h4 : o.dp ≤ 20) (σ : Store) : callK pr 199 24 [t.d, .str n, o.d] σ = .ok (.bl true) σ :=
  r_right (of_ok hM hL t ht) (of_ok hM hL o ho) h1 h2 h3 h4 198 (by decide) σ
def chain : Nat → Th
  | 0 => .leaf "K"
  | n + 1 => .node "half" [chain n]
theorem chain_ok : ∀ n, (chain n).ok = true ∧ (chain n).sz = n + 1 ∧ (chain n).dp = n
  | 0 => ⟨by decide +kernel, rfl, rfl⟩
  | n + 1 => by
    obtain ⟨h1, h2, h3⟩ := chain_ok n
    unfold chain
    refine ⟨?_, ?_, ?_⟩
    · rw [Th.ok, Th.oks, Th.oks, h1, show gd "half" = true from by decide +kernel]; rfl
    · rw [Th.sz, Th.szs, Th.szs, h2]; omega
    · rw [Th.dp, Th.dps, Th.dps, h3]; omega
theorem plain (ns : List Int) (h : ns.length ≤ 63) : ∃ σ, callK pr 200 25 [.ro (ns.map D.int)] [] = .ok (.bl true) σ := by
  suffices g : (callK pr (199 + 1) 25 [.ro (ns.map D.int)] []).sat (fun d _ => d = .bl true) by
    obtain ⟨d, σ, e, rfl⟩ := g.ex
    exact ⟨σ, e⟩
  obtain ⟨δ, hδ, e0⟩ := w_deck (pr := pr) (i := 12) (k := 199) (a := 1085703) (b := 26) rfl (by decide) h
  have r4 : ∀ τ : Store, itemsOf τ .rng [.int 4] = some ((List.range 4).map fun (i : Nat) => D.int (i : Int)) := fun τ => it_rngN (n := 4) (by decide)
  have r11 : ∀ τ : Store, itemsOf τ .rng [.int 11] = some ((List.range 11).map fun (i : Nat) => D.int (i : Int)) := fun τ => it_rngN (n := 11) (by decide)
  rw [callK_run (fd := b_law) rfl rfl]
  unfold b_law
  simp only [fx_nil, fx_one, fx_cons, fx_asg, fx_par, fx_put, fx_exp, fx_ret, fx_ite, fx_for, fx_pass, fx_frz, fv_loc, fv_bin, fv_cmp, fv_chain, fv_and, fv_or, fv_not, fv_ite, fv_tup, fv_lst, fv_dic, fv_star, fv_idx, fv_slice, fv_rev, fv_call, fv_bi, fv_isi, fv_me, fv_comp, fvs_cons, ev_nop, ev_non, ev_bl, ev_int, ev_str, ev_glo, ev_neg_int, evs_nil, thenS_nx, thenS_rt, thenS_exc, asgK_ok, asgK_exc, asgT_some, parA_ok, parB_ok, putA_ok, putB_ok, putC_ok, putR_some, expK_ok, expK_exc, retK_ok, retK_exc, iteK_ok, iteB_t, iteB_f, forA_ok, forB_some, frzA_ref, frzB_l, frzB_d, getK_s, binA_ok, binB_ok, cmpA_ok, cmpB_ok, chA_ok, chB_ok, chC_t, chC_f, andK_ok, andB_t, andB_f, orK_ok, orB_t, orB_f, notK_ok, notB_s, iteE_ok, iteEB_t, iteEB_f, tupK_ok, lstK_ok, dicK_ok, idxA_ok, idxB_ok, slA_ok, slB_n, slB_i, slC_n, slC_i, revK_ok, clA_ok, clB_ok, clC_s, biK_ok, isiK_ok, meA_ok, meB_t, meC_ok, cmA_ok, cmB_s, cmC_ok, esA_f, esA_t, spl_l, spl_t, esB_s, esC_ok, prC_s, prB_s, pr_nil, pr_cons, fin_rt', fin_nx', it_lst, it_ro, it_tup, it_str, tg_nm, tg_tup, sa_nil, sa_cons, ns_0, ns_1, ns_2, ns_3, ns_4, ns_5, ns_6, ns_7, ns_8, ns_9, ns_10, ns_11, ns_12, ns_13, ns_14, ns_15, ns_16, ns_17, ns_18, ns_19, ns_20, ns_21, ns_22, ns_23, ns_24, ns_25, ns_star, sat_ok, osat_nx, osat_rt, List.getElem?_cons_zero, List.getElem?_cons_succ, List.set, List.cons_append, List.nil_append, List.append_nil, wipe_nil, wipe_cons, view_non, view_bl, view_int, view_str, view_tup', view_lst, view_ro, view_dic, view_set, tr_non, tr_bl, tr_int, tr_tup, tr_lst, nl_nil, nl_cons1, nl2, nl3, nl4, nl5, nl6, nl7, nl8, nt0, nt1, nt2, nt3, nt4, mo_join, mo_app, mo_pop, mo_ext, mo_get, bi_lenl, bi_lent, bi_listl, bi_listt, bi_listd, bi_tupl, bi_int, b_add, b_sub, b_addl, b_addt, c_eqi, c_eqs, c_nei, c_nes, c_lti, c_lei, c_gti, c_gei, c_les, i_tup, i_lst, isi_str, isi_tup, isi_int, isi_lst, opt_non, opt_int, List.map_cons, List.map_nil, List.length_cons, List.length_nil, Nat.sub_self, List.replicate_zero, Nat.reduceAdd, Nat.reduceSub, List.reduceReplicate, Option.some.injEq, e0, r4]
  refine fsat (osat_range (fun i ρ σ => ∃ (δ : Dk) (a b c d e f g : Option D), ρ = [some (.ro (ns.map D.int)), some (.ref 1), a, none, none, b, c, d, e, f, g] ∧ σ = S δ ∧ δ.ok (i * 10000)) ?_ ?_ ?_)
  · exact ⟨δ, _, _, _, _, _, _, _, rfl, rfl, hδ⟩
  · rintro i hi ρ σ ⟨δ, a, b, c, d, e, f, g, rfl, rfl, hδ⟩
    refine ⟨_, rfl, ?_⟩
    obtain ⟨MK, OS, δ1, k1, k2, k3⟩ := g_kit (pr := pr) (k := 199) (by decide) hδ (by omega) []
    have hM := k1.mkOk
    rw [List.append_nil, List.append_nil] at k3
    have hi' : i < LL.length := hi
    obtain ⟨LS, hLS, eL⟩ : ∃ LS : List Str, LsOk LS ∧ ∀ τ : Store, idxD (.lst [.lst [.str "a", .str "K"], .lst [.str "a", .str "b", .str "K", .str "L", .str "K1"], .lst [.str "K"], .lst [.str "half", .str "Zz", .str "Z", .str "Za"]]) (.int (i : Int)) τ = .ok (.lst (LS.map D.str)) τ := by
      refine ⟨LL[i], leaves_ok _ (List.getElem_mem hi'), fun τ => ?_⟩
      have e : [D.lst [.str "a", .str "K"], .lst [.str "a", .str "b", .str "K", .str "L", .str "K1"], .lst [.str "K"], .lst [.str "half", .str "Zz", .str "Z", .str "Za"]] = LL.map fun l => D.lst (l.map D.str) := by
        simp only [LL, List.map_cons, List.map_nil]
      rw [i_lst, e, atI_nat (by rw [List.length_map]; exact hi'), List.getElem_map]
    simp only [fx_nil, fx_one, fx_cons, fx_asg, fx_par, fx_put, fx_exp, fx_ret, fx_ite, fx_for, fx_pass, fx_frz, fv_loc, fv_bin, fv_cmp, fv_chain, fv_and, fv_or, fv_not, fv_ite, fv_tup, fv_lst, fv_dic, fv_star, fv_idx, fv_slice, fv_rev, fv_call, fv_bi, fv_isi, fv_me, fv_comp, fvs_cons, ev_nop, ev_non, ev_bl, ev_int, ev_str, ev_glo, ev_neg_int, evs_nil, thenS_nx, thenS_rt, thenS_exc, asgK_ok, asgK_exc, asgT_some, parA_ok, parB_ok, putA_ok, putB_ok, putC_ok, putR_some, expK_ok, expK_exc, retK_ok, retK_exc, iteK_ok, iteB_t, iteB_f, forA_ok, forB_some, frzA_ref, frzB_l, frzB_d, getK_s, binA_ok, binB_ok, cmpA_ok, cmpB_ok, chA_ok, chB_ok, chC_t, chC_f, andK_ok, andB_t, andB_f, orK_ok, orB_t, orB_f, notK_ok, notB_s, iteE_ok, iteEB_t, iteEB_f, tupK_ok, lstK_ok, dicK_ok, idxA_ok, idxB_ok, slA_ok, slB_n, slB_i, slC_n, slC_i, revK_ok, clA_ok, clB_ok, clC_s, biK_ok, isiK_ok, meA_ok, meB_t, meC_ok, cmA_ok, cmB_s, cmC_ok, esA_f, esA_t, spl_l, spl_t, esB_s, esC_ok, prC_s, prB_s, pr_nil, pr_cons, fin_rt', fin_nx', it_lst, it_ro, it_tup, it_str, tg_nm, tg_tup, sa_nil, sa_cons, ns_0, ns_1, ns_2, ns_3, ns_4, ns_5, ns_6, ns_7, ns_8, ns_9, ns_10, ns_11, ns_12, ns_13, ns_14, ns_15, ns_16, ns_17, ns_18, ns_19, ns_20, ns_21, ns_22, ns_23, ns_24, ns_25, ns_star, sat_ok, osat_nx, osat_rt, List.getElem?_cons_zero, List.getElem?_cons_succ, List.set, List.cons_append, List.nil_append, List.append_nil, wipe_nil, wipe_cons, view_non, view_bl, view_int, view_str, view_tup', view_lst, view_ro, view_dic, view_set, tr_non, tr_bl, tr_int, tr_tup, tr_lst, nl_nil, nl_cons1, nl2, nl3, nl4, nl5, nl6, nl7, nl8, nt0, nt1, nt2, nt3, nt4, mo_join, mo_app, mo_pop, mo_ext, mo_get, bi_lenl, bi_lent, bi_listl, bi_listt, bi_listd, bi_tupl, bi_int, b_add, b_sub, b_addl, b_addt, c_eqi, c_eqs, c_nei, c_nes, c_lti, c_lei, c_gti, c_gei, c_les, i_tup, i_lst, isi_str, isi_tup, isi_int, isi_lst, opt_non, opt_int, List.map_cons, List.map_nil, List.length_cons, List.length_nil, Nat.sub_self, List.replicate_zero, Nat.reduceAdd, Nat.reduceSub, List.reduceReplicate, Option.some.injEq, k3, eL, r4]
    refine osat_range (fun j ρ σ => ∃ (δ : Dk) (a e f g : Option D), ρ = [some (.ro (ns.map D.int)), some (.ref 1), some (.int (i : Int)), none, none, some (.lst (LS.map D.str)), a, some (.tup (MK.map mkd)), e, f, g] ∧ σ = S δ ∧ δ.ok (i * 10000 + 100 + j * 1000)) ?_ ?_ ?_
    · exact ⟨δ1, _, _, _, _, rfl, rfl, k2.le (by omega)⟩
    · rintro j hj ρ σ ⟨δ, a, e, f, g, rfl, rfl, hδ⟩
      refine ⟨_, rfl, ?_⟩
      -- the number of pieces
      obtain ⟨m, δ2, m1, m2, m3, m4⟩ : ∃ (m : Nat) (δ' : Dk), 1 ≤ m ∧ m ≤ 30 ∧ δ'.ok (i * 10000 + 100 + j * 1000 + 1) ∧ ∀ ρ : Iv.Env, ρ[1]? = some (some (.ref 1)) →
          iteEB (callK pr 199) (.bin .add (.int 1) (.call 13 [.loc 1, .int 12] [] [] [0, 1])) (.int 30) ρ (S δ) (some (decide ((0 : Int) < j))) = .ok (.int m) (S δ') := by
        by_cases hj0 : (0 : Int) < j
        · obtain ⟨r, δ', q1, q2, q3⟩ := g_draw (pr := pr) (k := 199) (m := 12) (by decide) (by decide) (by decide) hδ (by omega) []
          rw [List.append_nil, List.append_nil] at q3
          have q3 : callK pr 199 13 [.ref 1, .int 12] (S δ) = _ := q3
          refine ⟨r + 1, δ', by omega, by omega, q2, fun ρ h1 => ?_⟩
          have e : (1 : Int) + r = ((r + 1 : Nat) : Int) := by omega
          simp only [fx_nil, fx_one, fx_cons, fx_asg, fx_par, fx_put, fx_exp, fx_ret, fx_ite, fx_for, fx_pass, fx_frz, fv_loc, fv_bin, fv_cmp, fv_chain, fv_and, fv_or, fv_not, fv_ite, fv_tup, fv_lst, fv_dic, fv_star, fv_idx, fv_slice, fv_rev, fv_call, fv_bi, fv_isi, fv_me, fv_comp, fvs_cons, ev_nop, ev_non, ev_bl, ev_int, ev_str, ev_glo, ev_neg_int, evs_nil, thenS_nx, thenS_rt, thenS_exc, asgK_ok, asgK_exc, asgT_some, parA_ok, parB_ok, putA_ok, putB_ok, putC_ok, putR_some, expK_ok, expK_exc, retK_ok, retK_exc, iteK_ok, iteB_t, iteB_f, forA_ok, forB_some, frzA_ref, frzB_l, frzB_d, getK_s, binA_ok, binB_ok, cmpA_ok, cmpB_ok, chA_ok, chB_ok, chC_t, chC_f, andK_ok, andB_t, andB_f, orK_ok, orB_t, orB_f, notK_ok, notB_s, iteE_ok, iteEB_t, iteEB_f, tupK_ok, lstK_ok, dicK_ok, idxA_ok, idxB_ok, slA_ok, slB_n, slB_i, slC_n, slC_i, revK_ok, clA_ok, clB_ok, clC_s, biK_ok, isiK_ok, meA_ok, meB_t, meC_ok, cmA_ok, cmB_s, cmC_ok, esA_f, esA_t, spl_l, spl_t, esB_s, esC_ok, prC_s, prB_s, pr_nil, pr_cons, fin_rt', fin_nx', it_lst, it_ro, it_tup, it_str, tg_nm, tg_tup, sa_nil, sa_cons, ns_0, ns_1, ns_2, ns_3, ns_4, ns_5, ns_6, ns_7, ns_8, ns_9, ns_10, ns_11, ns_12, ns_13, ns_14, ns_15, ns_16, ns_17, ns_18, ns_19, ns_20, ns_21, ns_22, ns_23, ns_24, ns_25, ns_star, sat_ok, osat_nx, osat_rt, List.getElem?_cons_zero, List.getElem?_cons_succ, List.set, List.cons_append, List.nil_append, List.append_nil, wipe_nil, wipe_cons, view_non, view_bl, view_int, view_str, view_tup', view_lst, view_ro, view_dic, view_set, tr_non, tr_bl, tr_int, tr_tup, tr_lst, nl_nil, nl_cons1, nl2, nl3, nl4, nl5, nl6, nl7, nl8, nt0, nt1, nt2, nt3, nt4, mo_join, mo_app, mo_pop, mo_ext, mo_get, bi_lenl, bi_lent, bi_listl, bi_listt, bi_listd, bi_tupl, bi_int, b_add, b_sub, b_addl, b_addt, c_eqi, c_eqs, c_nei, c_nes, c_lti, c_lei, c_gti, c_gei, c_les, i_tup, i_lst, isi_str, isi_tup, isi_int, isi_lst, opt_non, opt_int, List.map_cons, List.map_nil, List.length_cons, List.length_nil, Nat.sub_self, List.replicate_zero, Nat.reduceAdd, Nat.reduceSub, List.reduceReplicate, Option.some.injEq, h1, decide_eq_true hj0, q3, e]
        · refine ⟨30, δ, by decide, by decide, hδ.le (by omega), fun ρ h1 => ?_⟩
          simp only [fx_nil, fx_one, fx_cons, fx_asg, fx_par, fx_put, fx_exp, fx_ret, fx_ite, fx_for, fx_pass, fx_frz, fv_loc, fv_bin, fv_cmp, fv_chain, fv_and, fv_or, fv_not, fv_ite, fv_tup, fv_lst, fv_dic, fv_star, fv_idx, fv_slice, fv_rev, fv_call, fv_bi, fv_isi, fv_me, fv_comp, fvs_cons, ev_nop, ev_non, ev_bl, ev_int, ev_str, ev_glo, ev_neg_int, evs_nil, thenS_nx, thenS_rt, thenS_exc, asgK_ok, asgK_exc, asgT_some, parA_ok, parB_ok, putA_ok, putB_ok, putC_ok, putR_some, expK_ok, expK_exc, retK_ok, retK_exc, iteK_ok, iteB_t, iteB_f, forA_ok, forB_some, frzA_ref, frzB_l, frzB_d, getK_s, binA_ok, binB_ok, cmpA_ok, cmpB_ok, chA_ok, chB_ok, chC_t, chC_f, andK_ok, andB_t, andB_f, orK_ok, orB_t, orB_f, notK_ok, notB_s, iteE_ok, iteEB_t, iteEB_f, tupK_ok, lstK_ok, dicK_ok, idxA_ok, idxB_ok, slA_ok, slB_n, slB_i, slC_n, slC_i, revK_ok, clA_ok, clB_ok, clC_s, biK_ok, isiK_ok, meA_ok, meB_t, meC_ok, cmA_ok, cmB_s, cmC_ok, esA_f, esA_t, spl_l, spl_t, esB_s, esC_ok, prC_s, prB_s, pr_nil, pr_cons, fin_rt', fin_nx', it_lst, it_ro, it_tup, it_str, tg_nm, tg_tup, sa_nil, sa_cons, ns_0, ns_1, ns_2, ns_3, ns_4, ns_5, ns_6, ns_7, ns_8, ns_9, ns_10, ns_11, ns_12, ns_13, ns_14, ns_15, ns_16, ns_17, ns_18, ns_19, ns_20, ns_21, ns_22, ns_23, ns_24, ns_25, ns_star, sat_ok, osat_nx, osat_rt, List.getElem?_cons_zero, List.getElem?_cons_succ, List.set, List.cons_append, List.nil_append, List.append_nil, wipe_nil, wipe_cons, view_non, view_bl, view_int, view_str, view_tup', view_lst, view_ro, view_dic, view_set, tr_non, tr_bl, tr_int, tr_tup, tr_lst, nl_nil, nl_cons1, nl2, nl3, nl4, nl5, nl6, nl7, nl8, nt0, nt1, nt2, nt3, nt4, mo_join, mo_app, mo_pop, mo_ext, mo_get, bi_lenl, bi_lent, bi_listl, bi_listt, bi_listd, bi_tupl, bi_int, b_add, b_sub, b_addl, b_addt, c_eqi, c_eqs, c_nei, c_nes, c_lti, c_lei, c_gti, c_gei, c_les, i_tup, i_lst, isi_str, isi_tup, isi_int, isi_lst, opt_non, opt_int, List.map_cons, List.map_nil, List.length_cons, List.length_nil, Nat.sub_self, List.replicate_zero, Nat.reduceAdd, Nat.reduceSub, List.reduceReplicate, Option.some.injEq, decide_eq_false hj0]
          rfl
      obtain ⟨d, δ3, t1, ⟨t, rfl, t2, t3, t4⟩, t5⟩ := (w_thing (pr := pr) hM hLS 11 199 m _ δ2 [] (by decide) (by decide) m1 (by omega) m3 (by omega)).elim
      obtain ⟨r, δ4, q1, q2, q3⟩ := g_draw (pr := pr) (k := 199) (m := 5) (by decide) (by decide) (by decide) t5 (by omega) []
      obtain ⟨d, δ5, u1, ⟨o, rfl, u2, u3, u4⟩, u5⟩ := (w_thing (pr := pr) hM hLS 4 199 (r + 1) _ δ4 [] (by decide) (by decide) (by omega) (by omega) q2 (by omega)).elim
      obtain ⟨d, δ6, v1, v2, v3⟩ := g_pick (pr := pr) (k := 199) (xs := [.str "K", .str "L", .str "Z", .str "Q9"]) (by decide) (by simp) (by simp) u5 (by omega) []
      obtain ⟨n, rfl⟩ : ∃ n : Str, d = .str n := by
        simp only [List.mem_cons, List.not_mem_nil, or_false] at v1
        rcases v1 with rfl | rfl | rfl | rfl <;> exact ⟨_, rfl⟩
      rw [List.append_nil, List.append_nil] at t1 q3 u1 v3
      have q3 : callK pr 199 13 [.ref 1, .int 5] (S δ3) = _ := q3
      have t1 : callK pr 199 17 [.ref 1, .tup (MK.map mkd), .lst (LS.map D.str), .int m, .int 11] (S δ2) = _ := t1
      have u1 : callK pr 199 17 [.ref 1, .tup (MK.map mkd), .lst (LS.map D.str), .int ((r + 1 : Nat) : Int), .int 4] (S δ4) = _ := u1
      have e : (1 : Int) + r = ((r + 1 : Nat) : Int) := by omega
      have hr := right_of hM hLS t2 u2 (n := n) (by omega) (by omega) (by omega) (by omega)
      simp only [fx_nil, fx_one, fx_cons, fx_asg, fx_par, fx_put, fx_exp, fx_ret, fx_ite, fx_for, fx_pass, fx_frz, fv_loc, fv_bin, fv_cmp, fv_chain, fv_and, fv_or, fv_not, fv_ite, fv_tup, fv_lst, fv_dic, fv_star, fv_idx, fv_slice, fv_rev, fv_call, fv_bi, fv_isi, fv_me, fv_comp, fvs_cons, ev_nop, ev_non, ev_bl, ev_int, ev_str, ev_glo, ev_neg_int, evs_nil, thenS_nx, thenS_rt, thenS_exc, asgK_ok, asgK_exc, asgT_some, parA_ok, parB_ok, putA_ok, putB_ok, putC_ok, putR_some, expK_ok, expK_exc, retK_ok, retK_exc, iteK_ok, iteB_t, iteB_f, forA_ok, forB_some, frzA_ref, frzB_l, frzB_d, getK_s, binA_ok, binB_ok, cmpA_ok, cmpB_ok, chA_ok, chB_ok, chC_t, chC_f, andK_ok, andB_t, andB_f, orK_ok, orB_t, orB_f, notK_ok, notB_s, iteE_ok, iteEB_t, iteEB_f, tupK_ok, lstK_ok, dicK_ok, idxA_ok, idxB_ok, slA_ok, slB_n, slB_i, slC_n, slC_i, revK_ok, clA_ok, clB_ok, clC_s, biK_ok, isiK_ok, meA_ok, meB_t, meC_ok, cmA_ok, cmB_s, cmC_ok, esA_f, esA_t, spl_l, spl_t, esB_s, esC_ok, prC_s, prB_s, pr_nil, pr_cons, fin_rt', fin_nx', it_lst, it_ro, it_tup, it_str, tg_nm, tg_tup, sa_nil, sa_cons, ns_0, ns_1, ns_2, ns_3, ns_4, ns_5, ns_6, ns_7, ns_8, ns_9, ns_10, ns_11, ns_12, ns_13, ns_14, ns_15, ns_16, ns_17, ns_18, ns_19, ns_20, ns_21, ns_22, ns_23, ns_24, ns_25, ns_star, sat_ok, osat_nx, osat_rt, List.getElem?_cons_zero, List.getElem?_cons_succ, List.set, List.cons_append, List.nil_append, List.append_nil, wipe_nil, wipe_cons, view_non, view_bl, view_int, view_str, view_tup', view_lst, view_ro, view_dic, view_set, tr_non, tr_bl, tr_int, tr_tup, tr_lst, nl_nil, nl_cons1, nl2, nl3, nl4, nl5, nl6, nl7, nl8, nt0, nt1, nt2, nt3, nt4, mo_join, mo_app, mo_pop, mo_ext, mo_get, bi_lenl, bi_lent, bi_listl, bi_listt, bi_listd, bi_tupl, bi_int, b_add, b_sub, b_addl, b_addt, c_eqi, c_eqs, c_nei, c_nes, c_lti, c_lei, c_gti, c_gei, c_les, i_tup, i_lst, isi_str, isi_tup, isi_int, isi_lst, opt_non, opt_int, List.map_cons, List.map_nil, List.length_cons, List.length_nil, Nat.sub_self, List.replicate_zero, Nat.reduceAdd, Nat.reduceSub, List.reduceReplicate, Option.some.injEq]
      rw [m4 _ rfl]
      simp only [fx_nil, fx_one, fx_cons, fx_asg, fx_par, fx_put, fx_exp, fx_ret, fx_ite, fx_for, fx_pass, fx_frz, fv_loc, fv_bin, fv_cmp, fv_chain, fv_and, fv_or, fv_not, fv_ite, fv_tup, fv_lst, fv_dic, fv_star, fv_idx, fv_slice, fv_rev, fv_call, fv_bi, fv_isi, fv_me, fv_comp, fvs_cons, ev_nop, ev_non, ev_bl, ev_int, ev_str, ev_glo, ev_neg_int, evs_nil, thenS_nx, thenS_rt, thenS_exc, asgK_ok, asgK_exc, asgT_some, parA_ok, parB_ok, putA_ok, putB_ok, putC_ok, putR_some, expK_ok, expK_exc, retK_ok, retK_exc, iteK_ok, iteB_t, iteB_f, forA_ok, forB_some, frzA_ref, frzB_l, frzB_d, getK_s, binA_ok, binB_ok, cmpA_ok, cmpB_ok, chA_ok, chB_ok, chC_t, chC_f, andK_ok, andB_t, andB_f, orK_ok, orB_t, orB_f, notK_ok, notB_s, iteE_ok, iteEB_t, iteEB_f, tupK_ok, lstK_ok, dicK_ok, idxA_ok, idxB_ok, slA_ok, slB_n, slB_i, slC_n, slC_i, revK_ok, clA_ok, clB_ok, clC_s, biK_ok, isiK_ok, meA_ok, meB_t, meC_ok, cmA_ok, cmB_s, cmC_ok, esA_f, esA_t, spl_l, spl_t, esB_s, esC_ok, prC_s, prB_s, pr_nil, pr_cons, fin_rt', fin_nx', it_lst, it_ro, it_tup, it_str, tg_nm, tg_tup, sa_nil, sa_cons, ns_0, ns_1, ns_2, ns_3, ns_4, ns_5, ns_6, ns_7, ns_8, ns_9, ns_10, ns_11, ns_12, ns_13, ns_14, ns_15, ns_16, ns_17, ns_18, ns_19, ns_20, ns_21, ns_22, ns_23, ns_24, ns_25, ns_star, sat_ok, osat_nx, osat_rt, List.getElem?_cons_zero, List.getElem?_cons_succ, List.set, List.cons_append, List.nil_append, List.append_nil, wipe_nil, wipe_cons, view_non, view_bl, view_int, view_str, view_tup', view_lst, view_ro, view_dic, view_set, tr_non, tr_bl, tr_int, tr_tup, tr_lst, nl_nil, nl_cons1, nl2, nl3, nl4, nl5, nl6, nl7, nl8, nt0, nt1, nt2, nt3, nt4, mo_join, mo_app, mo_pop, mo_ext, mo_get, bi_lenl, bi_lent, bi_listl, bi_listt, bi_listd, bi_tupl, bi_int, b_add, b_sub, b_addl, b_addt, c_eqi, c_eqs, c_nei, c_nes, c_lti, c_lei, c_gti, c_gei, c_les, i_tup, i_lst, isi_str, isi_tup, isi_int, isi_lst, opt_non, opt_int, List.map_cons, List.map_nil, List.length_cons, List.length_nil, Nat.sub_self, List.replicate_zero, Nat.reduceAdd, Nat.reduceSub, List.reduceReplicate, Option.some.injEq, t1, e, q3, u1, v3, hr, Bool.not_true]
      exact ⟨δ6, _, _, _, _, rfl, rfl, v2.le (by omega)⟩
    · rintro ρ σ ⟨δ, a, e, f, g, rfl, rfl, hδ⟩
      exact ⟨δ, _, _, _, _, _, _, _, rfl, rfl, hδ.le (by omega)⟩
  · intro ρ σ hI
    obtain ⟨δ, a, b, c, d, e, f, g, h1, h2, hδ⟩ := hI
    clear hδ
    subst h1
    subst h2
    simp only [fx_nil, fx_one, fx_cons, fx_asg, fx_par, fx_put, fx_exp, fx_ret, fx_ite, fx_for, fx_pass, fx_frz, fv_loc, fv_bin, fv_cmp, fv_chain, fv_and, fv_or, fv_not, fv_ite, fv_tup, fv_lst, fv_dic, fv_star, fv_idx, fv_slice, fv_rev, fv_call, fv_bi, fv_isi, fv_me, fv_comp, fvs_cons, ev_nop, ev_non, ev_bl, ev_int, ev_str, ev_glo, ev_neg_int, evs_nil, thenS_nx, thenS_rt, thenS_exc, asgK_ok, asgK_exc, asgT_some, parA_ok, parB_ok, putA_ok, putB_ok, putC_ok, putR_some, expK_ok, expK_exc, retK_ok, retK_exc, iteK_ok, iteB_t, iteB_f, forA_ok, forB_some, frzA_ref, frzB_l, frzB_d, getK_s, binA_ok, binB_ok, cmpA_ok, cmpB_ok, chA_ok, chB_ok, chC_t, chC_f, andK_ok, andB_t, andB_f, orK_ok, orB_t, orB_f, notK_ok, notB_s, iteE_ok, iteEB_t, iteEB_f, tupK_ok, lstK_ok, dicK_ok, idxA_ok, idxB_ok, slA_ok, slB_n, slB_i, slC_n, slC_i, revK_ok, clA_ok, clB_ok, clC_s, biK_ok, isiK_ok, meA_ok, meB_t, meC_ok, cmA_ok, cmB_s, cmC_ok, esA_f, esA_t, spl_l, spl_t, esB_s, esC_ok, prC_s, prB_s, pr_nil, pr_cons, fin_rt', fin_nx', it_lst, it_ro, it_tup, it_str, tg_nm, tg_tup, sa_nil, sa_cons, ns_0, ns_1, ns_2, ns_3, ns_4, ns_5, ns_6, ns_7, ns_8, ns_9, ns_10, ns_11, ns_12, ns_13, ns_14, ns_15, ns_16, ns_17, ns_18, ns_19, ns_20, ns_21, ns_22, ns_23, ns_24, ns_25, ns_star, sat_ok, osat_nx, osat_rt, List.getElem?_cons_zero, List.getElem?_cons_succ, List.set, List.cons_append, List.nil_append, List.append_nil, wipe_nil, wipe_cons, view_non, view_bl, view_int, view_str, view_tup', view_lst, view_ro, view_dic, view_set, tr_non, tr_bl, tr_int, tr_tup, tr_lst, nl_nil, nl_cons1, nl2, nl3, nl4, nl5, nl6, nl7, nl8, nt0, nt1, nt2, nt3, nt4, mo_join, mo_app, mo_pop, mo_ext, mo_get, bi_lenl, bi_lent, bi_listl, bi_listt, bi_listd, bi_tupl, bi_int, b_add, b_sub, b_addl, b_addt, c_eqi, c_eqs, c_nei, c_nes, c_lti, c_lei, c_gti, c_gei, c_les, i_tup, i_lst, isi_str, isi_tup, isi_int, isi_lst, opt_non, opt_int, List.map_cons, List.map_nil, List.length_cons, List.length_nil, Nat.sub_self, List.replicate_zero, Nat.reduceAdd, Nat.reduceSub, List.reduceReplicate, Option.some.injEq, r11]
    refine fsat (osat_range (fun j ρ σ => ∃ (z : Option D), ρ = [some (.ro (ns.map D.int)), some (.ref 1), a, some (chain j).d, z, b, c, d, e, f, g]) ?_ ?_ ?_)
    · exact ⟨none, by rw [chain, d_leaf]⟩
    · rintro j hj ρ σ ⟨z, rfl⟩
      refine ⟨_, rfl, ?_⟩
      simp only [fx_nil, fx_one, fx_cons, fx_asg, fx_par, fx_put, fx_exp, fx_ret, fx_ite, fx_for, fx_pass, fx_frz, fv_loc, fv_bin, fv_cmp, fv_chain, fv_and, fv_or, fv_not, fv_ite, fv_tup, fv_lst, fv_dic, fv_star, fv_idx, fv_slice, fv_rev, fv_call, fv_bi, fv_isi, fv_me, fv_comp, fvs_cons, ev_nop, ev_non, ev_bl, ev_int, ev_str, ev_glo, ev_neg_int, evs_nil, thenS_nx, thenS_rt, thenS_exc, asgK_ok, asgK_exc, asgT_some, parA_ok, parB_ok, putA_ok, putB_ok, putC_ok, putR_some, expK_ok, expK_exc, retK_ok, retK_exc, iteK_ok, iteB_t, iteB_f, forA_ok, forB_some, frzA_ref, frzB_l, frzB_d, getK_s, binA_ok, binB_ok, cmpA_ok, cmpB_ok, chA_ok, chB_ok, chC_t, chC_f, andK_ok, andB_t, andB_f, orK_ok, orB_t, orB_f, notK_ok, notB_s, iteE_ok, iteEB_t, iteEB_f, tupK_ok, lstK_ok, dicK_ok, idxA_ok, idxB_ok, slA_ok, slB_n, slB_i, slC_n, slC_i, revK_ok, clA_ok, clB_ok, clC_s, biK_ok, isiK_ok, meA_ok, meB_t, meC_ok, cmA_ok, cmB_s, cmC_ok, esA_f, esA_t, spl_l, spl_t, esB_s, esC_ok, prC_s, prB_s, pr_nil, pr_cons, fin_rt', fin_nx', it_lst, it_ro, it_tup, it_str, tg_nm, tg_tup, sa_nil, sa_cons, ns_0, ns_1, ns_2, ns_3, ns_4, ns_5, ns_6, ns_7, ns_8, ns_9, ns_10, ns_11, ns_12, ns_13, ns_14, ns_15, ns_16, ns_17, ns_18, ns_19, ns_20, ns_21, ns_22, ns_23, ns_24, ns_25, ns_star, sat_ok, osat_nx, osat_rt, List.getElem?_cons_zero, List.getElem?_cons_succ, List.set, List.cons_append, List.nil_append, List.append_nil, wipe_nil, wipe_cons, view_non, view_bl, view_int, view_str, view_tup', view_lst, view_ro, view_dic, view_set, tr_non, tr_bl, tr_int, tr_tup, tr_lst, nl_nil, nl_cons1, nl2, nl3, nl4, nl5, nl6, nl7, nl8, nt0, nt1, nt2, nt3, nt4, mo_join, mo_app, mo_pop, mo_ext, mo_get, bi_lenl, bi_lent, bi_listl, bi_listt, bi_listd, bi_tupl, bi_int, b_add, b_sub, b_addl, b_addt, c_eqi, c_eqs, c_nei, c_nes, c_lti, c_lei, c_gti, c_gei, c_les, i_tup, i_lst, isi_str, isi_tup, isi_int, isi_lst, opt_non, opt_int, List.map_cons, List.map_nil, List.length_cons, List.length_nil, Nat.sub_self, List.replicate_zero, Nat.reduceAdd, Nat.reduceSub, List.reduceReplicate, Option.some.injEq]
      exact ⟨some (.int (j : Int)), by rw [chain, d_node, List.map_cons, List.map_nil]⟩
    · rintro ρ σ ⟨z, rfl⟩
      obtain ⟨c1, c2, c3⟩ := chain_ok 11
      have h1 : ∀ τ : Store, callK pr 199 24 [(chain 11).d, .str "K", (chain 11).d] τ = .ok (.bl true) τ := fun τ => r_right c1 c1 (by omega) (by omega) (by omega) (by omega) 198 (by decide) τ
      have h2 : ∀ τ : Store, callK pr 199 24 [.str "a", .str "K", .str "b"] τ = .ok (.bl true) τ := fun τ => by
        have := r_right (n := "K") (t := .leaf "a") (o := .leaf "b") (by decide +kernel) (by decide +kernel) (by rw [Th.sz]; omega) (by rw [Th.sz]; omega) (by rw [Th.dp]; omega) (by rw [Th.dp]; omega) 198 (by decide) τ
        rwa [d_leaf, d_leaf] at this
      have h3 : ∀ τ : Store, callK pr 199 24 [.str "K", .str "K", .str "K"] τ = .ok (.bl true) τ := fun τ => by
        have := r_right (n := "K") (t := .leaf "K") (o := .leaf "K") (by decide +kernel) (by decide +kernel) (by rw [Th.sz]; omega) (by rw [Th.sz]; omega) (by rw [Th.dp]; omega) (by rw [Th.dp]; omega) 198 (by decide) τ
        rwa [d_leaf] at this
      simp only [fx_nil, fx_one, fx_cons, fx_asg, fx_par, fx_put, fx_exp, fx_ret, fx_ite, fx_for, fx_pass, fx_frz, fv_loc, fv_bin, fv_cmp, fv_chain, fv_and, fv_or, fv_not, fv_ite, fv_tup, fv_lst, fv_dic, fv_star, fv_idx, fv_slice, fv_rev, fv_call, fv_bi, fv_isi, fv_me, fv_comp, fvs_cons, ev_nop, ev_non, ev_bl, ev_int, ev_str, ev_glo, ev_neg_int, evs_nil, thenS_nx, thenS_rt, thenS_exc, asgK_ok, asgK_exc, asgT_some, parA_ok, parB_ok, putA_ok, putB_ok, putC_ok, putR_some, expK_ok, expK_exc, retK_ok, retK_exc, iteK_ok, iteB_t, iteB_f, forA_ok, forB_some, frzA_ref, frzB_l, frzB_d, getK_s, binA_ok, binB_ok, cmpA_ok, cmpB_ok, chA_ok, chB_ok, chC_t, chC_f, andK_ok, andB_t, andB_f, orK_ok, orB_t, orB_f, notK_ok, notB_s, iteE_ok, iteEB_t, iteEB_f, tupK_ok, lstK_ok, dicK_ok, idxA_ok, idxB_ok, slA_ok, slB_n, slB_i, slC_n, slC_i, revK_ok, clA_ok, clB_ok, clC_s, biK_ok, isiK_ok, meA_ok, meB_t, meC_ok, cmA_ok, cmB_s, cmC_ok, esA_f, esA_t, spl_l, spl_t, esB_s, esC_ok, prC_s, prB_s, pr_nil, pr_cons, fin_rt', fin_nx', it_lst, it_ro, it_tup, it_str, tg_nm, tg_tup, sa_nil, sa_cons, ns_0, ns_1, ns_2, ns_3, ns_4, ns_5, ns_6, ns_7, ns_8, ns_9, ns_10, ns_11, ns_12, ns_13, ns_14, ns_15, ns_16, ns_17, ns_18, ns_19, ns_20, ns_21, ns_22, ns_23, ns_24, ns_25, ns_star, sat_ok, osat_nx, osat_rt, List.getElem?_cons_zero, List.getElem?_cons_succ, List.set, List.cons_append, List.nil_append, List.append_nil, wipe_nil, wipe_cons, view_non, view_bl, view_int, view_str, view_tup', view_lst, view_ro, view_dic, view_set, tr_non, tr_bl, tr_int, tr_tup, tr_lst, nl_nil, nl_cons1, nl2, nl3, nl4, nl5, nl6, nl7, nl8, nt0, nt1, nt2, nt3, nt4, mo_join, mo_app, mo_pop, mo_ext, mo_get, bi_lenl, bi_lent, bi_listl, bi_listt, bi_listd, bi_tupl, bi_int, b_add, b_sub, b_addl, b_addt, c_eqi, c_eqs, c_nei, c_nes, c_lti, c_lei, c_gti, c_gei, c_les, i_tup, i_lst, isi_str, isi_tup, isi_int, isi_lst, opt_non, opt_int, List.map_cons, List.map_nil, List.length_cons, List.length_nil, Nat.sub_self, List.replicate_zero, Nat.reduceAdd, Nat.reduceSub, List.reduceReplicate, Option.some.injEq, h1, h2, h3]
      exact leave_sat fun _ => rfl
end K03

set_option Elab.async false
set_option linter.all false
set_option maxRecDepth 100000
set_option maxHeartbeats 0
open PySem PySem.W PySem.Calls PyProof.Rows
theorem PySem.Challenge.cw_sealedalike_k03_pieces_sizes_and_names_holds : PySem.Challenge.rw_sealedalike_k03_pieces_sizes_and_names.Holds := by
  w_on; o_law
  refine HandSHeadRun.head_any (r := OpenLaw.row PySem.Challenge.rw_sealedalike_k03_pieces_sizes_and_names) (q := view (OpenLaw.row PySem.Challenge.rw_sealedalike_k03_pieces_sizes_and_names).prog [34]) (H := K03.hk) (ob := K03.ob) (M := 2000) (loose := K03.loose) (d := HandSHeadRun.topDef (OpenLaw.row PySem.Challenge.rw_sealedalike_k03_pieces_sizes_and_names).prog 34) (kwd := []) K03.ob_eq
    (by kernel_rfl) (fun s => by kernel_rfl) K03.run (by kernel_rfl) (by kernel_rfl) (by kernel_rfl) (by rfl) (by first | assumption | decide +kernel) (by decide +kernel) ⟨rfl, rfl, rfl, rfl, rfl, by decide +kernel⟩ ?hw ?hc
  case hw => w_witness2
  case hc =>
    refine Iv.walk_ofG (l := PySem.Challenge.rw_sealedalike_k03_pieces_sizes_and_names) (n := 63) (k := 200) (x := "_law_script") rfl (by decide) (by kernel_rfl) ⟨rfl, by decide, by decide⟩ ?F
    intro w mg fa h Y G hmg0
    obtain ⟨K, KX, c⟩ := Y
    have hmg : mg ("law" : PySem.Str) = some (.ref fa) := by
      have e : (HandSHeadRun.topDef (OpenLaw.row PySem.Challenge.rw_sealedalike_k03_pieces_sizes_and_names).prog 34).name = ("law" : PySem.Str) := by kernel_rfl
      rw [← e]
      exact hmg0
    obtain ⟨fd, sp, hb, hsp, hF⟩ := Iv.law_facts (P := (PySem.Challenge.rw_sealedalike_k03_pieces_sizes_and_names).prog) (w := w) (fuel := 100) (k := 199) (n := 63) (j := 25) (i := K03.i_law) (x := "_law_script") (y := "law") (g := K03.g) KX G c rfl rfl rfl K03.ok_all K03.sh_all rfl rfl rfl rfl (by simp [K03.i_law]) hmg K03.plain
    exact ⟨K, fd, sp, KX, hb, hsp, hF⟩

