import PyProof.Rows.All
import Wide.All
import OpenK.AllK
import Wide.FinOn
import PyProof.P3Statements
import PyProof.ReprReads
import HandS.ForMost
import HandS.Lambda
import HandS.TupAny
import HandS.Style
import HandS.Flow
import HandS.Deep
import HandS.IsInst
import HandS.Conv
import HandS.RaiseMore
import HandS.Defaults
import HandS.Walk
import HandS.Iter
import HandS.Text
import HandS.Nested
import HandS.Small
import HandS.Zip0
import HandS.Head4
import HandS.HeadEnd
import HandS.HeadWalk
import HandS.EndTab
import HandS.HeadHook4
import PySem.Challenge.RW_kinferry_k01_terms_and_numbers
import Lean
import PyProof.ReprBulk
section
set_option Elab.async false
set_option linter.all false
/-! PC: a small deterministic interpreter for the Python of these laws. Values that never change are trees (D); lists, dicts,
instances stand in a store by number. -/
namespace PC
open PySem

abbrev Ky := Sum Int Str

/-! ### the syntax -/
/-- built-in functions -/
inductive Bi where
  | len | list | tuple | dict | int | str | repr | bool | sorted | sum | all | any | max | min | set | abs | ord | chr
  deriving DecidableEq, Repr, Inhabited
/-- what isinstance asks -/
inductive Ty where
  | int | str | bool | list | tuple | dict | cls (c : Nat)
  deriving DecidableEq, Repr, Inhabited
/-- places that are stored to -/
inductive Tg where
  | name (i : Nat) | tup (ts : List Nat) | star (ts : List Nat) (r : Nat)
  deriving DecidableEq, Repr, Inhabited
/-- what a loop walks over -/
inductive Src where
  | val | range | enum | zip | items | vals
  deriving DecidableEq, Repr, Inhabited

mutual
inductive CE where
  | non | bl (b : Bool) | int (i : Int) | str (x : Str)
  | var (i : Nat) | glo (g : Nat) | fnv (f : Nat)
  | bin (op : Operator) (a b : CE) | neg (a : CE) | notE (a : CE)
  | andE (a b : CE) | orE (a b : CE) | ifE (c a b : CE)
  | cmp (op : CmpOp) (a b : CE) | chain (op op2 : CmpOp) (a b c : CE)
  | call (f : Nat) (as : CEs) (ix : List Nat) | make (c : Nat) (as : CEs) | meth (o : CE) (m : Str) (as : CEs)
  | bi (b : Bi) (as : CEs) | isi (a : CE) (ts : List Ty) | app (j : Nat) (as : CEs)
  | attr (o : CE) (f : Str) | idx (a i : CE) | slc (a : CE) (lo hi : CO) | rev (a : CE)
  | tupE (es : CEs) | lstE (es : CEs) | dicE (ks vs : CEs)
  | lc (elt : CE) (tg : Tg) (src : Src) (it : CEs) (ifs : CEs) (own : List Nat)
  | dc (k v : CE) (tg : Tg) (src : Src) (it : CEs) (ifs : CEs) (own : List Nat)
  | callV (f : Nat) (as : CEs) (j : Nat) | callL (f : Nat) (as : CEs) (l : Nat) (caps : List Nat) | col (src : Src) (es : CEs)
inductive CEs where
  | nil | cons (e : CE) (es : CEs)
inductive CO where
  | no | so (e : CE)
end

/-- values: numbers, texts, tuples; things that change stand in the store; a lambda bears what it caught -/
inductive D where
  | non | bl (b : Bool) | int (i : Int) | str (x : Str)
  | tup (xs : List D) | frl (xs : List D) | ref (n : Nat) | fn (n : Nat) | lam (l : Nat) (cs : List D)
  deriving Inhabited

/-- what stands at a number of the store; fro: a list that nobody may change -/
inductive Ob where
  | lst (xs : List D) | fro (xs : List D) | dk (kvs : List (Ky × D)) | dt (kvs : List (List Ky × D)) | ins (c : Nat) (fs : List (Str × D))
  deriving Inhabited

abbrev Sto := List Ob
abbrev En := List (Option D)
abbrev Re (α : Type) := Option (α × Sto)


mutual
inductive CS where
  | set (t : Tg) (e : CE) | setI (o i e : CE) | setA (o : CE) (f : Str) (e : CE)
  | aug (i : Nat) (op : Operator) (e : CE) | augA (o : CE) (f : Str) (op : Operator) (e : CE)
  | ifS (c : CE) (a b : CSs) | whl (c : CE) (b : CSs) | for_ (tg : Tg) (src : Src) (it : CEs) (b : CSs)
  | ret (e : CE) | retN | exp (e : CE) | pass | brk | cnt
inductive CSs where
  | nil | cons (s : CS) (r : CSs)
end

structure Fn where
  ps : Nat
  slots : Nat
  body : CSs
structure Cls where
  ini : Option Nat
  meths : List (Str × Nat)
/-- a lambda: its parameters, its slots, its body -/
structure Lm where
  ps : Nat
  slots : Nat
  body : CE
structure Prog where
  fns : List Fn
  lms : List Lm := []
  cls : List Cls
  glos : List D

/-! ### what the words do to values -/
/-- the most that a list, a text may hold -/
def line : Nat := 16777216
/-- a store with one more -/
def new (o : Ob) (S : Sto) : Re D := some (.ref S.length, S ++ [o])
def bnd {α β : Type} (m : Re α) (k : α → Sto → Re β) : Re β := match m with
  | some (a, S) => k a S
  | none => none
/-- an answer that leaves the store -/
def giv (d : Option D) (S : Sto) : Re D := d.map fun d => (d, S)

def optMap {α β : Type} (f : α → Option β) : List α → Option (List β)
  | [] => some []
  | x :: xs => match f x, optMap f xs with
    | some y, some ys => some (y :: ys)
    | _, _ => none
def kyP : Ky → PyData
  | .inl i => .int i
  | .inr x => .str x
def kyD : Ky → D
  | .inl i => .int i
  | .inr x => .str x
/-- what data a value is: lists, tuples, dicts down to a depth -/
def rdP : Nat → Sto → D → Option PyData
  | 0, _, _ => none
  | k + 1, S, d => match d with
    | .non => some .none
    | .bl b => some (.bool b)
    | .int i => some (.int i)
    | .str x => some (.str x)
    | .tup xs => (optMap (rdP k S) xs).map .tuple
    | .ref n => match S[n]? with
      | some (.lst xs) => (optMap (rdP k S) xs).map .list
      | some (.fro xs) => (optMap (rdP k S) xs).map .list
      | some (.dk kvs) => (optMap (rdP k S) (kvs.map (·.2))).map fun vs => .dict ((kvs.map fun kv => kyP kv.1).zip vs)
      | _ => none
    | .frl xs => (optMap (rdP k S) xs).map .list
    | .fn _ => none
    | .lam _ _ => none
def truD (d : D) (S : Sto) : Option Bool := match d with
  | .non => some false
  | .bl b => some b
  | .int i => some (i != 0)
  | .str x => if x.length ≤ line then some ((x.length : Int) != 0) else none
  | .tup xs => some (!xs.isEmpty)
  | .frl xs => some (!xs.isEmpty)
  | .ref n => match S[n]? with
    | some (.lst xs) => some (!xs.isEmpty)
    | some (.fro xs) => some (!xs.isEmpty)
    | some (.dk kvs) => some (!kvs.isEmpty)
    | _ => none
  | _ => none
def lstD (d : D) (S : Sto) : Option (List D) := match d with
  | .frl xs => some xs
  | .ref n => match S[n]? with
    | some (.lst xs) => some xs
    | some (.fro xs) => some xs
    | _ => none
  | _ => none
/-- a list's items or a tuple's -/
def seqD (d : D) (S : Sto) : Option (List D) := match d with
  | .tup xs => some xs
  | d => lstD d S
def mulOk (i j : Int) : Bool := (decide (-(2 ^ 64) < i) && decide (i < 2 ^ 64)) || (decide (-(2 ^ 64) < j) && decide (j < 2 ^ 64))
def powOk (i j : Int) : Bool := decide (0 ≤ j) && decide (j ≤ 1000000) && decide (i.natAbs < 2 ^ 64)
def binD (op : Operator) (a b : D) (S : Sto) : Re D := match op, a, b with
  | .Add, .int i, .int j => some (.int (i + j), S)
  | .Add, .str x, .str y => if x.length + y.length ≤ line then some (.str (x ++ y), S) else none
  | .Add, .tup xs, .tup ys => if xs.length + ys.length ≤ line then some (.tup (xs ++ ys), S) else none
  | .Add, .ref n, .ref m => match S[n]?, S[m]? with
    | some (.lst xs), some (.lst ys) => if xs.length + ys.length ≤ line then new (.lst (xs ++ ys)) S else none
    | _, _ => none
  | .Sub, .int i, .int j => some (.int (i - j), S)
  | .Mult, .int i, .int j => if mulOk i j then some (.int (i * j), S) else none
  | .Mult, .str x, .int j => if 0 ≤ j ∧ j ≤ 1000 ∧ x.length * j.toNat ≤ line then some (.str ⟨((List.replicate j.toNat x.cps.toList).flatten).toArray⟩, S) else none
  | .Mult, .ref n, .int j => match S[n]? with
    | some (.lst xs) => if 0 ≤ j ∧ j ≤ 1000 ∧ xs.length * j.toNat ≤ line then new (.lst ((List.replicate j.toNat xs).flatten)) S else none
    | _ => none
  | .FloorDiv, .int i, .int j => if 0 < j ∧ j < 1073741824 then some (.int (i / j), S) else none
  | .Mod, .int i, .int j => if 0 < j then some (.int (i % j), S) else none
  | .Pow, .int i, .int j => if powOk i j then some (.int (i ^ j.toNat), S) else none
  | .LShift, .int i, .int j => if powOk i j then some (.int (i * 2 ^ j.toNat), S) else none
  | _, _, _ => none
def keyOf : D → Option Ky
  | .int i => some (.inl i)
  | .str x => some (.inr x)
  | _ => none
def keysOf : D → Option (List Ky)
  | .tup xs => optMap keyOf xs
  | _ => none
def valK {κ α : Type} [DecidableEq κ] (k : κ) (kvs : List (κ × α)) : Option α := (kvs.find? fun kv => decide (kv.1 = k)).map (·.2)
def putK {κ α : Type} [DecidableEq κ] (k : κ) (v : α) (kvs : List (κ × α)) : List (κ × α) :=
  if kvs.any (fun kv => decide (kv.1 = k)) = true then kvs.map fun kv => if kv.1 = k then (kv.1, v) else kv else kvs ++ [(k, v)]
/-- an instance's field -/
def fldD (f : Str) (v : D) : List (Str × D) → List (Str × D)
  | [] => [(f, v)]
  | (g, u) :: r => if g = f then (g, v) :: r else (g, u) :: fldD f v r
mutual
def noD : PyData → Bool
  | .none => true
  | .bool _ => true
  | .int _ => true
  | .str _ => true
  | .list xs => noDs xs
  | .tuple xs => noDs xs
  | .dict _ => false
def noDs : List PyData → Bool
  | [] => true
  | x :: xs => noD x && noDs xs
end
/-- data without dicts -/
def rdQ (S : Sto) (d : D) : Option PyData := match rdP 60 S d with
  | some p => if noD p then some p else none
  | none => none
def eqD (a b : D) (S : Sto) : Option Bool := match rdQ S a, rdQ S b with
  | some p, some q => some (p.eqv q)
  | _, _ => none
/-- is a value one of some -/
def inD (a : D) (xs : List D) (S : Sto) : Option Bool := match rdQ S a, optMap (rdQ S) xs with
  | some p, some qs => some (qs.any fun q => q.eqv p)
  | _, _ => none
def cmpD (op : CmpOp) (a b : D) (S : Sto) : Option Bool := match op with
  | .Eq => eqD a b S
  | .NotEq => (eqD a b S).map (!·)
  | .Lt => match a, b with
    | .int i, .int j => some (decide (i < j))
    | .str x, .str y => some (decide (x.cps.toList < y.cps.toList))
    | _, _ => none
  | .LtE => match a, b with
    | .int i, .int j => some (decide (i ≤ j))
    | .str x, .str y => some (!decide (y.cps.toList < x.cps.toList))
    | _, _ => none
  | .Gt => match a, b with
    | .int i, .int j => some (decide (j < i))
    | _, _ => none
  | .GtE => match a, b with
    | .int i, .int j => some (decide (j ≤ i))
    | _, _ => none
  | .Is => match b with
    | .non => some (match a with | .non => true | _ => false)
    | _ => none
  | .IsNot => match b with
    | .non => some (match a with | .non => false | _ => true)
    | _ => none
  | .In => isIn a b S
  | .NotIn => (isIn a b S).map (!·)
where
  isIn (a b : D) (S : Sto) : Option Bool := match b with
    | .str x => match a with
      | .str y => match y.cps.toList with
        | [c] => some (decide (c ∈ x.cps.toList))
        | _ => none
      | _ => none
    | .tup xs => inD a xs S
    | .ref n => match S[n]? with
      | some (.lst xs) => inD a xs S
      | some (.fro xs) => inD a xs S
      | some (.dk kvs) => (keyOf a).map fun k => (valK k kvs).isSome
      | _ => none
    | _ => none
def idxD (a i : D) (S : Sto) : Option D := match a, i with
  | .tup xs, .int j => L2.atI xs j
  | .frl xs, .int j => L2.atI xs j
  | .str x, .int j => if x.length ≤ line then (L2.atI x.cps.toList j).map fun c => .str ⟨#[c]⟩ else none
  | .ref n, i => match S[n]? with
    | some (.lst xs) => match i with
      | .int j => L2.atI xs j
      | _ => none
    | some (.fro xs) => match i with
      | .int j => L2.atI xs j
      | _ => none
    | some (.dk kvs) => match keyOf i with
      | some k => valK k kvs
      | none => none
    | _ => none
  | _, _ => none
def cutL {α : Type} (xs : List α) (lo hi : Option Int) : List α := (xs.drop (HT.sIx xs.length 0 lo)).take (HT.sIx xs.length xs.length hi - HT.sIx xs.length 0 lo)
def slcD (a : D) (lo hi : Option Int) (S : Sto) : Re D := match a with
  | .tup xs => some (.tup (cutL xs lo hi), S)
  | .frl xs => new (.lst (cutL xs lo hi)) S
  | .str x => if x.length ≤ line then some (.str (L2.cutS x lo hi), S) else none
  | .ref n => match S[n]? with
    | some (.lst xs) => new (.lst (cutL xs lo hi)) S
    | some (.fro xs) => new (.lst (cutL xs lo hi)) S
    | _ => none
  | _ => none
def intD : D → Option Int
  | .int i => some i
  | _ => none
def boolD : D → Option Bool
  | .bl b => some b
  | _ => none
def strD : D → Option Str
  | .str x => some x
  | _ => none
def pairD : D → Option (Ky × D)
  | .tup [k, v] => (keyOf k).map fun k => (k, v)
  | _ => none
def tyD (t : Ty) (d : D) (S : Sto) : Option Bool := match d with
  | .non => some false
  | .bl _ => some (t == .bool || t == .int)
  | .int _ => some (t == .int)
  | .str _ => some (t == .str)
  | .tup _ => some (t == .tuple)
  | .frl _ => none
  | .ref n => match S[n]? with
    | some (.lst _) => some (t == .list)
    | some (.fro _) => some (t == .list)
    | some (.dk _) => some (t == .dict)
    | some (.ins c _) => (match t with
      | .cls k => some (k == c)
      | _ => none)
    | _ => none
  | _ => none
/-- isinstance with some kinds -/
def isiD (d : D) (S : Sto) : List Ty → Option Bool
  | [] => some false
  | t :: ts => match tyD t d S with
    | some true => some true
    | some false => isiD d S ts
    | none => none
/-- what repr is asked of: no dicts, or the empty one alone -/
def repOk (p : PyData) : Bool := noD p || (match p with | .dict [] => true | _ => false)
def reprD (d : D) (S : Sto) : Option Str := match rdP 60 S d with
  | some p => if repOk p = true ∧ p.showable = true ∧ (PyData.shown p).length ≤ line then some (PyData.shown p) else none
  | none => none
def lenD (d : D) (S : Sto) : Option Int := match d with
  | .tup xs => some xs.length
  | .frl xs => some xs.length
  | .str x => if x.length ≤ line then some x.length else none
  | .ref n => match S[n]? with
    | some (.lst xs) => some xs.length
    | some (.fro xs) => some xs.length
    | some (.dk kvs) => some kvs.length
    | _ => none
  | _ => none
def tupD (d : D) (S : Sto) : Option D := match d with
  | .tup xs => some (.tup xs)
  | .ref n => match S[n]? with
    | some (.lst xs) => some (.tup xs)
    | some (.fro xs) => some (.tup xs)
    | _ => none
  | _ => none
def dicD (d : D) (S : Sto) : Re D := match (lstD d S).bind (optMap pairD) with
  | some kvs => new (.dk (kvs.foldl (fun m kv => putK kv.1 kv.2 m) [])) S
  | none => none
def bi1 (b : Bi) (d : D) (S : Sto) : Re D := match b with
  | .len => giv ((lenD d S).map .int) S
  | .tuple => giv (tupD d S) S
  | .dict => dicD d S
  | .int => giv (match d with
    | .int i => some (.int i)
    | .bl b => some (.int (if b then 1 else 0))
    | _ => none) S
  | .str => giv (match d with
    | .int i => if i.natAbs.log2 < 1920 then some (.str (toString i)) else none
    | _ => none) S
  | .repr => giv ((reprD d S).map .str) S
  | .all => giv (((lstD d S).bind (optMap boolD)).map fun bs => .bl (bs.all id)) S
  | .any => giv (((lstD d S).bind (optMap boolD)).map fun bs => .bl (bs.any id)) S
  | .sum => giv (((lstD d S).bind (optMap intD)).map fun ns => .int ns.sum) S
  | .abs => giv ((intD d).map fun i => .int (if i < 0 then -i else i)) S
  | _ => none
def bi2 (b : Bi) (d e : D) (S : Sto) : Re D := match b, intD d, intD e with
  | .max, some i, some j => some (.int (if j > i then j else i), S)
  | .min, some i, some j => some (.int (if j < i then j else i), S)
  | _, _, _ => none
def biD (b : Bi) (as : List D) (S : Sto) : Re D := match as with
  | [d] => bi1 b d S
  | [d, e] => bi2 b d e S
  | _ => none
/-- the methods of built-in kinds -/
def mAppend (o a : D) (S : Sto) : Re D := match o with
  | .ref n => match S[n]? with
    | some (.lst xs) => if xs.length < line then some (.non, S.set n (.lst (xs ++ [a]))) else none
    | _ => none
  | _ => none
def mExtend (o a : D) (S : Sto) : Re D := match o, a with
  | .ref n, .ref k => match S[n]?, S[k]? with
    | some (.lst xs), some (.lst ys) => if xs.length + ys.length ≤ line then some (.non, S.set n (.lst (xs ++ ys))) else none
    | _, _ => none
  | _, _ => none
def mPopAt (o a : D) (S : Sto) : Re D := match o, a with
  | .ref n, .int i => match S[n]? with
    | some (.lst xs) => if -(2 ^ 62) ≤ i ∧ i < 2 ^ 62 then (match L2.ixN xs.length i with
      | some k => (match xs[k]? with
        | some y => some (y, S.set n (.lst (xs.eraseIdx k)))
        | none => none)
      | none => none) else none
    | _ => none
  | _, _ => none
def mPop (o : D) (S : Sto) : Re D := match o with
  | .ref n => match S[n]? with
    | some (.lst xs) => (match xs[xs.length - 1]? with
      | some y => some (y, S.set n (.lst xs.dropLast))
      | none => none)
    | _ => none
  | _ => none
def mUpper (o : D) (S : Sto) : Re D := match o with
  | .str x => if x.length ≤ 5592405 then some (.str (Txt.upper x), S) else none
  | _ => none
def mJoin (o a : D) (S : Sto) : Re D := match o with
  | .str x => match (seqD a S).bind (optMap strD) with
    | some ys => if (ys.map (·.length)).sum + ys.length * x.length ≤ line then some (.str (Txt.join x ys), S) else none
    | none => none
  | _ => none
def metD (o : D) (m : Str) (as : List D) (S : Sto) : Re D := match as with
  | [] => if m = "pop" then mPop o S else if m = "upper" then mUpper o S else none
  | [a] => if m = "append" then mAppend o a S else if m = "extend" then mExtend o a S else if m = "pop" then mPopAt o a S else if m = "join" then mJoin o a S else none
  | _ => none
/-- the turns' things, and what stands still meanwhile -/
def itV (d : D) (S : Sto) : Option (List D × List Nat) := match d with
  | .tup xs => some (xs, [])
  | .frl xs => some (xs, [])
  | .str x => some (x.cps.toList.map fun c => .str ⟨#[c]⟩, [])
  | .ref n => match S[n]? with
    | some (.lst xs) => some (xs, [n])
    | some (.fro xs) => some (xs, [n])
    | _ => none
  | _ => none
def itR1 (a : D) : Option (List D × List Nat) := match a with
  | .int j => if -(2 ^ 62) ≤ j ∧ j < 2 ^ 62 then some ((List.range j.toNat).map fun (k : Nat) => .int (0 + k), []) else none
  | _ => none
def itR2 (a b : D) : Option (List D × List Nat) := match a, b with
  | .int i, .int j => if -(2 ^ 62) ≤ i ∧ i < 2 ^ 62 ∧ -(2 ^ 62) ≤ j ∧ j < 2 ^ 62 then some ((List.range (j - i).toNat).map fun (k : Nat) => .int (i + k), []) else none
  | _, _ => none
def lstR (d : D) (S : Sto) : Option (Nat × List D) := match d with
  | .ref n => match S[n]? with
    | some (.lst xs) => some (n, xs)
    | some (.fro xs) => some (n, xs)
    | _ => none
  | _ => none
def itD (s : Src) (as : List D) (S : Sto) : Option (List D × List Nat) := match s with
  | .val => (match as with
    | [d] => itV d S
    | _ => none)
  | .range => (match as with
    | [a] => itR1 a
    | [a, b] => itR2 a b
    | _ => none)
  | .enum => (match as with
    | [d] => (lstR d S).map fun (n, xs) => (xs.zipIdx.map fun (x, k) => .tup [.int k, x], [n])
    | _ => none)
  | .zip => (match as with
    | [a, b] => match lstR a S, lstR b S with
      | some (n, xs), some (m, ys) => some (List.zipWith (fun x y => .tup [x, y]) xs ys, [n, m])
      | _, _ => none
    | _ => none)
  | _ => none
def froz (S : Sto) (n : Nat) : Sto := match S[n]? with
  | some (.lst xs) => S.set n (.fro xs)
  | _ => S
/-- the lists that stood still may be changed again, as they could ahead -/
def thaw (S0 S : Sto) (n : Nat) : Sto := match S0[n]? with
  | some (.lst xs) => S.set n (.lst xs)
  | _ => S
def putT (t : Tg) (d : D) (e : En) : Option En := match t with
  | .name i => some (e.set i (some d))
  | .tup ts => match d with
    | .tup xs => if xs.length = ts.length then some ((ts.zip xs).foldl (fun e (i, x) => e.set i (some x)) e) else none
    | _ => none
  | .star _ _ => none
def wipe (e : En) : List Nat → En
  | [] => e
  | v :: vs => (wipe e vs).set v none
/-- what a caller knows of the defs: at its own level, at one less (an instance's making) -/
structure Cal where
  fn : Nat → List D → Sto → Re D
  ini : Nat → List D → Sto → Re D
  lam : Nat → List D → List D → Sto → Re D
  P : Prog
def callIx (ix : List Nat) (as : List D) : Option (List D) := if ix = [] then some as else optMap (fun i => as[i]?) ix
/-- items one by one, what is made of each, if it is kept -/
def lcLoop (f : D → Sto → Option (Option D × Sto)) : List D → Sto → Option (List D × Sto)
  | [], S => some ([], S)
  | x :: xs, S => match f x S with
    | some (o, S1) => match lcLoop f xs S1 with
      | some (ys, S2) => some (o.toList ++ ys, S2)
      | none => none
    | none => none

def litD : D → CE
  | .non => .non
  | .bl b => .bl b
  | .int i => .int i
  | .str x => .str x
  | _ => .non
/-- o.m(..): of an instance a def, else a built-in method -/
def mthD (C : Cal) (o : D) (m : Str) (as : List D) (S : Sto) : Re D := match o with
  | .ref n => match S[n]? with
    | some (.ins c _) => match C.P.cls[c]? with
      | some K => match K.meths.lookup m with
        | some f => C.fn f (o :: as) S
        | none => none
      | none => none
    | _ => metD o m as S
  | o => metD o m as S
def isLam : D → Bool
  | .lam _ _ => true
  | _ => false
/-- a captured name's value -/
def capD (e : En) (i : Nat) : Option D := match e[i]? with
  | some (some d) => if isLam d then none else some d
  | _ => none
/-- has it methods -/
def metK (o : D) (S : Sto) : Bool := match o with
  | .ref n => match S[n]? with
    | some (.lst _) => true
    | some (.fro _) => true
    | _ => false
  | .str _ => true
  | _ => false
def atrD (o : D) (f : Str) (S : Sto) : Option D := match o with
  | .ref n => match S[n]? with
    | some (.ins _ fs) => fs.lookup f
    | _ => none
  | _ => none
/-- over the items of a source: its lists stand still meanwhile -/
def lcRun (src : Src) (as : List D) (S : Sto) (turn : D → Sto → Option (Option D × Sto)) : Option (List D × Sto) :=
  match itD src as S with
  | some (xs, st) => match lcLoop turn xs (st.foldl froz S) with
    | some (ys, S2) => some (ys, st.foldl (thaw S) S2)
    | none => none
  | none => none
/-- the turn of a comprehension -/
def lcTn (t : En → Sto → Re Bool) (f : En → Sto → Re D) (tg : Tg) (e : En) (x : D) (S : Sto) : Option (Option D × Sto) := match putT tg x e with
  | some e1 => match t e1 S with
    | some (true, S1) => match f e1 S1 with
      | some (d, S2) => some (some d, S2)
      | none => none
    | some (false, S1) => some (none, S1)
    | none => none
  | none => none
mutual
def evE (C : Cal) : CE → En → Sto → Re D
  | .non, _, S => some (.non, S)
  | .bl b, _, S => some (.bl b, S)
  | .int i, _, S => some (.int i, S)
  | .str x, _, S => some (.str x, S)
  | .var i, e, S => match e[i]? with
    | some (some d) => if isLam d then none else some (d, S)
    | _ => none
  | .glo g, _, S => giv C.P.glos[g]? S
  | .fnv f, _, S => some (.fn f, S)
  | .bin op a b, e, S => bnd (evE C a e S) fun x S => bnd (evE C b e S) fun y S => binD op x y S
  | .neg a, e, S => bnd (evE C a e S) fun x S => match x with
    | .int i => some (.int (-i), S)
    | _ => none
  | .notE a, e, S => bnd (evE C a e S) fun x S => giv ((truD x S).map fun b => .bl (!b)) S
  | .andE a b, e, S => bnd (evE C a e S) fun x S => match truD x S with
    | some true => evE C b e S
    | some false => some (x, S)
    | none => none
  | .orE a b, e, S => bnd (evE C a e S) fun x S => match truD x S with
    | some true => some (x, S)
    | some false => evE C b e S
    | none => none
  | .ifE c a b, e, S => bnd (evE C c e S) fun x S => match truD x S with
    | some true => evE C a e S
    | some false => evE C b e S
    | none => none
  | .cmp op a b, e, S => bnd (evE C a e S) fun x S => bnd (evE C b e S) fun y S => giv ((cmpD op x y S).map .bl) S
  | .chain op op2 a b c, e, S => bnd (evE C a e S) fun x S => bnd (evE C b e S) fun y S => match cmpD op x y S with
    | some true => bnd (evE C c e S) fun z S => giv ((cmpD op2 y z S).map .bl) S
    | some false => some (.bl false, S)
    | none => none
  | .call f as ix, e, S => bnd (evEs C as e S) fun xs S => match callIx ix xs with
    | some ys => C.fn f ys S
    | none => none
  | .make c as, e, S => bnd (evEs C as e S) fun xs S => match C.P.cls[c]? with
    | some ⟨some f, _⟩ => bnd (C.ini f (.ref S.length :: xs) (S ++ [.ins c []])) fun _ S1 => some (.ref S.length, S1)
    | _ => none
  | .meth o m as, e, S => bnd (evE C o e S) fun x S => if metK x S = true then bnd (evEs C as e S) fun xs S => metD x m xs S else none
  | .bi b as, e, S => bnd (evEs C as e S) fun xs S => biD b xs S
  | .isi a ts, e, S => bnd (evE C a e S) fun x S => giv ((isiD x S ts).map .bl) S
  | .app j as, e, S => match e[j]? with
    | some (some (.lam l cs)) => bnd (evEs C as e S) fun xs S => C.lam l xs cs S
    | _ => none
  | .callV f as j, e, S => match e[j]? with
    | some (some (.lam l cs)) => bnd (evEs C as e S) fun xs S => C.fn f (xs ++ [.lam l cs]) S
    | _ => none
  | .callL f as l caps, e, S => bnd (evEs C as e S) fun xs S => match optMap (capD e) caps with
    | some cs => C.fn f (xs ++ [.lam l cs]) S
    | none => none
  | .attr o f, e, S => bnd (evE C o e S) fun x S => giv (atrD x f S) S
  | .idx a i, e, S => bnd (evE C a e S) fun x S => bnd (evE C i e S) fun y S => giv (idxD x y S) S
  | .slc a lo hi, e, S => bnd (evE C a e S) fun x S => bnd (evO C lo e S) fun l S => bnd (evO C hi e S) fun h S => slcD x l h S
  | .rev a, e, S => bnd (evE C a e S) fun x S => match lstD x S with
    | some xs => new (.lst xs.reverse) S
    | none => none
  | .tupE es, e, S => bnd (evEs C es e S) fun xs S => if xs.length ≤ line then some (.tup xs, S) else none
  | .lstE es, e, S => bnd (evEs C es e S) fun xs S => if xs.length ≤ line then new (.lst xs) S else none
  | .dicE ks vs, e, S => bnd (evEs C ks e S) fun xs S => bnd (evEs C vs e S) fun ys S => match optMap keyOf xs with
    | some kk => if xs.length = ys.length ∧ xs.length ≤ 15 then new (.dk ((kk.zip ys).foldl (fun m kv => putK kv.1 kv.2 m) [])) S else none
    | none => none
  | .lc elt tg src it ifs own, e, S => bnd (evEs C it e S) fun as S =>
    match lcRun src as S (lcTn (tstEs C ifs) (evE C elt) tg (wipe e own)) with
    | some (ys, S2) => if ys.length < line then new (.lst ys) S2 else none
    | none => none
  | .dc _ _ _ _ _ _ _, _, _ => none
  | .col src es, e, S => bnd (evEs C es e S) fun as S => match itD src as S with
    | some (xs, _) => if xs.length ≤ line then new (.lst xs) S else none
    | none => none
def evEs (C : Cal) : CEs → En → Sto → Re (List D)
  | .nil, _, S => some ([], S)
  | .cons a r, e, S => bnd (evE C a e S) fun x S => bnd (evEs C r e S) fun xs S => some (x :: xs, S)
def evO (C : Cal) : CO → En → Sto → Re (Option Int)
  | .no, _, S => some (none, S)
  | .so a, e, S => bnd (evE C a e S) fun x S => match x with
    | .int i => some (some i, S)
    | _ => none
def tstEs (C : Cal) : CEs → En → Sto → Re Bool
  | .nil, _, S => some (true, S)
  | .cons a r, e, S => bnd (evE C a e S) fun x S => match truD x S with
    | some true => tstEs C r e S
    | some false => some (false, S)
    | none => none
end

/-- how a statement ends -/
inductive Fl where
  | nx | bk | ct | rt (d : D)
  deriving Inhabited
abbrev Rs := Option (Fl × En × Sto)
def forLoop (f : D → En → Sto → Rs) : List D → En → Sto → Rs
  | [], e, S => some (.nx, e, S)
  | x :: xs, e, S => match f x e S with
    | some (.nx, e1, S1) => forLoop f xs e1 S1
    | some (.ct, e1, S1) => forLoop f xs e1 S1
    | some (.bk, e1, S1) => some (.nx, e1, S1)
    | some (.rt d, e1, S1) => some (.rt d, e1, S1)
    | none => none
def whlLoop (t : En → Sto → Re Bool) (f : En → Sto → Rs) : Nat → En → Sto → Rs
  | 0, _, _ => none
  | k + 1, e, S => match t e S with
    | some (true, S1) => match f e S1 with
      | some (.nx, e2, S2) => whlLoop t f k e2 S2
      | some (.ct, e2, S2) => whlLoop t f k e2 S2
      | some (.bk, e2, S2) => some (.nx, e2, S2)
      | some (.rt d, e2, S2) => some (.rt d, e2, S2)
      | none => none
    | some (false, S1) => some (.nx, e, S1)
    | none => none
/-- more turns than any while here has -/
def turns : Nat := 100000
def bnS {α : Type} (m : Re α) (k : α → Sto → Rs) : Rs := match m with
  | some (a, S) => k a S
  | none => none
def tstE (C : Cal) (c : CE) (e : En) (S : Sto) : Re Bool := match evE C c e S with
  | some (x, S1) => (truD x S1).map fun b => (b, S1)
  | none => none
/-- x += v, x -= v: of numbers, of texts -/
def augD (op : Operator) (a b : D) : Option D := match op, a, b with
  | .Add, .int i, .int j => some (.int (i + j))
  | .Add, .str x, .str y => if x.length + y.length ≤ line then some (.str (x ++ y)) else none
  | .Sub, .int i, .int j => some (.int (i - j))
  | _, _, _ => none
/-- o[i] = v -/
def setD (o i v : D) (S : Sto) : Option Sto := match o with
  | .ref n => match S[n]? with
    | some (.lst xs) => match i with
      | .int j => (L2.ixN xs.length j).map fun k => S.set n (.lst (xs.set k v))
      | _ => none
    | some (.dk kvs) => match keyOf i with
      | some k => if kvs.length < line then some (S.set n (.dk (putK k v kvs))) else none
      | none => none
    | _ => none
  | _ => none
/-- o.f = v -/
def satD (o : D) (f : Str) (v : D) (S : Sto) : Option Sto := match o with
  | .ref n => match S[n]? with
    | some (.ins c fs) => if fs.length < 1000 then some (S.set n (.ins c (fldD f v fs))) else none
    | _ => none
  | _ => none
/-- a turn of a for loop -/
def forB (f : En → Sto → Rs) (tg : Tg) (x : D) (e : En) (S : Sto) : Rs := match putT tg x e with
  | some e1 => f e1 S
  | none => none
mutual
def exS (C : Cal) : CS → En → Sto → Rs
  | .set t x, e, S => bnS (evE C x e S) fun d S => (putT t d e).map fun e => (.nx, e, S)
  | .setI o i x, e, S => bnS (evE C x e S) fun d S => bnS (evE C o e S) fun p S => bnS (evE C i e S) fun j S => (setD p j d S).map fun S => (.nx, e, S)
  | .setA o f x, e, S => bnS (evE C x e S) fun d S => bnS (evE C o e S) fun p S => (satD p f d S).map fun S => (.nx, e, S)
  | .aug i op x, e, S => match e[i]? with
    | some (some a) => bnS (evE C x e S) fun d S => match augD op a d with
      | some z => some (.nx, e.set i (some z), S)
      | none => none
    | _ => none
  | .augA o f op x, e, S => bnS (evE C o e S) fun p S => match atrD p f S with
    | some a => bnS (evE C x e S) fun d S => match augD op a d with
      | some z => (satD p f z S).map fun S => (.nx, e, S)
      | none => none
    | none => none
  | .ifS c a b, e, S => bnS (tstE C c e S) fun k S => match k with
    | true => exSs C a e S
    | false => exSs C b e S
  | .whl c b, e, S => whlLoop (tstE C c) (exSs C b) turns e S
  | .for_ tg src it b, e, S => bnS (evEs C it e S) fun as S => match itD src as S with
    | some (xs, st) => match forLoop (forB (exSs C b) tg) xs e (st.foldl froz S) with
      | some (fl, e2, S2) => some (fl, e2, st.foldl (thaw S) S2)
      | none => none
    | none => none
  | .ret x, e, S => bnS (evE C x e S) fun d S => some (.rt d, e, S)
  | .retN, e, S => some (.rt .non, e, S)
  | .exp x, e, S => bnS (evE C x e S) fun _ S => some (.nx, e, S)
  | .pass, e, S => some (.nx, e, S)
  | .brk, e, S => some (.bk, e, S)
  | .cnt, e, S => some (.ct, e, S)
def exSs (C : Cal) : CSs → En → Sto → Rs
  | .nil, e, S => some (.nx, e, S)
  | .cons s r, e, S => match exS C s e S with
    | some (.nx, e1, S1) => exSs C r e1 S1
    | x => x
end
/-- a call's end -/
def endD (r : Rs) : Re D := match r with
  | some (.nx, _, S) => some (.non, S)
  | some (.rt d, _, S) => some (d, S)
  | _ => none
def oneF (C : Cal) (f : Nat) (as : List D) (S : Sto) : Re D := match C.P.fns[f]? with
  | some F => if as.length = F.ps then endD (exSs C F.body (as.map some ++ List.replicate (F.slots - F.ps) none) S) else none
  | none => none
def oneL (C : Cal) (l : Nat) (as cs : List D) (S : Sto) : Re D := match C.P.lms[l]? with
  | some F => if as.length = F.ps then evE C F.body (as.map some ++ (cs.map some ++ List.replicate (F.slots - as.length - cs.length) none)) S else none
  | none => none
/-- what is known at so many levels of calls -/
def calL (P : Prog) : Nat → Cal
  | 0 => ⟨fun _ _ _ => none, fun _ _ _ => none, fun _ _ _ _ => none, P⟩
  | k + 1 => ⟨oneF (calL P k), fun _ _ _ => none, oneL (calL P k), P⟩
/-- the def f by so many levels of calls -/
abbrev runF (P : Prog) (L : Nat) : Nat → List D → Sto → Re D := (calL P L).fn
end PC
end
section
set_option Elab.async false
set_option linter.all false
/-! PC: from the model's syntax to PC's. -/
namespace PC
open PySem

/-- a def as its callers know it: its number, its parameters, the last ones' values where they are left out -/
structure FnI where
  id : Nat
  ps : List Str
  dfl : List (Str × D) := []
  /-- is the last parameter a lambda -/
  lp : Bool := false
/-- what the top's names are -/
structure Gam where
  fns : List (Str × FnI)
  cls : List (Str × Nat)
  con : List (Str × Nat)
  /-- the shapes of calls with names or with parameters left out: the def's number, how many by place, the names -/
  kws : List (Nat × Nat × List Str) := []

def ixOf (N : List Str) (x : Str) : Option Nat := match N with
  | [] => none
  | y :: r => if y = x then some 0 else (ixOf r x).map (· + 1)
def visB (sc : Scope) (x : Str) : Bool := match sc.names.lookup x with
  | some .local => true
  | some .cell => true
  | some .free => true
  | _ => false
def gloB (sc : Scope) (x : Str) : Bool := match sc.names.lookup x with
  | some .globalImplicit => true
  | _ => false
def locB (sc : Scope) (x : Str) : Bool := match sc.names.lookup x with
  | some .local => true
  | some .cell => true
  | _ => false
/-- is it free to be a built-in's name -/
def freeB (Γ : Gam) (x : Str) : Bool := (Γ.fns.lookup x).isNone && (Γ.cls.lookup x).isNone && (Γ.con.lookup x).isNone
/-- the built-in functions by their names -/
def biOf : List (Str × Bi) := [("len", .len), ("tuple", .tuple), ("dict", .dict), ("int", .int), ("str", .str), ("repr", .repr), ("all", .all), ("any", .any), ("sum", .sum), ("max", .max), ("min", .min), ("abs", .abs)]
def tyNm : List (Str × Ty) := [("int", .int), ("str", .str), ("bool", .bool), ("list", .list), ("tuple", .tuple), ("dict", .dict)]
def oMap {α β : Type} (f : α → Option β) : List α → Option (List β)
  | [] => some []
  | x :: xs => match f x, oMap f xs with
    | some y, some ys => some (y :: ys)
    | _, _ => none
def esOf : List CE → CEs
  | [] => .nil
  | e :: r => .cons e (esOf r)
def CEs.len : CEs → Nat
  | .nil => 0
  | .cons _ r => r.len + 1
def apEs : CEs → CEs → CEs
  | .nil, r => r
  | .cons e es, r => .cons e (apEs es r)
/-- a name that is stored to -/
def nmOf (N : List Str) (sc : Scope) (e : Expr) : Option Nat := match e with
  | .Name x _ => if locB sc x then ixOf N x else none
  | _ => none
def tgOf (N : List Str) (sc : Scope) (e : Expr) : Option Tg := match e with
  | .Name x p => (nmOf N sc (.Name x p)).map .name
  | .Tuple es _ _ => (oMap (nmOf N sc) es).map .tup
  | _ => none
def notStar : Expr → Bool
  | .Starred _ _ => false
  | _ => true
/-- with rules of its own where it is stored, walked, asked -/
def isLc : Expr → Bool
  | .ListComp _ _ _ _ => true
  | .SetComp _ _ _ _ => true
  | .DictComp _ _ _ _ _ => true
  | .Set _ _ _ => true
  | _ => false
def isCall : Expr → Bool
  | .Call _ _ _ _ => true
  | _ => false
def isTupX : Expr → Bool
  | .Tuple _ _ _ => true
  | _ => false
def isSlc : Expr → Bool
  | .Slice _ _ _ _ => true
  | _ => false
/-- what a loop walks over, its parts -/
def srcOf (Γ : Gam) (sc : Scope) (e : Expr) : Src × List Expr := match e with
  | .Call (.Name f p) as [] q =>
    if gloB sc f && freeB Γ f && decide (f = "range") && (as.length == 1 || as.length == 2) then (.range, as)
    else if gloB sc f && freeB Γ f && decide (f = "enumerate") && as.length == 1 then (.enum, as)
    else if gloB sc f && freeB Γ f && decide (f = "zip") && as.length == 2 then (.zip, as)
    else (.val, [.Call (.Name f p) as [] q])
  | e => (.val, [e])
def ownOf (N : List Str) (scope : Scope) : List (Str × Nat) := scope.names.filterMap fun (x, k) => if k == .local || k == .cell then (ixOf N x).map fun i => (x, i) else none
/-- enumerate, zip: into a tuple's names alone -/
def srcTg (s : Src) (tg : Expr) : Bool := match s with
  | .enum => isTupX tg
  | .zip => isTupX tg
  | _ => true
def Tg.ixs : Tg → List Nat
  | .name i => [i]
  | .tup ts => ts
  | .star ts r => r :: ts
def tgNms : Expr → List Str
  | .Name x _ => [x]
  | .Tuple es _ _ => es.filterMap fun e => match e with | .Name x _ => some x | _ => none
  | _ => []
/-- a comprehension's own names are its own in its block too -/
def tgRel (scope sc : Scope) (tg : Expr) : Bool := (tgNms tg).all fun x => decide ((L2.relS scope sc).names.lookup x = some .local) || (decide ((L2.relS scope sc).names.lookup x = some .cell) && decide (scope.names.lookup x = some .cell))
/-- where a parameter's value stands: among those by place, by name, left out -/
def argIx (F : FnI) (many : Nat) (ns : List Str) (p : Str × Nat) : Option Nat :=
  if p.2 < many then (if p.1 ∈ ns then none else some p.2) else match ixOf ns p.1 with
    | some j => some (many + j)
    | none => (ixOf (F.dfl.map (·.1)) p.1).map fun j => many + ns.length + j

section
variable (Γ : Gam) (N : List Str) (sc : Scope) (r : Expr → Option CE)
def cEs : List Expr → Option CEs
  | [] => some .nil
  | e :: es => if notStar e then (match r e, cEs es with
    | some a, some b => some (.cons a b)
    | _, _ => none) else none
def cO : Option Expr → Option CO
  | none => some .no
  | some e => (r e).map .so
def cCst : Const → Option CE
  | .none => some .non
  | .bool b => some (.bl b)
  | .int i => some (.int i)
  | .str x => some (.str x)
  | _ => none
def cNm (x : Str) : Option CE := if x = "__debug__" ∨ x = "__classdict__" then none else if visB sc x then (ixOf N x).map .var else if gloB sc x then (Γ.con.lookup x).map .glo else none
def cUn (op : UnaryOp) (a : Expr) : Option CE := match op with
  | .USub => (r a).map .neg
  | .Not => (r a).map .notE
  | _ => none
def cBool (op : BoolOp) (vs : List Expr) (p : Pos) : Option CE := match vs with
  | [] => none
  | [a] => r a
  | a :: b :: rest => match r a, r (.BoolOp op (b :: rest) p) with
    | some x, some y => some (match op with | .And => .andE x y | .Or => .orE x y)
    | _, _ => none
def noIn (op : CmpOp) : Bool := match op with
  | .In => false
  | .NotIn => false
  | _ => true
def cCmp (a : Expr) (ops : List CmpOp) (es : List Expr) : Option CE := match ops, es with
  | [op], [b] => (match r a, r b with
    | some x, some y => if !isLc b || noIn op then some (.cmp op x y) else none
    | _, _ => none)
  | [op, op2], [b, c] => (match r a, r b, r c with
    | some x, some y, some z => if !isLc c || noIn op2 then some (.chain op op2 x y z) else none
    | _, _, _ => none)
  | _, _ => none
def cKey : Option Expr → Option CE
  | some (.Constant (.str x) _ _) => some (.str x)
  | some (.Constant (.int i) _ _) => some (.int i)
  | _ => none
def cDic (ks : List (Option Expr)) (vs : List Expr) : Option CE := match oMap cKey ks, cEs r vs with
  | some ks', some vs' => if ks.length = vs.length ∧ ks.length ≤ 15 then some (.dicE (esOf ks') vs') else none
  | _, _ => none
/-- is it the step -1 -/
def isM1 : Expr → Bool
  | .UnaryOp .USub (.Constant (.int i) _ _) _ => decide (i = 1)
  | _ => false
def cSub (a i : Expr) : Option CE := match i with
  | .Slice lo hi st _ => (match st with
    | none => (match r a, cO r lo, cO r hi with
      | some x, some l, some h => some (.slc x l h)
      | _, _, _ => none)
    | some e => if isM1 e && lo.isNone && hi.isNone then (r a).map .rev else none)
  | i => (match r a, r i with
    | some x, some y => some (.idx x y)
    | _, _ => none)
def cCall (F : FnI) (as : List Expr) (ks : List Keyword) : Option CE := match cEs r as, cEs r (ks.map (·.value)), oMap (·.arg) ks with
  | some as', some ks', some ns => if ks.isEmpty && decide (as.length = F.ps.length) then some (.call F.id as' []) else
    (match oMap (argIx F as.length ns) (F.ps.zipIdx) with
      | some ix => if decide ((F.id, as.length, ns) ∈ Γ.kws) && !ix.isEmpty then some (.call F.id (apEs as' (apEs ks' (esOf (F.dfl.map fun d => litD d.2)))) ix) else none
      | none => none)
  | _, _, _ => none
/-- the last apart -/
def lastOf : List Expr → Option (List Expr × Expr)
  | [] => none
  | [e] => some ([], e)
  | a :: b :: r => (lastOf (b :: r)).map fun q => (a :: q.1, q.2)
/-- a call whose last argument is a slot with a lambda -/
def cCallV (F : FnI) (as : List Expr) : Option CE := match lastOf as with
  | some (bs, .Name x _) => if x = "__debug__" ∨ x = "__classdict__" then none else if visB sc x && decide (as.length = F.ps.length) then (match cEs r bs, ixOf N x with
    | some cs, some j => some (.callV F.id cs j)
    | _, _ => none) else none
  | _ => none
def cIsi (as : List Expr) : Option CE := match as with
  | [x, .Name y _] => (match r x, (if gloB sc y && freeB Γ y then tyNm.lookup y else none) with
    | some x', some t => if notStar x then some (.isi x' [t]) else none
    | _, _ => none)
  | _ => none
def cCol (as : List Expr) : Option CE := match as with
  | [a] => if notStar a then (match cEs r (srcOf Γ sc a).2 with
    | some es => (match (srcOf Γ sc a).1 with
      | .val => some (.col .val es)
      | .range => some (.col .range es)
      | _ => none)
    | none => none) else none
  | _ => none
def cBi (f : Str) (as : List Expr) : Option CE := match biOf.lookup f, cEs r as with
  | some b, some as' => if as.isEmpty then none else some (.bi b as')
  | _, _ => none
def cFn (f : Str) (as : List Expr) (ks : List Keyword) : Option CE :=
  if f = "__debug__" then none else if visB sc f then (if f = "__classdict__" ∨ as.isEmpty ∨ !ks.isEmpty then none else (match ixOf N f, cEs r as with
    | some j, some cs => some (.app j cs)
    | _, _ => none)) else if gloB sc f then (match Γ.fns.lookup f with
    | some F => if F.lp then (if ks.isEmpty then cCallV N sc r F as else none) else cCall Γ r F as ks
    | none => if freeB Γ f && ks.isEmpty then (if f = "isinstance" then cIsi Γ sc r as else if f = "list" then cCol Γ sc r as else cBi r f as) else none)
  else none
def cMet (o : Expr) (m : Str) (ap cp : Pos) (as : List Expr) (ks : List Keyword) : Option CE :=
  if isCall o || !(ap.endLine == cp.line) || !ks.isEmpty then none else (match as with
    | [] => (r o).map fun o => .meth o m .nil
    | [a] => if notStar a then (match r o, r a with
      | some o, some a => some (.meth o m (.cons a .nil))
      | _, _ => none) else none
    | _ => none)
def cLc (r2 : Expr → Option CE) (elt : Expr) (gs : List Comprehension) (scope : Scope) : Option CE := match gs with
  | [⟨tg, it, ifs, k⟩] => (match tgOf N scope tg, cEs r (srcOf Γ sc it).2, r2 elt, cEs r2 ifs with
    | some t, some as, some elt', some ifs' => if decide (k = 0) && L2.blkC N sc scope (ownOf N scope) && decide (ifs.length ≤ 1) && !isLc it && srcTg (srcOf Γ sc it).1 tg && (t.ixs.all fun i => decide (i ∈ (ownOf N scope).map (·.2))) && tgRel scope sc tg
      then some (.lc elt' t (srcOf Γ sc it).1 as ifs' ((ownOf N scope).map (·.2))) else none
    | _, _, _, _ => none)
  | _ => none
end
/-- one step: r is what is known of the parts -/
def stE (Γ : Gam) (N : List Str) (r : Scope → Expr → Option CE) (sc : Scope) (e : Expr) : Option CE := match e with
  | .Constant c _ _ => cCst c
  | .Name x _ => cNm Γ N sc x
  | .BinOp a op b _ => (match r sc a, r sc b with
    | some x, some y => some (.bin op x y)
    | _, _ => none)
  | .UnaryOp op a _ => cUn (r sc) op a
  | .BoolOp op vs p => cBool (r sc) op vs p
  | .IfExp c a b _ => (match r sc c, r sc a, r sc b with
    | some x, some y, some z => some (.ifE x y z)
    | _, _, _ => none)
  | .Compare a ops es _ => cCmp (r sc) a ops es
  | .Tuple es _ _ => (cEs (r sc) es).map .tupE
  | .List es _ => (cEs (r sc) es).map .lstE
  | .Dict ks vs _ => cDic (r sc) ks vs
  | .Subscript a i _ => cSub (r sc) a i
  | .Call f as ks cp => (match f with
    | .Name f _ => cFn Γ N sc (r sc) f as ks
    | .Attribute o m ap => cMet (r sc) o m ap cp as ks
    | _ => none)
  | .ListComp elt gs scope _ => cLc Γ N sc (r sc) (r (L2.relS scope sc)) elt gs scope
  | _ => none
def cmE (Γ : Gam) (N : List Str) : Nat → Scope → Expr → Option CE
  | 0, _, _ => none
  | n + 1, sc, e => stE Γ N (cmE Γ N n) sc e

/-! ### statements -/
section
variable (Γ : Gam) (N : List Str) (sc : Scope) (r : Expr → Option CE) (rs : Stmt → Option CS)
def cSs : List Stmt → Option CSs
  | [] => some .nil
  | s :: ss => match rs s, cSs ss with
    | some a, some b => some (.cons a b)
    | _, _ => none
/-- x = e -/
def cAsN (x : Str) (px : Pos) (e : Expr) (p : Pos) : Option CS := match nmOf N sc (.Name x px), r e with
  | some i, some e' => (match e with
    | .ListComp _ _ scope lp => if decide (sc.names.lookup x = some .local) && (px.line == lp.line) && !(scope.names.any fun (n, k) => n == x && (k == .local || k == .cell)) then some (.set (.name i) e') else none
    | e => if isLc e then none else some (.set (.name i) e'))
  | _, _ => none
def lcl (e : Expr) : Bool := match e with
  | .Name x _ => decide (sc.names.lookup x = some .local)
  | _ => false
/-- the names among targets -/
def nmsOf (ts : List Expr) : List Str := ts.filterMap fun e => match e with | .Name x _ => some x | _ => none
def lnOf (e : Expr) : Nat := e.pos.line
def cAsT (ts : List Expr) (e : Expr) : Option CS := match oMap (nmOf N sc) ts, r e with
  | some is, some e' => (match e with
    | .Tuple vs _ _ => if (decide (vs.length = 2) || decide (vs.length = 3)) && decide (vs.length = ts.length) && ts.all (lcl sc) && vs.all notStar && (ts.all fun t => lnOf t == (ts.head?.map (·.pos.line)).getD 0) && !vs.all (foldedForSure 8) && !vs.all (constantsAlone 8) && decide is.Nodup && decide ((nmsOf ts).eraseDups.length = ts.length) then some (.set (.tup is) e') else if !ts.all (lcl sc) || !(decide (ts.length = 2) || decide (ts.length = 3)) then some (.set (.tup is) e') else none
    | e => if isLc e then none else some (.set (.tup is) e'))
  | _, _ => none
def cAs (ts : List Expr) (e : Expr) (p : Pos) : Option CS := match ts with
  | [t] => (match t with
    | .Name x px => cAsN N sc r x px e p
    | .Tuple es _ _ => cAsT N sc r es e
    | .Subscript o i _ => if isLc e || isSlc i then none else (match r e, r o, r i with
      | some e', some o', some i' => some (.setI o' i' e')
      | _, _, _ => none)
    | _ => none)
  | _ => none
def cAug (t : Expr) (op : Operator) (e : Expr) : Option CS := match t, op with
  | .Name x p, .Add => (match nmOf N sc (.Name x p), r e with
    | some i, some e' => some (.aug i .Add e')
    | _, _ => none)
  | .Name x p, .Sub => (match nmOf N sc (.Name x p), r e with
    | some i, some e' => some (.aug i .Sub e')
    | _, _ => none)
  | _, _ => none
end
def stS (Γ : Gam) (N : List Str) (sc : Scope) (r : Expr → Option CE) (rs : Stmt → Option CS) (st : Stmt) : Option CS := match st with
  | .Assign ts e p => cAs N sc r ts e p
  | .AugAssign t op e _ => cAug N sc r t op e
  | .If c a b _ => (match r c, cSs rs a, cSs rs b with
    | some c, some a, some b => some (.ifS c a b)
    | _, _, _ => none)
  | .While c b o _ => if o.isEmpty then (match r c, cSs rs b with
    | some c, some b => some (.whl c b)
    | _, _ => none) else none
  | .For tg it b o _ => if o.isEmpty && !isLc it && srcTg (srcOf Γ sc it).1 tg then (match tgOf N sc tg, cEs r (srcOf Γ sc it).2, cSs rs b with
    | some t, some as, some b => some (.for_ t (srcOf Γ sc it).1 as b)
    | _, _, _ => none) else none
  | .Return (some e) _ => (r e).map .ret
  | .Return none _ => some .retN
  | .Expr e _ => if isLc e then none else (r e).map .exp
  | .Pass _ => some .pass
  | .Break _ => some .brk
  | .Continue _ => some .cnt
  | _ => none
def cmS (Γ : Gam) (N : List Str) (m : Nat) (sc : Scope) : Nat → Stmt → Option CS
  | 0, _ => none
  | n + 1, st => stS Γ N sc (cmE Γ N m sc) (cmS Γ N m sc n) st
/-- a body: expressions m deep, statements n deep -/
def cmSs (Γ : Gam) (N : List Str) (m n : Nat) (sc : Scope) (b : List Stmt) : Option CSs := cSs (cmS Γ N m sc n) b
end PC
end
section
set_option Elab.async false
set_option linter.all false
set_option maxRecDepth 100000
/-! PC: how PC's values and stores stand for the abstract heap's. -/
namespace PC
open PySem L2

/-- a lambda of the text -/
structure LmI where
  params : Arguments
  body : Expr
  scope : Scope
  qual : Str
  ps : List Str
  fr : List Str
  N : List Str
/-- where the program's own things stand -/
structure Wd where
  K : PySem.W.Frag
  fa : Nat → Addr
  ca : Nat → Addr
  /-- the tables of code objects that lambdas go to -/
  T : List (Addr × Str)
  lm : Nat → Option LmI

section
variable (W : Wd) (ι : List Addr) (H : Hp)
mutual
def DV : D → V → Prop
  | .non, v => v = .non
  | .bl b, v => v = .bl b
  | .int i, v => v = .int i
  | .str x, v => v = .str x
  | .tup xs, v => ∃ a vs, v = .ref a ∧ SqT W.K H a vs ∧ DVs xs vs
  | .frl xs, v => ∃ a vs, v = .ref a ∧ ((∃ o, H a = some (.frz o (.lst vs))) ∨ (∃ (o : Obj) (its : Array Value) (n : Nat), W.K.lookup a = some o ∧ o.cls = .type "list" ∧ o.dict = none ∧ o.data = .seq its n ∧ its.size ≤ sizeLine ∧ Vals vs its.toList)) ∧ DVs xs vs
  | .ref n, v => ∃ a, v = .ref a ∧ ι[n]? = some a
  | .fn n, v => v = .ref (W.fa n)
  | .lam _ _, _ => False
def DVs : List D → List V → Prop
  | [], vs => vs = []
  | d :: ds, vs => ∃ v r, vs = v :: r ∧ DV d v ∧ DVs ds r
end
end
def KVr (W : Wd) (ι : List Addr) (H : Hp) {κ : Type} (a : List (κ × D)) (b : List (κ × V)) : Prop := Paired (fun (p : κ × D) (q : κ × V) => p.1 = q.1 ∧ DV W ι H p.2 q.2) a b
/-- the object of a store's number, at its address -/
def OV (W : Wd) (ι : List Addr) (H : Hp) (a : Addr) : Ob → Prop
  | .lst ds => ∃ vs, H a = some (.lst vs) ∧ DVs W ι H ds vs
  | .fro ds => ∃ vs, H a = some (.lst vs) ∧ DVs W ι H ds vs
  | .dk kvs => ∃ vs, H a = some (.dK vs) ∧ KVr W ι H kvs vs
  | .dt kvs => ∃ vs, H a = some (.dT vs) ∧ KVr W ι H kvs vs
  | .ins c fs => ∃ dx gs, H a = some (.ins (W.ca c) dx gs) ∧ KVr W ι H fs gs
structure Rep (W : Wd) (ι : List Addr) (S : Sto) (H : Hp) : Prop where
  len : ι.length = S.length
  nd : ι.Nodup
  ob : ∀ (n : Nat) a o, ι[n]? = some a → S[n]? = some o → OV W ι H a o
  tab : LamX.Tabs W.T H
/-- it stands still -/
def Fz : Option Ob → Prop
  | some (.fro _) => True
  | _ => False
structure Ext (ι : List Addr) (S : Sto) (H : Hp) (ι' : List Addr) (S' : Sto) (H' : Hp) : Prop where
  pre : ∃ new, ι' = ι ++ new ∧ ∀ a ∈ new, ∀ o, H a = some o → ∃ ps, o = .tbl ps
  keep : ∀ a o, H a = some o → (∀ ps, o ≠ .tbl ps) → (a ∈ ι → ∃ n : Nat, ι[n]? = some a ∧ Fz S[n]?) → H' a = some o
  fr : ∀ n : Nat, Fz S[n]? → S'[n]? = S[n]?

section
variable {W : Wd} {ι ι' ι2 : List Addr} {S S' S2 : Sto} {H H' H2 : Hp}
theorem Ext.refl : Ext ι S H ι S H := ⟨⟨[], by simp, by simp⟩, fun _ _ h _ _ => h, fun _ _ => rfl⟩
theorem Ext.get (E : Ext ι S H ι' S' H') {n : Nat} {a : Addr} (h : ι[n]? = some a) : ι'[n]? = some a := by
  obtain ⟨new, rfl, _⟩ := E.pre
  rw [List.getElem?_append_left (List.getElem?_eq_some_iff.mp h).1]
  exact h
theorem Ext.back (E : Ext ι S H ι' S' H') {a : Addr} {o : HO} (ho : H a = some o) (nt : ∀ ps, o ≠ .tbl ps) (h : a ∈ ι') : a ∈ ι := by
  obtain ⟨new, rfl, hn⟩ := E.pre
  rcases List.mem_append.mp h with h | h
  · exact h
  · obtain ⟨ps, z⟩ := hn a h o ho
    exact absurd z (nt ps)
/-- what may stand at an address of a store's number -/
def Own : HO → Prop
  | .lst _ => True
  | .dK _ => True
  | .dT _ => True
  | .ins _ _ _ => True
  | _ => False
theorem OV.held {a : Addr} {o : Ob} (h : OV W ι H a o) : ∃ u, H a = some u ∧ Own u := by
  cases o with
  | lst ds => obtain ⟨vs, e, _⟩ := h; exact ⟨_, e, trivial⟩
  | fro ds => obtain ⟨vs, e, _⟩ := h; exact ⟨_, e, trivial⟩
  | dk kvs => obtain ⟨vs, e, _⟩ := h; exact ⟨_, e, trivial⟩
  | dt kvs => obtain ⟨vs, e, _⟩ := h; exact ⟨_, e, trivial⟩
  | ins c fs => obtain ⟨dx, vs, e, _⟩ := h; exact ⟨_, e, trivial⟩
theorem Rep.at (R : Rep W ι S H) {n : Nat} {a : Addr} (h : ι[n]? = some a) : ∃ o, S[n]? = some o ∧ OV W ι H a o := by
  have hl : n < S.length := by
    rw [← R.len]
    exact (List.getElem?_eq_some_iff.mp h).1
  exact ⟨S[n], List.getElem?_eq_getElem hl, R.ob n a _ h (List.getElem?_eq_getElem hl)⟩
theorem Rep.mem (R : Rep W ι S H) {a : Addr} (h : a ∈ ι) : ∃ u, H a = some u ∧ Own u := by
  obtain ⟨n, hn⟩ := List.mem_iff_getElem?.mp h
  obtain ⟨o, _, q⟩ := R.at hn
  exact OV.held q
theorem Rep.addr (R : Rep W ι S H) {n : Nat} {o : Ob} (h : S[n]? = some o) : ∃ a, ι[n]? = some a ∧ OV W ι H a o := by
  have hl : n < ι.length := by
    rw [R.len]
    exact (List.getElem?_eq_some_iff.mp h).1
  exact ⟨ι[n], List.getElem?_eq_getElem hl, R.ob n _ o (List.getElem?_eq_getElem hl) h⟩
theorem Rep.fresh (R : Rep W ι S H) {p : Addr} (h : H p = none) : p ∉ ι := fun hm => by
  obtain ⟨u, e, _⟩ := R.mem hm
  rw [h] at e
  cases e
theorem Ext.trans (E : Ext ι S H ι' S' H') (R : Rep W ι' S' H') (F : Ext ι' S' H' ι2 S2 H2) : Ext ι S H ι2 S2 H2 := by
  refine ⟨?_, fun a o h nt k => ?_, fun n h => ?_⟩
  · obtain ⟨n1, e1, h1⟩ := id E.pre
    obtain ⟨n2, e2, h2⟩ := id F.pre
    refine ⟨n1 ++ n2, by rw [e2, e1, List.append_assoc], fun a ha o q => ?_⟩
    rcases List.mem_append.mp ha with ha | ha
    · exact h1 a ha o q
    · by_cases nt : ∃ ps, o = .tbl ps
      · exact nt
      · have nt' : ∀ ps, o ≠ .tbl ps := fun ps z => nt ⟨ps, z⟩
        have hni : a ∉ ι := fun z => by
          have hm : a ∈ ι' := by rw [e1]; exact List.mem_append_left _ z
          obtain ⟨u, e, own⟩ := R.mem hm
          obtain ⟨ps, rfl⟩ := h2 a ha u e
          exact own
        exact h2 a ha o (E.keep a o q nt' fun z => absurd z hni)
  · refine F.keep a o (E.keep a o h nt k) nt fun hm => ?_
    obtain ⟨n, hn, hf⟩ := k (E.back h nt hm)
    exact ⟨n, E.get hn, by rw [E.fr n hf]; exact hf⟩
  · have e := E.fr n h
    rw [← e]
    exact F.fr n (by rw [e]; exact h)
/-- what is tracked and no store's object stays -/
theorem Ext.tup (E : Ext ι S H ι' S' H') (R : Rep W ι S H) {K : PySem.W.Frag} {a : Addr} {vs : List V} (h : SqT K H a vs) : SqT K H' a vs := by
  rcases h with (h | ⟨o, h⟩) | h
  · exact .inl (.inl (E.keep a _ h (fun ps z => nomatch z) fun z => by
      obtain ⟨u, e, q⟩ := R.mem z
      rw [h] at e
      cases e
      exact q.elim))
  · exact .inl (.inr ⟨o, E.keep a _ h (fun ps z => nomatch z) fun z => by
      obtain ⟨u, e, q⟩ := R.mem z
      rw [h] at e
      cases e
      exact q.elim⟩)
  · exact .inr h
mutual
theorem DV.mono (E : Ext ι S H ι' S' H') (R : Rep W ι S H) : ∀ (d : D) (v : V), DV W ι H d v → DV W ι' H' d v
  | .non, _, h => h
  | .bl _, _, h => h
  | .int _, _, h => h
  | .str _, _, h => h
  | .fn _, _, h => h
  | .lam _ _, _, h => h
  | .ref _, _, ⟨a, e, h⟩ => ⟨a, e, E.get h⟩
  | .tup xs, _, ⟨a, vs, e, h, q⟩ => ⟨a, vs, e, E.tup R h, DVs.mono E R xs vs q⟩
  | .frl xs, _, ⟨a, vs, e, h, q⟩ => ⟨a, vs, e, by
      rcases h with ⟨o, h⟩ | h
      · exact .inl ⟨o, E.keep a _ h (fun ps z => nomatch z) fun z => by
          obtain ⟨u, e, q⟩ := R.mem z
          rw [h] at e
          cases e
          exact q.elim⟩
      · exact .inr h, DVs.mono E R xs vs q⟩
theorem DVs.mono (E : Ext ι S H ι' S' H') (R : Rep W ι S H) : ∀ (ds : List D) (vs : List V), DVs W ι H ds vs → DVs W ι' H' ds vs
  | [], _, h => h
  | d :: ds, _, ⟨v, r, e, h, q⟩ => ⟨v, r, e, DV.mono E R d v h, DVs.mono E R ds r q⟩
end
theorem Paired.imp {α β : Type} {F G : α → β → Prop} (f : ∀ a b, F a b → G a b) : ∀ {l : List α} {m : List β}, Paired F l m → Paired G l m
  | _, _, .nil => .nil
  | _, _, .cons h t => .cons (f _ _ h) (Paired.imp f t)
theorem KVr.mono (E : Ext ι S H ι' S' H') (R : Rep W ι S H) {κ : Type} {a : List (κ × D)} {b : List (κ × V)} (h : KVr W ι H a b) : KVr W ι' H' a b :=
  Paired.imp (fun p q z => ⟨z.1, DV.mono E R _ _ z.2⟩) h
theorem OV.mono (E : Ext ι S H ι' S' H') (R : Rep W ι S H) {a : Addr} {o : Ob} (h : OV W ι H a o) (e : H' a = H a) : OV W ι' H' a o := by
  cases o with
  | lst ds => obtain ⟨vs, q, r⟩ := h; exact ⟨vs, e.trans q, DVs.mono E R _ _ r⟩
  | fro ds => obtain ⟨vs, q, r⟩ := h; exact ⟨vs, e.trans q, DVs.mono E R _ _ r⟩
  | dk kvs => obtain ⟨vs, q, r⟩ := h; exact ⟨vs, e.trans q, KVr.mono E R r⟩
  | dt kvs => obtain ⟨vs, q, r⟩ := h; exact ⟨vs, e.trans q, KVr.mono E R r⟩
  | ins c fs => obtain ⟨dx, gs, q, r⟩ := h; exact ⟨dx, gs, e.trans q, KVr.mono E R r⟩
theorem Tabs.own {T : List (Addr × Str)} (h : LamX.Tabs T H) (k : ∀ b o, H b = some o → ¬ Own o → H' b = some o) : LamX.Tabs T H' := fun p hp => by
  obtain ⟨ps, h1, h2, h3⟩ := h p hp
  refine ⟨ps, k _ _ h1 id, h2, fun pos cv hc => ?_⟩
  obtain ⟨c, e1, e2⟩ := h3 pos cv hc
  exact ⟨c, e1, k _ _ e2 id⟩
/-- a new tracked thing that is no store's -/
theorem Rep.put (R : Rep W ι S H) {p : Addr} (hp : H p = none) (u : HO) : Rep W ι S (upd H p u) ∧ Ext ι S H ι S (upd H p u) := by
  have hf := R.fresh hp
  have E : Ext ι S H ι S (upd H p u) := ⟨⟨[], by simp, by simp⟩, fun a o h _ _ => by rw [upd_ne (ne_of_none h hp)]; exact h, fun _ _ => rfl⟩
  refine ⟨⟨R.len, R.nd, fun n a o h1 h2 => OV.mono E R (R.ob n a o h1 h2) (upd_ne ?_), Tabs.own R.tab fun b o h _ => by rw [upd_ne (ne_of_none h hp)]; exact h⟩, E⟩
  rintro rfl
  exact hf (List.mem_iff_getElem?.mpr ⟨n, h1⟩)
/-- a new object of the store -/
theorem Rep.alloc (R : Rep W ι S H) {p : Addr} (hp : H p = none) {u : HO} {o : Ob} (h : OV W (ι ++ [p]) (upd H p u) p o) :
    Rep W (ι ++ [p]) (S ++ [o]) (upd H p u) ∧ Ext ι S H (ι ++ [p]) (S ++ [o]) (upd H p u) := by
  have hf := R.fresh hp
  have E : Ext ι S H (ι ++ [p]) (S ++ [o]) (upd H p u) := by
    refine ⟨⟨[p], rfl, fun a ha o ho => ?_⟩, fun a o h _ _ => by rw [upd_ne (ne_of_none h hp)]; exact h, fun n h => ?_⟩
    · have e : a = p := by simpa using ha
      rw [e, hp] at ho
      cases ho
    · by_cases hn : n < S.length
      · rw [List.getElem?_append_left hn]
      · rw [List.getElem?_eq_none (by omega)] at h
        exact h.elim
  refine ⟨⟨by simp [R.len], ?_, fun n a o' h1 h2 => ?_, Tabs.own R.tab fun b o h _ => by rw [upd_ne (ne_of_none h hp)]; exact h⟩, E⟩
  · rw [List.nodup_append]
    refine ⟨R.nd, by simp, fun a ha b hb => ?_⟩
    have e : b = p := by simpa using hb
    rw [e]
    rintro rfl
    exact hf ha
  · by_cases hn : n < ι.length
    · rw [List.getElem?_append_left hn] at h1
      rw [List.getElem?_append_left (by rw [← R.len]; exact hn)] at h2
      refine OV.mono E R (R.ob n a o' h1 h2) (upd_ne ?_)
      rintro rfl
      exact hf (List.mem_iff_getElem?.mpr ⟨n, h1⟩)
    · have e : n = ι.length := by
        have := (List.getElem?_eq_some_iff.mp h1).1
        simp at this
        omega
      subst e
      rw [List.getElem?_append_right (Nat.le_refl _)] at h1
      rw [R.len, List.getElem?_append_right (Nat.le_refl _)] at h2
      simp at h1 h2
      subst h1 h2
      exact h
/-- an object of the store changed -/
theorem Rep.write (R : Rep W ι S H) {n : Nat} {a : Addr} {o : Ob} {u : HO} (hn : ι[n]? = some a) (hz : ¬ Fz S[n]?) (h : OV W ι (upd H a u) a o) :
    Rep W ι (S.set n o) (upd H a u) ∧ Ext ι S H ι (S.set n o) (upd H a u) := by
  have uniq : ∀ m : Nat, ι[m]? = some a → m = n := fun m hm => by
    obtain ⟨h1, e1⟩ := List.getElem?_eq_some_iff.mp hm
    obtain ⟨h2, e2⟩ := List.getElem?_eq_some_iff.mp hn
    exact (List.getElem_inj R.nd).mp (e1.trans e2.symm)
  have hl : n < S.length := by
    rw [← R.len]
    exact (List.getElem?_eq_some_iff.mp hn).1
  have E : Ext ι S H ι (S.set n o) (upd H a u) := by
    refine ⟨⟨[], by simp, by simp⟩, fun b o h _ k => ?_, fun m h => ?_⟩
    · rw [upd_ne ?_]
      · exact h
      · rintro rfl
        obtain ⟨m, h1, h2⟩ := k (List.mem_iff_getElem?.mpr ⟨n, hn⟩)
        rw [uniq m h1] at h2
        exact hz h2
    · rw [List.getElem?_set_ne]
      rintro rfl
      exact hz h
  refine ⟨⟨by simp [R.len], R.nd, fun m b o' h1 h2 => ?_, Tabs.own R.tab fun b o hbo no => by
    rw [upd_ne ?_]
    · exact hbo
    · rintro rfl
      obtain ⟨u, e, q⟩ := R.mem (List.mem_iff_getElem?.mpr ⟨n, hn⟩)
      rw [hbo] at e
      cases e
      exact no q⟩, E⟩
  by_cases hm : m = n
  · subst hm
    rw [hn] at h1
    cases h1
    rw [List.getElem?_set_self hl] at h2
    cases h2
    exact h
  · rw [List.getElem?_set_ne (Ne.symm hm)] at h2
    refine OV.mono E R (R.ob m b o' h1 h2) (upd_ne ?_)
    rintro rfl
    exact hm (uniq m h1)
theorem DVs.length : ∀ {ds : List D} {vs : List V}, DVs W ι H ds vs → ds.length = vs.length
  | [], _, h => by rw [show _ = [] from h]; rfl
  | d :: ds, _, ⟨v, r, e, _, q⟩ => by rw [e, List.length_cons, List.length_cons, DVs.length q]
theorem DVs.get : ∀ {ds : List D} {vs : List V} {i : Nat} {d : D}, DVs W ι H ds vs → ds[i]? = some d → ∃ v, vs[i]? = some v ∧ DV W ι H d v
  | [], _, _, _, _, h => by simp at h
  | d :: ds, _, 0, x, ⟨v, r, e, h, q⟩, hx => by
    subst e
    simp at hx
    subst hx
    exact ⟨v, rfl, h⟩
  | d :: ds, _, i + 1, x, ⟨v, r, e, h, q⟩, hx => by
    subst e
    obtain ⟨y, h1, h2⟩ := DVs.get q (show ds[i]? = some x by simpa using hx)
    exact ⟨y, by simpa using h1, h2⟩
theorem DVs.append : ∀ {ds es : List D} {vs ws : List V}, DVs W ι H ds vs → DVs W ι H es ws → DVs W ι H (ds ++ es) (vs ++ ws)
  | [], _, _, _, h, k => by rw [show _ = [] from h]; exact k
  | d :: ds, _, _, _, ⟨v, r, e, h, q⟩, k => by
    subst e
    exact ⟨v, r ++ _, rfl, h, DVs.append q k⟩
theorem DVs.set {x : D} {y : V} (hx : DV W ι H x y) : ∀ {ds : List D} {vs : List V} (i : Nat), DVs W ι H ds vs → DVs W ι H (ds.set i x) (vs.set i y)
  | [], _, _, h => by rw [show _ = [] from h]; rfl
  | d :: ds, _, 0, ⟨v, r, e, h, q⟩ => by
    subst e
    exact ⟨y, r, rfl, hx, q⟩
  | d :: ds, _, i + 1, ⟨v, r, e, h, q⟩ => by
    subst e
    exact ⟨v, _, rfl, h, DVs.set hx i q⟩
theorem DVs.take : ∀ {ds : List D} {vs : List V} (n : Nat), DVs W ι H ds vs → DVs W ι H (ds.take n) (vs.take n)
  | _, _, 0, _ => by simp [DVs]
  | [], _, n + 1, h => by rw [show _ = [] from h]; simp [DVs]
  | d :: ds, _, n + 1, ⟨v, r, e, h, q⟩ => by
    subst e
    exact ⟨v, _, rfl, h, DVs.take n q⟩
theorem DVs.drop : ∀ {ds : List D} {vs : List V} (n : Nat), DVs W ι H ds vs → DVs W ι H (ds.drop n) (vs.drop n)
  | _, _, 0, h => h
  | [], _, n + 1, h => by rw [show _ = [] from h]; simp [DVs]
  | d :: ds, _, n + 1, ⟨v, r, e, h, q⟩ => by
    subst e
    exact DVs.drop n q
theorem DVs.eraseIdx : ∀ {ds : List D} {vs : List V} (n : Nat), DVs W ι H ds vs → DVs W ι H (ds.eraseIdx n) (vs.eraseIdx n)
  | [], _, _, h => by rw [show _ = [] from h]; simp [DVs]
  | d :: ds, _, 0, ⟨v, r, e, h, q⟩ => by
    subst e
    exact q
  | d :: ds, _, n + 1, ⟨v, r, e, h, q⟩ => by
    subst e
    exact ⟨v, _, rfl, h, DVs.eraseIdx n q⟩
theorem DVs.rev : ∀ {ds : List D} {vs : List V}, DVs W ι H ds vs → DVs W ι H ds.reverse vs.reverse
  | [], _, h => by rw [show _ = [] from h]; simp [DVs]
  | d :: ds, _, ⟨v, r, e, h, q⟩ => by
    subst e
    rw [List.reverse_cons, List.reverse_cons]
    exact DVs.append (DVs.rev q) ⟨v, [], rfl, h, rfl⟩
theorem DVs.flat {ds : List D} {vs : List V} (h : DVs W ι H ds vs) : ∀ k : Nat, DVs W ι H (List.replicate k ds).flatten (List.replicate k vs).flatten
  | 0 => by simp [DVs]
  | k + 1 => by
    rw [List.replicate_succ, List.replicate_succ, List.flatten_cons, List.flatten_cons]
    exact DVs.append h (DVs.flat h k)
end
end PC
end
section
set_option Elab.async false
set_option linter.all false
set_option maxRecDepth 100000
set_option maxHeartbeats 1000000
/-! PC: == of data, whatever signs its texts have. -/
namespace PC
open PySem L2 SeqAt

mutual
theorem eqv_same : ∀ p : PyData, noD p = true → PyData.eqv p p = true
  | .none, _ => rfl
  | .bool b, _ => by simp [PyData.eqv]
  | .int b, _ => by simp [PyData.eqv]
  | .str b, _ => by simp [PyData.eqv]
  | .list xs, h => (show PyData.eqvAll xs xs = true from eqvs_same xs h)
  | .tuple xs, h => (show PyData.eqvAll xs xs = true from eqvs_same xs h)
  | .dict _, h => nomatch h
theorem eqvs_same : ∀ ps : List PyData, noDs ps = true → PyData.eqvAll ps ps = true
  | [], _ => rfl
  | p :: r, h => by
    obtain ⟨h1, h2⟩ := Bool.and_eq_true_iff.mp (show (noD p && noDs r) = true from h)
    show (PyData.eqv p p && PyData.eqvAll r r) = true
    rw [eqv_same p h1, eqvs_same r h2]
    rfl
end
mutual
theorem reads_one {h : Heap} : ∀ (p q : PyData) (a : Value) (as bs : List Addr), noD p = true → Reads h a p as → Reads h a q bs → p = q
  | .none, _, _, _, _, _, r, r' => by cases r; cases r'; rfl
  | .bool _, _, _, _, _, _, r, r' => by cases r; cases r'; rfl
  | .int _, _, _, _, _, _, r, r' => by cases r; cases r'; rfl
  | .str _, _, _, _, _, _, r, r' => by cases r; cases r'; rfl
  | .list xs, _, _, _, _, n, r, r' => by
    cases r with
    | list h1 h2 h3 h4 =>
      cases r' with
      | list k1 k2 k3 k4 =>
        rw [h1] at k1; cases k1
        rw [h3] at k3; cases k3
        exact congrArg PyData.list (reads_ones xs _ _ _ _ n h4 k4)
      | tuple k1 k2 k3 k4 =>
        rw [h1] at k1; cases k1
        rw [h2] at k2; exact absurd k2 (by decide)
      | dict k1 k2 k3 k4 k5 =>
        rw [h1] at k1; cases k1
        rw [h2] at k2; exact absurd k2 (by decide)
  | .tuple xs, _, _, _, _, n, r, r' => by
    cases r with
    | tuple h1 h2 h3 h4 =>
      cases r' with
      | tuple k1 k2 k3 k4 =>
        rw [h1] at k1; cases k1
        rw [h3] at k3; cases k3
        exact congrArg PyData.tuple (reads_ones xs _ _ _ _ n h4 k4)
      | list k1 k2 k3 k4 =>
        rw [h1] at k1; cases k1
        rw [h2] at k2; exact absurd k2 (by decide)
      | dict k1 k2 k3 k4 k5 =>
        rw [h1] at k1; cases k1
        rw [h2] at k2; exact absurd k2 (by decide)
  | .dict _, _, _, _, _, n, _, _ => nomatch n
theorem reads_ones {h : Heap} : ∀ (ps qs : List PyData) (us : List Value) (as bs : List Addr), noDs ps = true → ReadsAll h us ps as → ReadsAll h us qs bs → ps = qs
  | [], _, _, _, _, _, r, r' => by cases r; cases r'; rfl
  | p :: r0, _, _, _, _, n, r, r' => by
    obtain ⟨h1, h2⟩ := Bool.and_eq_true_iff.mp (show (noD p && noDs r0) = true from n)
    cases r with
    | cons a b =>
      cases r' with
      | cons c d => rw [reads_one p _ _ _ _ h1 a c, reads_ones r0 _ _ _ _ h2 b d]
end
theorem alls_len {h : Heap} : ∀ (ps : List PyData) (us : List Value) (as : List Addr), ReadsAll h us ps as → us.length = ps.length
  | [], _, _, r => by cases r; rfl
  | p :: r0, _, _, r => by
    cases r with
    | cons a b => rw [List.length_cons, List.length_cons, alls_len r0 _ _ b]
mutual
theorem eqR : ∀ (p q : PyData) (A : Around) (s : Shared) (a b : Value) (as bs : List Addr), Reads s.heap a p as → Reads s.heap b q bs → noD p = true → noD q = true →
    A.units + p.depth < cLine → EqAt A s a b (p.eqv q)
  | .none, q, A, s, a, b, as, bs, ra, rb, n, n', hu => by
    have hu0 : A.units < cLine := by omega
    cases ra
    cases rb with
    | none => exact EqAt.same _
    | bool y => exact EqAt.none_bool y
    | int y u => exact EqAt.none_int y u
    | str y u => exact EqAt.none_str y u
    | list k1 k2 k3 _ => exact EqAt.none_list ⟨_, k1, k2, _, k3⟩ hu0
    | tuple k1 k2 k3 _ => exact EqAt.none_tuple ⟨_, k1, k2, _, k3⟩ hu0
    | dict => exact nomatch n'
  | .bool x, q, A, s, a, b, as, bs, ra, rb, n, n', hu => by
    have hu0 : A.units < cLine := by omega
    cases ra
    cases rb with
    | none => exact EqAt.bool_none x
    | bool y => exact EqAt.bool_bool x y
    | int y u => exact EqAt.bool_int x y u
    | str y u => exact EqAt.bool_str x y u
    | list k1 k2 k3 _ => exact EqAt.bool_list x ⟨_, k1, k2, _, k3⟩ hu0
    | tuple k1 k2 k3 _ => exact EqAt.bool_tuple x ⟨_, k1, k2, _, k3⟩ hu0
    | dict => exact nomatch n'
  | .int x, q, A, s, a, b, as, bs, ra, rb, n, n', hu => by
    have hu0 : A.units < cLine := by omega
    cases ra with
    | int _ t =>
    cases rb with
    | none => exact EqAt.int_none x t
    | bool y => exact EqAt.int_bool x t y
    | int y u => exact EqAt.int_int x t y u
    | str y u => exact EqAt.int_str x t y u
    | list k1 k2 k3 _ => exact EqAt.int_list x t ⟨_, k1, k2, _, k3⟩ hu0
    | tuple k1 k2 k3 _ => exact EqAt.int_tuple x t ⟨_, k1, k2, _, k3⟩ hu0
    | dict => exact nomatch n'
  | .str x, q, A, s, a, b, as, bs, ra, rb, n, n', hu => by
    have hu0 : A.units < cLine := by omega
    cases ra with
    | str _ t =>
    cases rb with
    | none => exact EqAt.str_none x t
    | bool y => exact EqAt.str_bool x t y
    | int y u => exact EqAt.str_int x t y u
    | str y u => exact EqAt.str_str x t y u
    | list k1 k2 k3 _ => exact EqAt.str_list x t ⟨_, k1, k2, _, k3⟩ hu0
    | tuple k1 k2 k3 _ => exact EqAt.str_tuple x t ⟨_, k1, k2, _, k3⟩ hu0
    | dict => exact nomatch n'
  | .list xs, q, A, s, a, b, as, bs, ra, rb, n, n', hu => by
    have hd : (PyData.list xs).depth = PyData.depthAll xs + 1 := rfl
    have hu0 : A.units < cLine := by omega
    cases ra with
    | @list l o vs m _ as₁ h1 h2 h3 h4 =>
    have hl : s.heap.IsList l vs := ⟨_, h1, h2, _, h3⟩
    cases rb with
    | none => exact EqAt.list_none hl hu0
    | bool y => exact EqAt.list_bool y hl hu0
    | int y u => exact EqAt.list_int y u hl hu0
    | str y u => exact EqAt.list_str y u hl hu0
    | tuple k1 k2 k3 _ => exact EqAt.list_tuple hl ⟨_, k1, k2, _, k3⟩ hu0
    | dict => exact nomatch n'
    | @list l' o' vs' m' ys bs₁ k1 k2 k3 k4 =>
      have hl' : s.heap.IsList l' vs' := ⟨_, k1, k2, _, k3⟩
      have n1 : vs.size = xs.length := by rw [← alls_len _ _ _ h4]; simp
      have n2 : vs'.size = ys.length := by rw [← alls_len _ _ _ k4]; simp
      show EqAt A s (.ref l) (.ref l') (PyData.eqvAll xs ys)
      by_cases hll : l = l'
      · subst hll
        have e := reads_one (.list xs) (.list ys) _ _ _ n (.list h1 h2 h3 h4) (.list k1 k2 k3 k4)
        cases e
        rw [eqvs_same xs n]
        exact EqAt.same _
      · by_cases hz : xs.length = ys.length
        · rw [← eqvAll_same_length hz, ← n1]
          refine EqAt.of_refs hll (RcAt.lists hl hl' (by rw [n1, n2, hz]) hu0 fun j j1 j2 => ?_)
          have z := eqRs xs ys A.in1 s vs.toList vs'.toList _ _ h4 k4 n n' (by show A.units + 1 + _ < _; omega) j (by simpa using j1) (by simpa using j2)
          simpa using z
        · rw [eqvAll_other_length hz]
          exact EqAt.of_refs hll (RcAt.lists_lengths hl hl' (by rw [n1, n2]; simpa using hz) hu0)
  | .tuple xs, q, A, s, a, b, as, bs, ra, rb, n, n', hu => by
    have hd : (PyData.tuple xs).depth = PyData.depthAll xs + 1 := rfl
    have hu0 : A.units < cLine := by omega
    cases ra with
    | @tuple l o vs m _ as₁ h1 h2 h3 h4 =>
    have hl : s.heap.IsTuple l vs := ⟨_, h1, h2, _, h3⟩
    cases rb with
    | none => exact EqAt.tuple_none hl hu0
    | bool y => exact EqAt.tuple_bool y hl hu0
    | int y u => exact EqAt.tuple_int y u hl hu0
    | str y u => exact EqAt.tuple_str y u hl hu0
    | list k1 k2 k3 _ => exact EqAt.tuple_list hl ⟨_, k1, k2, _, k3⟩ hu0
    | dict => exact nomatch n'
    | @tuple l' o' vs' m' ys bs₁ k1 k2 k3 k4 =>
      have hl' : s.heap.IsTuple l' vs' := ⟨_, k1, k2, _, k3⟩
      have n1 : vs.size = xs.length := by rw [← alls_len _ _ _ h4]; simp
      have n2 : vs'.size = ys.length := by rw [← alls_len _ _ _ k4]; simp
      show EqAt A s (.ref l) (.ref l') (PyData.eqvAll xs ys)
      by_cases hll : l = l'
      · subst hll
        have e := reads_one (.tuple xs) (.tuple ys) _ _ _ n (.tuple h1 h2 h3 h4) (.tuple k1 k2 k3 k4)
        cases e
        rw [eqvs_same xs n]
        exact EqAt.same _
      · rw [← eqvAll_eq xs ys, ← n1, ← n2]
        refine EqAt.of_refs hll (RcAt.tuples hl hl' hu0 fun j j1 j2 => ?_)
        have z := eqRs xs ys A.in1 s vs.toList vs'.toList _ _ h4 k4 n n' (by show A.units + 1 + _ < _; omega) j (by simpa using j1) (by simpa using j2)
        simpa using z
  | .dict _, _, _, _, _, _, _, _, _, _, n, _, _ => nomatch n
theorem eqRs : ∀ (ps qs : List PyData) (A : Around) (s : Shared) (us ws : List Value) (as bs : List Addr), ReadsAll s.heap us ps as → ReadsAll s.heap ws qs bs → noDs ps = true → noDs qs = true →
    A.units + PyData.depthAll ps < cLine → ∀ j (h1 : j < us.length) (h2 : j < ws.length), EqAt A s us[j] ws[j] (pairEq ps qs j)
  | [], _, _, _, _, _, _, _, ra, _, _, _, _, j, h1, _ => by cases ra; exact absurd h1 (Nat.not_lt_zero _)
  | _ :: _, [], _, _, _, _, _, _, _, rb, _, _, _, j, _, h2 => by cases rb; exact absurd h2 (Nat.not_lt_zero _)
  | p :: ps, q :: qs, A, s, _, _, _, _, ra, rb, n, n', hu, j, h1, h2 => by
    obtain ⟨a1, a2⟩ := Bool.and_eq_true_iff.mp (show (noD p && noDs ps) = true from n)
    obtain ⟨b1, b2⟩ := Bool.and_eq_true_iff.mp (show (noD q && noDs qs) = true from n')
    have hd : PyData.depthAll (p :: ps) = max p.depth (PyData.depthAll ps) := rfl
    have m1 : p.depth ≤ PyData.depthAll (p :: ps) := by rw [hd]; exact Nat.le_max_left _ _
    have m2 : PyData.depthAll ps ≤ PyData.depthAll (p :: ps) := by rw [hd]; exact Nat.le_max_right _ _
    cases ra with
    | cons r rs =>
      cases rb with
      | cons r' rs' =>
        cases j with
        | zero => exact eqR p q A s _ _ _ _ r r' a1 b1 (by omega)
        | succ j => exact eqRs ps qs A s _ _ _ _ rs rs' a2 b2 (by omega) j (Nat.lt_of_succ_lt_succ h1) (Nat.lt_of_succ_lt_succ h2)
end
/-! printed by genrc.py -/
theorem rcR {A : Around} {s : Shared} {p q : PyData} {a b : Value} {as bs : List Addr} (ra : Reads s.heap a p as) (rb : Reads s.heap b q bs) (n : noD p = true) (n2 : noD q = true)
    (hu : A.units + p.depth < cLine) : RcAt A s a b (p.eqv q) := by
  have hu0 : A.units < cLine := by omega
  cases ra with
  | none =>
    cases rb with
    | none => exact RcAt.none_none
    | bool y => exact RcAt.none_bool  y
    | int y u => exact RcAt.none_int  y u
    | str y u => exact RcAt.none_str  y u
    | list k1 k2 k3 _ => exact RcAt.none_list  ⟨_, k1, k2, _, k3⟩ hu0
    | tuple k1 k2 k3 _ => exact RcAt.none_tuple  ⟨_, k1, k2, _, k3⟩ hu0
    | dict => exact nomatch n2
  | bool x =>
    cases rb with
    | none => exact RcAt.bool_none x 
    | bool y => exact RcAt.bool_bool x y
    | int y u => exact RcAt.bool_int x y u
    | str y u => exact RcAt.bool_str x y u
    | list k1 k2 k3 _ => exact RcAt.bool_list x ⟨_, k1, k2, _, k3⟩ hu0
    | tuple k1 k2 k3 _ => exact RcAt.bool_tuple x ⟨_, k1, k2, _, k3⟩ hu0
    | dict => exact nomatch n2
  | int x t =>
    cases rb with
    | none => exact RcAt.int_none x t 
    | bool y => exact RcAt.int_bool x t y
    | int y u => exact RcAt.int_int x t y u
    | str y u => exact RcAt.int_str x t y u
    | list k1 k2 k3 _ => exact RcAt.int_list x t ⟨_, k1, k2, _, k3⟩ hu0
    | tuple k1 k2 k3 _ => exact RcAt.int_tuple x t ⟨_, k1, k2, _, k3⟩ hu0
    | dict => exact nomatch n2
  | str x t =>
    cases rb with
    | none => exact RcAt.str_none x t 
    | bool y => exact RcAt.str_bool x t y
    | int y u => exact RcAt.str_int x t y u
    | str y u => exact RcAt.str_str x t y u
    | list k1 k2 k3 _ => exact RcAt.str_list x t ⟨_, k1, k2, _, k3⟩ hu0
    | tuple k1 k2 k3 _ => exact RcAt.str_tuple x t ⟨_, k1, k2, _, k3⟩ hu0
    | dict => exact nomatch n2
  | @list l o vs m xs as₁ h1 h2 h3 h4 =>
    have hd : (PyData.list xs).depth = PyData.depthAll xs + 1 := rfl
    have hl : s.heap.IsList l vs := ⟨_, h1, h2, _, h3⟩
    cases rb with
    | none => exact RcAt.list_none  hl hu0
    | bool y => exact RcAt.list_bool y hl hu0
    | int y u => exact RcAt.list_int y u hl hu0
    | str y u => exact RcAt.list_str y u hl hu0
    | tuple k1 k2 k3 _ => exact RcAt.list_tuple hl ⟨_, k1, k2, _, k3⟩ hu0
    | dict => exact nomatch n2
    | @list l2 o2 ws m2 ys bs₁ k1 k2 k3 k4 =>
      have hl2 : s.heap.IsList l2 ws := ⟨_, k1, k2, _, k3⟩
      have n1 : vs.size = xs.length := by rw [← alls_len _ _ _ h4, Array.length_toList]
      have m1 : ws.size = ys.length := by rw [← alls_len _ _ _ k4, Array.length_toList]
      have he : ∀ j (j1 : j < vs.size) (j2 : j < ws.size), EqAt A.in1 s vs[j] ws[j] (pairEq xs ys j) := fun j j1 j2 => by
        have z := eqRs xs ys A.in1 s vs.toList ws.toList _ _ h4 k4 n n2 (by show A.units + 1 + _ < _; omega) j (by simpa using j1) (by simpa using j2)
        simpa using z
      show RcAt A s (.ref l) (.ref l2) (PyData.eqvAll xs ys)
      by_cases hz : xs.length = ys.length
      · rw [← eqvAll_same_length hz, ← n1]
        exact RcAt.lists hl hl2 (by rw [n1, m1, hz]) hu0 he
      · rw [eqvAll_other_length hz]
        exact RcAt.lists_lengths hl hl2 (by rw [n1, m1]; simpa using hz) hu0
  | @tuple l o vs m xs as₁ h1 h2 h3 h4 =>
    have hd : (PyData.tuple xs).depth = PyData.depthAll xs + 1 := rfl
    have hl : s.heap.IsTuple l vs := ⟨_, h1, h2, _, h3⟩
    cases rb with
    | none => exact RcAt.tuple_none  hl hu0
    | bool y => exact RcAt.tuple_bool y hl hu0
    | int y u => exact RcAt.tuple_int y u hl hu0
    | str y u => exact RcAt.tuple_str y u hl hu0
    | list k1 k2 k3 _ => exact RcAt.tuple_list hl ⟨_, k1, k2, _, k3⟩ hu0
    | dict => exact nomatch n2
    | @tuple l2 o2 ws m2 ys bs₁ k1 k2 k3 k4 =>
      have hl2 : s.heap.IsTuple l2 ws := ⟨_, k1, k2, _, k3⟩
      have n1 : vs.size = xs.length := by rw [← alls_len _ _ _ h4, Array.length_toList]
      have m1 : ws.size = ys.length := by rw [← alls_len _ _ _ k4, Array.length_toList]
      have he : ∀ j (j1 : j < vs.size) (j2 : j < ws.size), EqAt A.in1 s vs[j] ws[j] (pairEq xs ys j) := fun j j1 j2 => by
        have z := eqRs xs ys A.in1 s vs.toList ws.toList _ _ h4 k4 n n2 (by show A.units + 1 + _ < _; omega) j (by simpa using j1) (by simpa using j2)
        simpa using z
      show RcAt A s (.ref l) (.ref l2) (PyData.eqvAll xs ys)
      rw [← eqvAll_eq xs ys, ← n1, ← m1]
      exact RcAt.tuples hl hl2 hu0 he
  | dict => exact nomatch n
theorem neR {A : Around} {s : Shared} {p q : PyData} {a b : Value} {as bs : List Addr} (ra : Reads s.heap a p as) (rb : Reads s.heap b q bs) (n : noD p = true) (n2 : noD q = true)
    (hu : A.units + p.depth < cLine) : RcNeAt A s a b (!(p.eqv q)) := by
  have hu0 : A.units < cLine := by omega
  cases ra with
  | none =>
    cases rb with
    | none => exact RcNeAt.none_none
    | bool y => exact RcNeAt.none_bool  y
    | int y u => exact RcNeAt.none_int  y u
    | str y u => exact RcNeAt.none_str  y u
    | list k1 k2 k3 _ => exact RcNeAt.none_list  ⟨_, k1, k2, _, k3⟩ hu0
    | tuple k1 k2 k3 _ => exact RcNeAt.none_tuple  ⟨_, k1, k2, _, k3⟩ hu0
    | dict => exact nomatch n2
  | bool x =>
    cases rb with
    | none => exact RcNeAt.bool_none x 
    | bool y => exact RcNeAt.bool_bool x y
    | int y u => exact RcNeAt.bool_int x y u
    | str y u => exact RcNeAt.bool_str x y u
    | list k1 k2 k3 _ => exact RcNeAt.bool_list x ⟨_, k1, k2, _, k3⟩ hu0
    | tuple k1 k2 k3 _ => exact RcNeAt.bool_tuple x ⟨_, k1, k2, _, k3⟩ hu0
    | dict => exact nomatch n2
  | int x t =>
    cases rb with
    | none => exact RcNeAt.int_none x t 
    | bool y => exact RcNeAt.int_bool x t y
    | int y u => exact RcNeAt.int_int x t y u
    | str y u => exact RcNeAt.int_str x t y u
    | list k1 k2 k3 _ => exact RcNeAt.int_list x t ⟨_, k1, k2, _, k3⟩ hu0
    | tuple k1 k2 k3 _ => exact RcNeAt.int_tuple x t ⟨_, k1, k2, _, k3⟩ hu0
    | dict => exact nomatch n2
  | str x t =>
    cases rb with
    | none => exact RcNeAt.str_none x t 
    | bool y => exact RcNeAt.str_bool x t y
    | int y u => exact RcNeAt.str_int x t y u
    | str y u => exact RcNeAt.str_str x t y u
    | list k1 k2 k3 _ => exact RcNeAt.str_list x t ⟨_, k1, k2, _, k3⟩ hu0
    | tuple k1 k2 k3 _ => exact RcNeAt.str_tuple x t ⟨_, k1, k2, _, k3⟩ hu0
    | dict => exact nomatch n2
  | @list l o vs m xs as₁ h1 h2 h3 h4 =>
    have hd : (PyData.list xs).depth = PyData.depthAll xs + 1 := rfl
    have hl : s.heap.IsList l vs := ⟨_, h1, h2, _, h3⟩
    cases rb with
    | none => exact RcNeAt.list_none  hl hu0
    | bool y => exact RcNeAt.list_bool y hl hu0
    | int y u => exact RcNeAt.list_int y u hl hu0
    | str y u => exact RcNeAt.list_str y u hl hu0
    | tuple k1 k2 k3 _ => exact RcNeAt.list_tuple hl ⟨_, k1, k2, _, k3⟩ hu0
    | dict => exact nomatch n2
    | @list l2 o2 ws m2 ys bs₁ k1 k2 k3 k4 =>
      have hl2 : s.heap.IsList l2 ws := ⟨_, k1, k2, _, k3⟩
      have n1 : vs.size = xs.length := by rw [← alls_len _ _ _ h4, Array.length_toList]
      have m1 : ws.size = ys.length := by rw [← alls_len _ _ _ k4, Array.length_toList]
      have he : ∀ j (j1 : j < vs.size) (j2 : j < ws.size), EqAt A.in1 s vs[j] ws[j] (pairEq xs ys j) := fun j j1 j2 => by
        have z := eqRs xs ys A.in1 s vs.toList ws.toList _ _ h4 k4 n n2 (by show A.units + 1 + _ < _; omega) j (by simpa using j1) (by simpa using j2)
        simpa using z
      show RcNeAt A s (.ref l) (.ref l2) (!(PyData.eqvAll xs ys))
      by_cases hz : xs.length = ys.length
      · rw [← eqvAll_same_length hz, ← n1]
        exact RcNeAt.lists hl hl2 (by rw [n1, m1, hz]) hu0 he
      · rw [eqvAll_other_length hz]
        exact RcNeAt.lists_lengths hl hl2 (by rw [n1, m1]; simpa using hz) hu0
  | @tuple l o vs m xs as₁ h1 h2 h3 h4 =>
    have hd : (PyData.tuple xs).depth = PyData.depthAll xs + 1 := rfl
    have hl : s.heap.IsTuple l vs := ⟨_, h1, h2, _, h3⟩
    cases rb with
    | none => exact RcNeAt.tuple_none  hl hu0
    | bool y => exact RcNeAt.tuple_bool y hl hu0
    | int y u => exact RcNeAt.tuple_int y u hl hu0
    | str y u => exact RcNeAt.tuple_str y u hl hu0
    | list k1 k2 k3 _ => exact RcNeAt.tuple_list hl ⟨_, k1, k2, _, k3⟩ hu0
    | dict => exact nomatch n2
    | @tuple l2 o2 ws m2 ys bs₁ k1 k2 k3 k4 =>
      have hl2 : s.heap.IsTuple l2 ws := ⟨_, k1, k2, _, k3⟩
      have n1 : vs.size = xs.length := by rw [← alls_len _ _ _ h4, Array.length_toList]
      have m1 : ws.size = ys.length := by rw [← alls_len _ _ _ k4, Array.length_toList]
      have he : ∀ j (j1 : j < vs.size) (j2 : j < ws.size), EqAt A.in1 s vs[j] ws[j] (pairEq xs ys j) := fun j j1 j2 => by
        have z := eqRs xs ys A.in1 s vs.toList ws.toList _ _ h4 k4 n n2 (by show A.units + 1 + _ < _; omega) j (by simpa using j1) (by simpa using j2)
        simpa using z
      show RcNeAt A s (.ref l) (.ref l2) (!(PyData.eqvAll xs ys))
      rw [← eqvAll_eq xs ys, ← n1, ← m1]
      exact RcNeAt.tuples hl hl2 hu0 he
  | dict => exact nomatch n
end PC
end
section
set_option Elab.async false
set_option linter.all false
set_option maxRecDepth 100000
set_option maxHeartbeats 1000000
/-! PC: what the words do to values, against the model. -/
namespace PC
open PySem L2

theorem line_eq : line = sizeLine := by rw [sizeLine_eq]; rfl
section
variable {W : Wd} {ι ι' : List Addr} {S S' : Sto} {H H' : Hp} {X : Cx} {pins : List (Addr × Obj)} {σ : St} {s : Shared}
/-- items of a list object -/
theorem OV.items {a : Addr} {ds : List D} (h : OV W ι H a (.lst ds) ∨ OV W ι H a (.fro ds)) : ∃ vs, H a = some (.lst vs) ∧ DVs W ι H ds vs := by
  rcases h with h | h <;> exact h
theorem frl_sq {a : Addr} {vs : List V} (h : (∃ o, H a = some (.frz o (.lst vs))) ∨ (∃ (o : Obj) (its : Array Value) (n : Nat), W.K.lookup a = some o ∧ o.cls = .type "list" ∧ o.dict = none ∧ o.data = .seq its n ∧ its.size ≤ sizeLine ∧ Vals vs its.toList)) : SqL W.K H a vs := by
  rcases h with ⟨o, h⟩ | h
  · exact .inl (.inr ⟨o, h⟩)
  · exact .inr h
theorem lst_sq (R : Rep W ι S H) {d : D} {v : V} {xs : List D} (h : lstD d S = some xs) (hv : DV W ι H d v) : ∃ a vs, v = .ref a ∧ SqL W.K H a vs ∧ DVs W ι H xs vs := by
  cases d with
  | frl ys =>
    obtain ⟨a, vs, e, q, r⟩ := hv
    cases (show ys = xs by simpa [lstD] using h)
    exact ⟨a, vs, e, frl_sq q, r⟩
  | ref n =>
    obtain ⟨a, e, hn⟩ := hv
    simp only [lstD] at h
    split at h
    · cases h
      rename_i ho
      obtain ⟨vs, q, r⟩ := OV.items (.inl (R.ob n a _ hn ho))
      exact ⟨a, vs, e, .of q, r⟩
    · cases h
      rename_i ho
      obtain ⟨vs, q, r⟩ := OV.items (.inr (R.ob n a _ hn ho))
      exact ⟨a, vs, e, .of q, r⟩
    · cases h
  | _ => simp [lstD] at h
theorem optMap_cons {α β : Type} {f : α → Option β} {x : α} {xs : List α} {zs : List β} (h : optMap f (x :: xs) = some zs) : ∃ y ys, zs = y :: ys ∧ f x = some y ∧ optMap f xs = some ys := by
  simp only [optMap] at h
  split at h
  · cases h
    rename_i h1 h2
    exact ⟨_, _, rfl, h1, h2⟩
  · cases h
theorem optMap_len {α β : Type} {f : α → Option β} : ∀ {xs : List α} {zs : List β}, optMap f xs = some zs → zs.length = xs.length
  | [], _, h => by cases h; rfl
  | x :: xs, _, h => by
    obtain ⟨y, ys, rfl, _, h2⟩ := optMap_cons h
    rw [List.length_cons, List.length_cons, optMap_len h2]
theorem reads_list {f : D → Option PyData} (hf : ∀ d v u p, f d = some p → DV W ι H d v → RelV v u → ∃ as, Reads s.heap u p as) : ∀ (ds : List D) (vs : List V) (us : List Value) (ps : List PyData),
    optMap f ds = some ps → DVs W ι H ds vs → Vals vs us → ∃ as, ReadsAll s.heap us ps as
  | [], _, _, _, h, hv, hr => by
    cases h
    cases (show _ = [] from hv)
    cases hr
    exact ⟨_, .nil⟩
  | d :: ds, _, _, _, h, ⟨v, r, e, q, t⟩, hr => by
    subst e
    obtain ⟨y, ys, rfl, h1, h2⟩ := optMap_cons h
    cases hr with
    | cons r1 r2 =>
      obtain ⟨as, z1⟩ := hf d v _ _ h1 q r1
      obtain ⟨bs, z2⟩ := reads_list hf ds r _ _ h2 t r2
      exact ⟨_, .cons z1 z2⟩
theorem key_reads {h : Heap} {k : Ky} {u : Value} (e : keyIs k u = true) : Reads h u (kyP k) [] := by
  rcases keyIs_shape e with ⟨i, t, rfl, rfl⟩ | ⟨x, t, rfl, rfl⟩
  · exact .int i t
  · exact .str x t
theorem keys_reads {h : Heap} : ∀ {es : List DictEntry} {kvs : List (Ky × Value)} {P : Program} {w : World}, Pairs (mixKind P w) es kvs → ReadsAll h (es.map (·.key)) (kvs.map fun kv => kyP kv.1) []
  | _, _, _, _, .nil => .nil
  | _, _, _, _, .cons a _ t => ReadsAll.cons (as := []) (bs := []) (key_reads a) (keys_reads t)
theorem pairs_vals : ∀ {es : List DictEntry} {kvs : List (Ky × Value)} {P : Program} {w : World}, Pairs (mixKind P w) es kvs → es.map (·.val) = kvs.map (·.2)
  | _, _, _, _, .nil => rfl
  | _, _, _, _, .cons _ b t => by rw [List.map_cons, List.map_cons, b, pairs_vals t]
theorem kv_keys {κ : Type} : ∀ {a : List (κ × D)} {b : List (κ × V)}, KVr W ι H a b → a.map (·.1) = b.map (·.1)
  | _, _, .nil => rfl
  | _, _, .cons h t => by rw [List.map_cons, List.map_cons, h.1, kv_keys t]
theorem kv_vals {κ : Type} : ∀ {a : List (κ × D)} {b : List (κ × V)}, KVr W ι H a b → DVs W ι H (a.map (·.2)) (b.map (·.2))
  | _, _, .nil => rfl
  | _, _, .cons h t => ⟨_, _, rfl, h.2, kv_vals t⟩
theorem KV_keys {κ : Type} : ∀ {a : List (κ × V)} {b : List (κ × Value)}, KV a b → a.map (·.1) = b.map (·.1)
  | _, _, .nil => rfl
  | _, _, .cons h t => by rw [List.map_cons, List.map_cons, h.1, KV_keys t]
theorem KV_vals {κ : Type} : ∀ {a : List (κ × V)} {b : List (κ × Value)}, KV a b → Vals (a.map (·.2)) (b.map (·.2))
  | _, _, .nil => .nil
  | _, _, .cons h t => .cons h.2 (KV_vals t)
/-- the data that PC reads is there -/
theorem reads_of (I : Inv X pins σ H s) (hK : X.K = W.K) (R : Rep W ι S H) : ∀ (k : Nat) (d : D) (v : V) (u : Value) (p : PyData), rdP k S d = some p → DV W ι H d v → RelV v u → ∃ as, Reads s.heap u p as
  | 0, _, _, _, _, h, _, _ => by cases h
  | k + 1, d, v, u, p, h, hv, hr => by
    have ih := reads_of I hK R k
    have lists : ∀ (a : Addr) (vs : List V) (xs : List D), SqL W.K H a vs → DVs W ι H xs vs → v = .ref a → (optMap (rdP k S) xs).map PyData.list = some p → ∃ as, Reads s.heap u p as := by
      intro a vs xs hq hx e h
      obtain ⟨ps, h1, rfl⟩ := Option.map_eq_some_iff.mp h
      subst e
      cases hr
      rw [← hK] at hq
      obtain ⟨its, rv, ⟨o, n, ho, hc, _, hd⟩, _⟩ := I.list hq
      obtain ⟨as, z⟩ := reads_list ih xs vs its ps h1 hx rv
      exact ⟨_, Reads.list ho hc hd z⟩
    cases d with
    | non =>
      cases (show v = .non from hv)
      cases hr
      cases h
      exact ⟨_, .none⟩
    | bl b =>
      cases (show v = .bl b from hv)
      cases hr
      cases h
      exact ⟨_, .bool b⟩
    | int i =>
      cases (show v = .int i from hv)
      obtain ⟨t, rfl⟩ := hr
      cases h
      exact ⟨_, .int i t⟩
    | str x =>
      cases (show v = .str x from hv)
      obtain ⟨t, rfl⟩ := hr
      cases h
      exact ⟨_, .str x t⟩
    | tup xs =>
      obtain ⟨a, vs, e, hq, hx⟩ := hv
      obtain ⟨ps, h1, rfl⟩ := Option.map_eq_some_iff.mp (show (optMap (rdP k S) xs).map PyData.tuple = some p from h)
      subst e
      cases hr
      rw [← hK] at hq
      obtain ⟨its, rv, ⟨o, ho, hc, n, hd⟩, _⟩ := I.tuple hq
      obtain ⟨as, z⟩ := reads_list ih xs vs its ps h1 hx rv
      exact ⟨_, Reads.tuple ho hc hd z⟩
    | frl xs =>
      obtain ⟨a, vs, e, hq, hx⟩ := hv
      exact lists a vs xs (frl_sq hq) hx e h
    | ref n =>
      obtain ⟨a, e, hn⟩ := hv
      simp only [rdP] at h
      split at h
      · rename_i xs ho
        obtain ⟨vs, q, r⟩ := OV.items (.inl (R.ob n a _ hn ho))
        exact lists a vs xs (.of q) r e h
      · rename_i xs ho
        obtain ⟨vs, q, r⟩ := OV.items (.inr (R.ob n a _ hn ho))
        exact lists a vs xs (.of q) r e h
      · rename_i kvs ho
        obtain ⟨vs, q, r⟩ := R.ob n a _ hn ho
        obtain ⟨ps, h1, rfl⟩ := Option.map_eq_some_iff.mp h
        subst e
        cases hr
        obtain ⟨_, _, us, rk, o, es, ep, ho, hx, hd, _, hp, _⟩ := I.hok a _ q
        have hk : (kvs.map fun kv => kyP kv.1) = us.map fun kv => kyP kv.1 := by
          have z := (kv_keys r).trans (KV_keys rk)
          calc (kvs.map fun kv => kyP kv.1) = (kvs.map (·.1)).map kyP := by rw [List.map_map]; rfl
            _ = (us.map (·.1)).map kyP := by rw [z]
            _ = _ := by rw [List.map_map]; rfl
        obtain ⟨as, z⟩ := reads_list ih (kvs.map (·.2)) _ _ ps h1 (kv_vals r) (KV_vals rk)
        have hl : ps.length = kvs.length := by
          rw [optMap_len h1, List.length_map]
        refine ⟨_, Reads.dict (as := []) (bs := as) ho hx.1 hd ?_ ?_⟩
        · rw [List.map_fst_zip (by simp [hl]), hk]
          exact keys_reads hp
        · rw [List.map_snd_zip (by simp [hl]), pairs_vals hp]
          exact z
      · cases h
    | fn n => cases h
    | lam _ _ => cases h
end
end PC
end
section
set_option Elab.async false
set_option linter.all false
set_option maxRecDepth 100000
set_option maxHeartbeats 1000000
namespace PC
open PySem L2

/-- what is asked of all that comes of an answer -/
def Gd (W : Wd) (ι : List Addr) (S : Sto) (H : Hp) (S' : Sto) (d : D) (Q : VK) : Prop := ∀ ι' H' v, Ext ι S H ι' S' H' → Rep W ι' S' H' → DV W ι' H' d v → Q v H'
section
variable {W : Wd} {ι ι' : List Addr} {S S' : Sto} {H H' : Hp} {Q : VK}
theorem Gd.here {d : D} (g : Gd W ι S H S d Q) (R : Rep W ι S H) {v : V} (h : DV W ι H d v) : Q v H := g ι H v .refl R h
theorem Ext.alloc (R : Rep W ι S H) {p : Addr} (hp : H p = none) (u : HO) (o : Ob) : Ext ι S H (ι ++ [p]) (S ++ [o]) (upd H p u) := by
  refine ⟨⟨[p], rfl, fun a ha o ho => ?_⟩, fun a o h _ _ => by rw [upd_ne (ne_of_none h hp)]; exact h, fun n h => ?_⟩
  · have e : a = p := by simpa using ha
    rw [e, hp] at ho
    cases ho
  · by_cases hn : n < S.length
    · rw [List.getElem?_append_left hn]
    · rw [List.getElem?_eq_none (by omega)] at h
      exact h.elim
/-- a new list -/
theorem Gd.lst {xs : List D} (g : Gd W ι S H (S ++ [.lst xs]) (.ref S.length) Q) (R : Rep W ι S H) {vs : List V} (h : DVs W ι H xs vs) {p : Addr} (hp : H p = none) : Q (.ref p) (upd H p (.lst vs)) := by
  have E := Ext.alloc R hp (.lst vs) (.lst xs)
  obtain ⟨R', E'⟩ := R.alloc hp (u := .lst vs) (o := .lst xs) ⟨vs, upd_same, DVs.mono E R _ _ h⟩
  refine g _ _ _ E' R' ⟨p, rfl, ?_⟩
  rw [← R.len, List.getElem?_append_right (Nat.le_refl _)]
  simp
/-- a new dict -/
theorem Gd.dk {kvs : List (Ky × D)} (g : Gd W ι S H (S ++ [.dk kvs]) (.ref S.length) Q) (R : Rep W ι S H) {vs : List (Ky × V)} (h : KVr W ι H kvs vs) {p : Addr} (hp : H p = none) : Q (.ref p) (upd H p (.dK vs)) := by
  have E := Ext.alloc R hp (.dK vs) (.dk kvs)
  obtain ⟨R', E'⟩ := R.alloc hp (u := .dK vs) (o := .dk kvs) ⟨vs, upd_same, KVr.mono E R h⟩
  refine g _ _ _ E' R' ⟨p, rfl, ?_⟩
  rw [← R.len, List.getElem?_append_right (Nat.le_refl _)]
  simp
/-- a new tuple -/
theorem Gd.tup {xs : List D} (g : Gd W ι S H S (.tup xs) Q) (R : Rep W ι S H) {vs : List V} (h : DVs W ι H xs vs) {p : Addr} (hp : H p = none) : Q (.ref p) (upd H p (.tup vs)) := by
  obtain ⟨R', E⟩ := R.put hp (.tup vs)
  exact g _ _ _ E R' ⟨p, vs, rfl, .of upd_same, DVs.mono E R _ _ h⟩
/-- an object changed -/
theorem Gd.set {n : Nat} {a : Addr} {o : Ob} {u : HO} {d : D} (g : Gd W ι S H (S.set n o) d Q) (R : Rep W ι S H) (hn : ι[n]? = some a) (hz : ¬ Fz S[n]?) (ho : ∀ E : Ext ι S H ι (S.set n o) (upd H a u), OV W ι (upd H a u) a o) {v : V} (hv : DV W ι H d v) : Q v (upd H a u) := by
  have E : Ext ι S H ι (S.set n o) (upd H a u) := by
    refine ⟨⟨[], by simp, by simp⟩, fun b o h _ k => ?_, fun m h => ?_⟩
    · rw [upd_ne ?_]
      · exact h
      · rintro rfl
        obtain ⟨m, h1, h2⟩ := k (List.mem_iff_getElem?.mpr ⟨n, hn⟩)
        obtain ⟨z1, e1⟩ := List.getElem?_eq_some_iff.mp h1
        obtain ⟨z2, e2⟩ := List.getElem?_eq_some_iff.mp hn
        rw [(List.getElem_inj R.nd).mp (e1.trans e2.symm)] at h2
        exact hz h2
    · rw [List.getElem?_set_ne]
      rintro rfl
      exact hz h
  obtain ⟨R', E'⟩ := R.write hn hz (ho E)
  exact g _ _ _ E' R' (DV.mono E' R _ _ hv)
end

section
variable {W : Wd} {X : Cx}
/-- a value's truth -/
theorem tru_of {ι : List Addr} {S : Sto} {H : Hp} (R : Rep W ι S H) {d : D} {v : V} {b : Bool} (h : truD d S = some b) (hv : DV W ι H d v) : TruV W.K v H b := by
  have hl : ∀ {vs : List V} {xs : List D}, DVs W ι H xs vs → (!xs.isEmpty) = !vs.isEmpty := fun {vs xs} q => by
    cases xs with
    | nil => rw [show vs = [] from q]; rfl
    | cons x r =>
      obtain ⟨_, _, e, _⟩ := q
      rw [e]; rfl
  cases d with
  | non => cases (show v = .non from hv); cases h; exact rfl
  | bl x => cases (show v = .bl x from hv); cases h; exact rfl
  | int i => cases (show v = .int i from hv); cases h; exact rfl
  | str x =>
    cases (show v = .str x from hv)
    simp only [truD] at h
    split at h
    · rename_i hz
      cases h
      exact ⟨by rw [← line_eq]; exact hz, rfl⟩
    · cases h
  | tup xs =>
    obtain ⟨a, vs, rfl, q, r⟩ := hv
    cases h
    exact .inr (.inl ⟨vs, q, hl r⟩)
  | frl xs =>
    obtain ⟨a, vs, rfl, q, r⟩ := hv
    cases h
    exact .inl ⟨vs, frl_sq q, hl r⟩
  | ref n =>
    obtain ⟨a, rfl, hn⟩ := hv
    simp only [truD] at h
    split at h
    · rename_i xs ho
      cases h
      obtain ⟨vs, q, r⟩ := R.ob n a _ hn ho
      exact .inl ⟨vs, .of q, hl r⟩
    · rename_i xs ho
      cases h
      obtain ⟨vs, q, r⟩ := R.ob n a _ hn ho
      exact .inl ⟨vs, .of q, hl r⟩
    · rename_i kvs ho
      cases h
      obtain ⟨vs, q, r⟩ := R.ob n a _ hn ho
      refine .inr (.inr ⟨vs, q, ?_⟩)
      cases r <;> rfl
    · cases h
  | fn n => cases h
  | lam _ _ => cases h
def rBin (W : Wd) (op : Operator) : R2 := fun x y H Q => ∃ ι S d1 d2 d S', Rep W ι S H ∧ DV W ι H d1 x ∧ DV W ι H d2 y ∧ binD op d1 d2 S = some (d, S') ∧ Gd W ι S H S' d Q
theorem mulOk_ok {i j : Int} (h : mulOk i j = true) : CMul i j := by
  unfold mulOk at h
  simp only [Bool.or_eq_true, Bool.and_eq_true, decide_eq_true_eq] at h
  exact h
theorem powOk_ok {i j : Int} (h : powOk i j = true) : CPow i j := by
  unfold powOk at h
  simp only [Bool.and_eq_true, decide_eq_true_eq] at h
  exact ⟨h.1.1, h.1.2, h.2⟩
theorem foldl_app : ∀ (k : Nat) (x acc : Array Nat), ((List.replicate k x).foldl (· ++ ·) acc).toList = acc.toList ++ (List.replicate k x.toList).flatten
  | 0, x, acc => by simp
  | k + 1, x, acc => by
    rw [List.replicate_succ, List.foldl_cons, foldl_app k x (acc ++ x), List.replicate_succ, List.flatten_cons]
    simp
theorem bin_ok (hK : X.K = W.K) (op : Operator) : OpR X (binaryOp op) (rBin W op) := by
  intro pins s σ H x y v u Q I rx ry h
  obtain ⟨ι, S, d1, d2, d, S', R, h1, h2, e, g⟩ := h
  unfold binD at e
  split at e
  · cases e
    cases (show x = .int _ from h1)
    cases (show y = .int _ from h2)
    exact op_add pins s σ H _ _ v u Q I rx ry ⟨_, _, rfl, rfl, g.here R rfl⟩
  · split at e
    · rename_i hz
      cases e
      cases (show x = .str _ from h1)
      cases (show y = .str _ from h2)
      exact op_add_str pins s σ H _ _ v u Q I rx ry ⟨_, _, rfl, rfl, by rw [← line_eq]; exact hz, g.here R rfl⟩
    · cases e
  · rename_i xs ys
    split at e
    · rename_i hz
      cases e
      obtain ⟨a, vs, rfl, qa, ra⟩ := h1
      obtain ⟨b, ws, rfl, qb, rb⟩ := h2
      have la := DVs.length ra
      have lb := DVs.length rb
      refine op_catA pins s σ H _ _ v u Q I rx ry ⟨a, b, vs, ws, rfl, rfl, by rw [hK]; exact qa, by rw [hK]; exact qb, by rw [← la, ← lb, ← line_eq]; exact hz, fun hv => ?_, fun _ hw => ?_, fun _ _ p hp => ?_⟩
      · refine g.here R ⟨b, ws, rfl, qb, ?_⟩
        have := DVs.append ra rb
        rw [hv] at this
        exact this
      · refine g.here R ⟨a, vs, rfl, qa, ?_⟩
        have := DVs.append ra rb
        rw [hw, List.append_nil] at this
        exact this
      · exact g.tup R (DVs.append ra rb) hp
    · cases e
  · rename_i n m
    split at e
    · rename_i xs ys hn hm
      split at e
      · rename_i hz
        cases e
        obtain ⟨a, rfl, ia⟩ := h1
        obtain ⟨b, rfl, ib⟩ := h2
        obtain ⟨vs, qa, ra⟩ := R.ob n a _ ia hn
        obtain ⟨ws, qb, rb⟩ := R.ob m b _ ib hm
        have la := DVs.length ra
        have lb := DVs.length rb
        exact op_cat pins s σ H _ _ v u Q I rx ry ⟨a, b, vs, ws, rfl, rfl, qa, qb, by rw [← la, ← lb, ← line_eq]; exact hz, fun p hp => g.lst R (DVs.append ra rb) hp⟩
      · cases e
    · cases e
  · cases e
    cases (show x = .int _ from h1)
    cases (show y = .int _ from h2)
    exact op_sub pins s σ H _ _ v u Q I rx ry ⟨_, _, rfl, rfl, g.here R rfl⟩
  · split at e
    · rename_i hc
      cases e
      cases (show x = .int _ from h1)
      cases (show y = .int _ from h2)
      exact op_mul pins s σ H _ _ v u Q I rx ry ⟨_, _, rfl, rfl, mulOk_ok hc, g.here R rfl⟩
    · cases e
  · rename_i z j
    split at e
    · rename_i hc
      obtain ⟨c1, c2, c3⟩ := hc
      cases e
      cases (show x = .str _ from h1)
      cases (show y = .int _ from h2)
      obtain ⟨t, rfl⟩ := rx
      obtain ⟨t', rfl⟩ := ry
      have hl : z.length * j.toNat ≤ 16777216 := c3
      have res : ∀ {w' : Str}, w'.cps.toList = (List.replicate j.toNat z.cps.toList).flatten → w' = ⟨((List.replicate j.toNat z.cps.toList).flatten).toArray⟩ := fun {w'} hw => by
        obtain ⟨c⟩ := w'
        rw [← hw]
      have q : ∀ {w' : Str}, w'.cps.toList = (List.replicate j.toNat z.cps.toList).flatten → Q (.str w') H := fun hw => by
        rw [res hw]
        exact g.here R rfl
      refine P.mul_str ?_ (fun n1 n2 => ?_) (fun n1 n2 => ?_) ?_
      · have a1 : decide (j < -(2 ^ 63 : Int)) = false := decide_eq_false (by omega)
        have a2 : decide (j ≥ (2 ^ 63 : Int)) = false := decide_eq_false (by omega)
        rw [a1, a2]
        rfl
      · have hj : 0 < j := by omega
        have hx : (z.length : Int) * j ≤ 16777216 := by
          have e2 : ((z.length * j.toNat : Nat) : Int) = (z.length : Int) * j := by
            rw [Int.natCast_mul, Int.toNat_of_nonneg c1]
          rw [← e2]
          generalize z.length * j.toNat = P at hl
          omega
        have hq : (z.length : Int) ≤ (2 ^ 63 - 1) / j := (Int.le_ediv_iff_mul_le hj).mpr (by omega)
        omega
      · show decide (_ > _) = false
        have e3 : sizeLine = 16777216 := sizeLine_eq
        exact decide_eq_false (by omega)
      · split
        · rename_i hj
          have e0 : j.toNat = 0 := by omega
          exact ⟨by rw [sizeLine_eq]; exact Nat.zero_le _, .str Str.empty, H, I.tok _, ⟨_, rfl⟩, q (by rw [e0]; rfl)⟩
        · split
          · rename_i hj h3
            refine ⟨.str z, H, I, ⟨_, rfl⟩, q ?_⟩
            simp only [Bool.or_eq_true, beq_iff_eq] at h3
            rcases h3 with h3 | h3
            · rw [h3]
              simp
            · have e0 : z.cps.toList = [] := by
                have : z.cps.size = 0 := h3
                simpa using this
              rw [e0]
              simp
          · have e4 : (({ cps := List.foldl (fun x1 x2 => x1 ++ x2) #[] (List.replicate j.toNat z.cps) } : Str)).cps.toList = (List.replicate j.toNat z.cps.toList).flatten := by
              rw [foldl_app]
              simp
            refine ⟨?_, .str _, H, I.tok _, ⟨_, rfl⟩, q e4⟩
            show Array.size _ ≤ _
            rw [← Array.length_toList, e4, List.length_flatten, sizeLine_eq]
            simp only [List.map_replicate, List.sum_replicate_nat, Array.length_toList]
            rw [Nat.mul_comm]
            exact hl
    · cases e
  · rename_i n j
    split at e
    · rename_i xs hn
      split at e
      · rename_i hc
        obtain ⟨c1, c2, c3⟩ := hc
        cases e
        obtain ⟨a, rfl, ia⟩ := h1
        cases (show y = .int _ from h2)
        obtain ⟨vs, qa, ra⟩ := R.ob n a _ ia hn
        have la := DVs.length ra
        exact op_rep pins s σ H _ _ v u Q I rx ry ⟨a, j, vs, rfl, rfl, qa, by omega, by omega, by rw [← la, ← line_eq]; exact c3, fun p hp => g.lst R (DVs.flat ra _) hp⟩
      · cases e
    · cases e
  · split at e
    · rename_i hc
      cases e
      cases (show x = .int _ from h1)
      cases (show y = .int _ from h2)
      exact op_fdiv pins s σ H _ _ v u Q I rx ry ⟨_, _, rfl, rfl, hc, g.here R rfl⟩
    · cases e
  · split at e
    · rename_i hc
      cases e
      cases (show x = .int _ from h1)
      cases (show y = .int _ from h2)
      exact op_mod pins s σ H _ _ v u Q I rx ry ⟨_, _, rfl, rfl, hc, g.here R rfl⟩
    · cases e
  · split at e
    · rename_i hc
      cases e
      cases (show x = .int _ from h1)
      cases (show y = .int _ from h2)
      exact op_pow pins s σ H _ _ v u Q I rx ry ⟨_, _, rfl, rfl, powOk_ok hc, g.here R rfl⟩
    · cases e
  · split at e
    · rename_i hc
      cases e
      cases (show x = .int _ from h1)
      cases (show y = .int _ from h2)
      exact op_shl pins s σ H _ _ v u Q I rx ry ⟨_, _, rfl, rfl, powOk_ok hc, g.here R rfl⟩
    · cases e
  · cases e
end
end PC
end
section
set_option Elab.async false
set_option linter.all false
set_option maxRecDepth 100000
set_option maxHeartbeats 1000000
namespace PC
open PySem L2
section
variable {W : Wd} {X : Cx} {ι : List Addr} {S : Sto} {H : Hp} {pins : List (Addr × Obj)} {σ : L2.St} {s : Shared}
theorem rdQ_ok {d : D} {p : PyData} (h : rdQ S d = some p) : rdP 60 S d = some p ∧ noD p = true := by
  unfold rdQ at h
  split at h
  · split at h
    · cases h
      exact ⟨by assumption, by assumption⟩
    · cases h
  · cases h
theorem depthAll_le {k : Nat} : ∀ {ps : List PyData}, (∀ p ∈ ps, p.depth ≤ k) → PyData.depthAll ps ≤ k
  | [], _ => Nat.zero_le _
  | p :: r, h => by
    show max p.depth (PyData.depthAll r) ≤ k
    exact Nat.max_le.mpr ⟨h p List.mem_cons_self, depthAll_le fun q hq => h q (List.mem_cons_of_mem _ hq)⟩
theorem optMap_mem {α β : Type} {f : α → Option β} : ∀ {xs : List α} {ys : List β}, optMap f xs = some ys → ∀ y ∈ ys, ∃ x ∈ xs, f x = some y
  | [], _, h, y, hy => by cases h; cases hy
  | x :: xs, _, h, y, hy => by
    obtain ⟨z, zs, rfl, h1, h2⟩ := optMap_cons h
    rcases List.mem_cons.mp hy with rfl | hy
    · exact ⟨x, List.mem_cons_self, h1⟩
    · obtain ⟨x', m, e⟩ := optMap_mem h2 y hy
      exact ⟨x', List.mem_cons_of_mem _ m, e⟩
theorem rdP_depth : ∀ (k : Nat) (d : D) (p : PyData), rdP k S d = some p → noD p = true → p.depth ≤ k
  | 0, _, _, h, _ => by cases h
  | k + 1, d, p, h, hn => by
    have ih := rdP_depth k
    have nds : ∀ {ps : List PyData}, noDs ps = true → ∀ q ∈ ps, noD q = true := by
      intro ps
      induction ps with
      | nil => intro _ q hq; cases hq
      | cons a r ihr =>
        intro hh q hq
        obtain ⟨a1, a2⟩ := Bool.and_eq_true_iff.mp (show (noD a && noDs r) = true from hh)
        rcases List.mem_cons.mp hq with rfl | hq
        · exact a1
        · exact ihr a2 q hq
    have all : ∀ {xs : List D} {ps : List PyData}, optMap (rdP k S) xs = some ps → noDs ps = true → PyData.depthAll ps ≤ k := fun {xs ps} hm hd => depthAll_le fun q hq => by
      obtain ⟨x, _, e⟩ := optMap_mem hm q hq
      exact ih x q e (nds hd q hq)
    have lst : ∀ {xs : List D}, (optMap (rdP k S) xs).map PyData.list = some p → p.depth ≤ k + 1 := fun {xs} h => by
      obtain ⟨ps, h1, rfl⟩ := Option.map_eq_some_iff.mp h
      exact Nat.succ_le_succ (all h1 hn)
    cases d with
    | non => cases h; exact Nat.zero_le _
    | bl _ => cases h; exact Nat.zero_le _
    | int _ => cases h; exact Nat.zero_le _
    | str _ => cases h; exact Nat.zero_le _
    | tup xs =>
      obtain ⟨ps, h1, rfl⟩ := Option.map_eq_some_iff.mp (show (optMap (rdP k S) xs).map PyData.tuple = some p from h)
      exact Nat.succ_le_succ (all h1 hn)
    | frl xs => exact lst h
    | ref n =>
      simp only [rdP] at h
      split at h
      · exact lst h
      · exact lst h
      · obtain ⟨ps, h1, rfl⟩ := Option.map_eq_some_iff.mp h
        cases hn
      · cases h
    | fn n => cases h
    | lam _ _ => cases h
theorem data_at (I : L2.Inv X pins σ H s) (hK : X.K = W.K) (R : Rep W ι S H) {d : D} {x : V} {u : Value} {p : PyData} (hp : rdQ S d = some p) (h1 : DV W ι H d x) (r1 : RelV x u) :
    (∃ as, Reads s.heap u p as) ∧ noD p = true ∧ p.depth ≤ 60 := by
  obtain ⟨p1, p2⟩ := rdQ_ok hp
  exact ⟨reads_of I hK R 60 d x u p p1 h1 r1, p2, rdP_depth 60 d p p1 p2⟩
theorem datas_at (I : L2.Inv X pins σ H s) (hK : X.K = W.K) (R : Rep W ι S H) : ∀ {ds : List D} {xs : List V} {us : List Value} {ps : List PyData}, optMap (rdQ S) ds = some ps → DVs W ι H ds xs → Vals xs us →
    us.length = ps.length ∧ ∀ (j : Nat) (h1 : j < us.length) (h2 : j < ps.length), (∃ as, Reads s.heap us[j] ps[j] as) ∧ noD ps[j] = true ∧ ps[j].depth ≤ 60
  | [], _, _, _, h, hv, hr => by
    cases h
    cases (show _ = [] from hv)
    cases hr
    exact ⟨rfl, fun j h1 _ => absurd h1 (Nat.not_lt_zero _)⟩
  | d :: ds, _, _, _, h, ⟨v, r, e, q, t⟩, hr => by
    subst e
    obtain ⟨y, ys, rfl, h1, h2⟩ := optMap_cons h
    cases hr with
    | cons r1 r2 =>
      obtain ⟨e, ih⟩ := datas_at I hK R h2 t r2
      refine ⟨by rw [List.length_cons, List.length_cons, e], fun j j1 j2 => ?_⟩
      cases j with
      | zero => exact data_at I hK R h1 q r1
      | succ j => exact ih j (Nat.lt_of_succ_lt_succ j1) (Nat.lt_of_succ_lt_succ j2)
def rCmp (W : Wd) (op : CmpOp) : R2 := fun x y H Q => ∃ ι S d1 d2 b, Rep W ι S H ∧ DV W ι H d1 x ∧ DV W ι H d2 y ∧ cmpD op d1 d2 S = some b ∧ Q (.bl b) H
theorem fin_b {Q : VK} {b : Bool} (I : L2.Inv X pins σ H s) (q : Q (.bl b) H) : EP X pins σ Q (.bool b) s := ⟨.bl b, H, I, rfl, q⟩
/-- x in a list, a tuple of data -/
theorem in_any (neg : Bool) (I : L2.Inv X pins σ H s) (hK : X.K = W.K) (R : Rep W ι S H) (hu : X.A.units + 64 < cLine) {d : D} {xs : List D} {b : Bool} {x : V} {v : Value} {a : Addr} {vs : List V} {Q : VK} (h : inD d xs S = some b) (h1 : DV W ι H d x) (r1 : RelV x v)
    (hq : SqL W.K H a vs ∨ SqT W.K H a vs) (h2 : DVs W ι H xs vs) (q : Q (.bl (if neg then !b else b)) H) :
    wpAny (model X.prog X.w) X.A (compareOp (if neg then .NotIn else .In) v (.ref a)) (EP X pins σ Q) X.xe s := by
  unfold inD at h
  split at h
  · rename_i p qs hp hqs
    cases h
    obtain ⟨⟨as, z1⟩, p2, p3⟩ := data_at I hK R hp h1 r1
    -- what the items are
    have all : ∀ {its : List Value}, Vals vs its → (its.toArray.any fun u => decide (∃ (j : Nat) (h2 : j < qs.length), its[j]? = some u ∧ (qs[j].eqv p) = true)) = (qs.any fun z => z.eqv p) ∧
        ∀ y, y ∈ its.toArray → SeqAt.EqAt X.A.in1 s y v (decide (∃ (j : Nat) (h2 : j < qs.length), its[j]? = some y ∧ (qs[j].eqv p) = true)) := fun {its} rv => by
      obtain ⟨e, ih⟩ := datas_at I hK R hqs h2 rv
      refine ⟨?_, fun y hy => ?_⟩
      · rw [Bool.eq_iff_iff]
        simp only [List.any_toArray, List.any_eq_true, decide_eq_true_eq]
        constructor
        · rintro ⟨u, _, j, j2, _, h⟩
          exact ⟨_, List.getElem_mem j2, h⟩
        · rintro ⟨z, hz, h⟩
          obtain ⟨j, j2, rfl⟩ := List.getElem_of_mem hz
          have j1 : j < its.length := by rw [e]; exact j2
          exact ⟨its[j], List.getElem_mem j1, j, j2, List.getElem?_eq_getElem j1, h⟩
      · obtain ⟨j, j1, rfl⟩ := List.getElem_of_mem (show y ∈ its by simpa using hy)
        have j2 : j < qs.length := by rw [← e]; exact j1
        obtain ⟨⟨bs, w1⟩, w2, w3⟩ := ih j j1 j2
        have z := eqR qs[j] p X.A.in1 s _ _ _ _ w1 z1 w2 p2 (by show X.A.units + 1 + _ < _; omega)
        have eb : decide (∃ (i : Nat) (h2 : i < qs.length), its[i]? = some its[j] ∧ (qs[i].eqv p) = true) = (qs[j].eqv p) := by
          rw [Bool.eq_iff_iff]
          simp only [decide_eq_true_eq]
          constructor
          · rintro ⟨i, i2, ei, h⟩
            have i1 : i < its.length := by rw [e]; exact i2
            obtain ⟨⟨cs, v1⟩, v2, _⟩ := ih i i1 i2
            rw [List.getElem?_eq_getElem i1] at ei
            rw [Option.some.inj ei] at v1
            rw [reads_one _ _ _ _ _ w2 w1 v1]
            exact h
          · exact fun h => ⟨j, j2, List.getElem?_eq_getElem j1, h⟩
        rw [eb]
        exact z
    rcases hq with hq | hq
    · obtain ⟨its, rv, pl, _⟩ := I.list (by rw [hK]; exact hq)
      obtain ⟨ea, ee⟩ := all rv
      cases neg with
      | true => exact SeqAt.notIn_listAt _ pl.isList ee (by rw [ea]; exact fin_b I q)
      | false => exact SeqAt.in_listAt _ pl.isList ee (by rw [ea]; exact fin_b I q)
    · obtain ⟨its, rv, pl, _⟩ := I.tuple (by rw [hK]; exact hq)
      obtain ⟨ea, ee⟩ := all rv
      cases neg with
      | true => exact SeqAt.notIn_tupleAt _ (show s.heap.IsTuple a its.toArray from pl) ee (by rw [ea]; exact fin_b I q)
      | false => exact SeqAt.in_tupleAt _ (show s.heap.IsTuple a its.toArray from pl) ee (by rw [ea]; exact fin_b I q)
  · cases h
theorem key_v {ι : List Addr} {H : Hp} {d : D} {x : V} {k : Ky} (h : keyOf d = some k) (hv : DV W ι H d x) : kV k = x := by
  cases d with
  | int i => cases h; exact (show x = .int i from hv).symm
  | str z => cases h; exact (show x = .str z from hv).symm
  | _ => cases h
theorem kv_val {ι : List Addr} {H : Hp} {κ : Type} [DecidableEq κ] : ∀ {kvs : List (κ × D)} {vs : List (κ × V)}, KVr W ι H kvs vs → ∀ k : κ, (valK k kvs = none ∧ valV vs k = none) ∨ ∃ d v, valK k kvs = some d ∧ valV vs k = some v ∧ DV W ι H d v
  | _, _, .nil, k => .inl ⟨rfl, rfl⟩
  | (j, d) :: kvs, (j', v) :: vs, .cons h t, k => by
    obtain ⟨e, hv⟩ := h
    cases (show j = j' from e)
    by_cases hk : j = k
    · refine .inr ⟨d, v, ?_, ?_, hv⟩
      · simp [valK, hk]
      · simp [valV, hk]
    · rcases kv_val t k with ⟨e1, e2⟩ | ⟨d', v', e1, e2, q⟩
      · exact .inl ⟨by simpa [valK, hk] using e1, by simpa [valV, hk] using e2⟩
      · exact .inr ⟨d', v', by simpa [valK, hk] using e1, by simpa [valV, hk] using e2, q⟩
theorem isIn_ok (neg : Bool) (I : L2.Inv X pins σ H s) (hK : X.K = W.K) (R : Rep W ι S H) (hu : X.A.units + 64 < cLine) {d1 d2 : D} {b : Bool} {x y : V} {v u : Value} {Q : VK} (h : cmpD.isIn d1 d2 S = some b) (h1 : DV W ι H d1 x) (h2 : DV W ι H d2 y)
    (rx : RelV x v) (ry : RelV y u) (q : Q (.bl (if neg then !b else b)) H) : wpAny (model X.prog X.w) X.A (compareOp (if neg then .NotIn else .In) v u) (EP X pins σ Q) X.xe s := by
  unfold cmpD.isIn at h
  split at h
  · rename_i z
    split at h
    · rename_i w'
      split at h
      · rename_i c hc
        cases h
        cases (show x = .str _ from h1)
        cases (show y = .str _ from h2)
        have e : w' = ⟨#[c]⟩ := by
          obtain ⟨z'⟩ := w'
          have : z' = #[c] := by simpa using congrArg List.toArray hc
          rw [this]
        subst e
        cases neg with
        | true => exact op_notIn_sign pins s σ H _ _ v u Q I rx ry ⟨c, z, rfl, rfl, q⟩
        | false => exact op_in_sign pins s σ H _ _ v u Q I rx ry ⟨c, z, rfl, rfl, q⟩
      · cases h
    · cases h
  · rename_i xs
    obtain ⟨a, vs, rfl, hq, hr⟩ := h2
    cases ry
    exact in_any neg I hK R hu h h1 rx (.inr hq) hr q
  · rename_i n
    obtain ⟨a, rfl, hn⟩ := h2
    cases ry
    split at h
    · rename_i xs ho
      obtain ⟨vs, hq, hr⟩ := R.ob n a _ hn ho
      exact in_any neg I hK R hu h h1 rx (.inl (.of hq)) hr q
    · rename_i xs ho
      obtain ⟨vs, hq, hr⟩ := R.ob n a _ hn ho
      exact in_any neg I hK R hu h h1 rx (.inl (.of hq)) hr q
    · rename_i kvs ho
      obtain ⟨vs, hq, hr⟩ := R.ob n a _ hn ho
      obtain ⟨k, hk, rfl⟩ := Option.map_eq_some_iff.mp h
      have g : DGet H a x (valV vs k) := by
        rw [← key_v hk h1]
        exact DGet.k hq
      have e : (valV vs k).isSome = (valK k kvs).isSome := by
        rcases kv_val hr k with ⟨e1, e2⟩ | ⟨d, v', e1, e2, _⟩ <;> rw [e1, e2] <;> rfl
      cases neg with
      | true => exact d_notIn (by omega) I g rx fun s' I' => ⟨.bl _, H, I', rfl, by rw [e]; exact q⟩
      | false => exact d_in (by omega) I g rx fun s' I' => ⟨.bl _, H, I', rfl, by rw [e]; exact q⟩
    · cases h
  · cases h
theorem cmp_ok (hK : X.K = W.K) (hu : X.A.units + 64 < cLine) (op : CmpOp) : OpR X (compareOp op) (rCmp W op) := by
  intro pins s σ H x y v u Q I rx ry h
  obtain ⟨ι, S, d1, d2, b, R, h1, h2, e, q⟩ := h
  cases op with
  | Eq =>
    simp only [cmpD, eqD] at e
    split at e
    · rename_i p p' hp hp'
      cases e
      obtain ⟨⟨as, z1⟩, n1, l1⟩ := data_at I hK R hp h1 rx
      obtain ⟨⟨bs, z2⟩, n2, l2⟩ := data_at I hK R hp' h2 ry
      exact rcR z1 z2 n1 n2 (by omega) _ _ _ _ (fin_b I q)
    · cases e
  | NotEq =>
    simp only [cmpD, eqD] at e
    split at e
    · rename_i p p' hp hp'
      cases e
      obtain ⟨⟨as, z1⟩, n1, l1⟩ := data_at I hK R hp h1 rx
      obtain ⟨⟨bs, z2⟩, n2, l2⟩ := data_at I hK R hp' h2 ry
      exact neR z1 z2 n1 n2 (by omega) _ _ _ _ (fin_b I q)
    · cases e
  | Lt =>
    simp only [cmpD] at e
    split at e
    · cases e
      cases (show x = .int _ from h1)
      cases (show y = .int _ from h2)
      exact op_lt pins s σ H _ _ v u Q I rx ry ⟨_, _, rfl, rfl, q⟩
    · cases e
      cases (show x = .str _ from h1)
      cases (show y = .str _ from h2)
      exact op_lt_str pins s σ H _ _ v u Q I rx ry ⟨_, _, rfl, rfl, q⟩
    · cases e
  | LtE =>
    simp only [cmpD] at e
    split at e
    · cases e
      cases (show x = .int _ from h1)
      cases (show y = .int _ from h2)
      exact op_le pins s σ H _ _ v u Q I rx ry ⟨_, _, rfl, rfl, q⟩
    · cases e
      cases (show x = .str _ from h1)
      cases (show y = .str _ from h2)
      exact op_le_str pins s σ H _ _ v u Q I rx ry ⟨_, _, rfl, rfl, q⟩
    · cases e
  | Gt =>
    simp only [cmpD] at e
    split at e
    · cases e
      cases (show x = .int _ from h1)
      cases (show y = .int _ from h2)
      exact op_gt pins s σ H _ _ v u Q I rx ry ⟨_, _, rfl, rfl, q⟩
    · cases e
  | GtE =>
    simp only [cmpD] at e
    split at e
    · cases e
      cases (show x = .int _ from h1)
      cases (show y = .int _ from h2)
      exact op_ge pins s σ H _ _ v u Q I rx ry ⟨_, _, rfl, rfl, q⟩
    · cases e
  | Is =>
    simp only [cmpD] at e
    split at e
    · cases (show y = .non from h2)
      refine op_isN pins s σ H _ _ v u Q I rx ry ⟨rfl, ?_⟩
      have z : decide (x = V.non) = b := by
        cases d1 with
        | non => cases (show x = .non from h1); cases e; rfl
        | bl _ => cases (show x = .bl _ from h1); cases e; rfl
        | int _ => cases (show x = .int _ from h1); cases e; rfl
        | str _ => cases (show x = .str _ from h1); cases e; rfl
        | tup _ => obtain ⟨a, vs, rfl, _⟩ := h1; cases e; rfl
        | frl _ => obtain ⟨a, vs, rfl, _⟩ := h1; cases e; rfl
        | ref _ => obtain ⟨a, rfl, _⟩ := h1; cases e; rfl
        | fn _ => cases (show x = .ref _ from h1); cases e; rfl
        | lam _ _ => exact h1.elim
      rw [z]
      exact q
    · cases e
  | IsNot =>
    simp only [cmpD] at e
    split at e
    · cases (show y = .non from h2)
      refine op_notN pins s σ H _ _ v u Q I rx ry ⟨rfl, ?_⟩
      have z : (!decide (x = V.non)) = b := by
        cases d1 with
        | non => cases (show x = .non from h1); cases e; rfl
        | bl _ => cases (show x = .bl _ from h1); cases e; rfl
        | int _ => cases (show x = .int _ from h1); cases e; rfl
        | str _ => cases (show x = .str _ from h1); cases e; rfl
        | tup _ => obtain ⟨a, vs, rfl, _⟩ := h1; cases e; rfl
        | frl _ => obtain ⟨a, vs, rfl, _⟩ := h1; cases e; rfl
        | ref _ => obtain ⟨a, rfl, _⟩ := h1; cases e; rfl
        | fn _ => cases (show x = .ref _ from h1); cases e; rfl
        | lam _ _ => exact h1.elim
      rw [z]
      exact q
    · cases e
  | In => exact isIn_ok false I hK R hu e h1 h2 rx ry q
  | NotIn =>
    obtain ⟨c, e1, rfl⟩ := Option.map_eq_some_iff.mp e
    exact isIn_ok true I hK R hu e1 h1 h2 rx ry q
end
end PC
end
section
set_option Elab.async false
set_option linter.all false
set_option maxRecDepth 100000
set_option maxHeartbeats 1000000
namespace PC
open PySem L2
open PyProof.Rows (subscriptTail tail_any)
section
variable {W : Wd} {X : Cx} {ι : List Addr} {S : Sto} {H : Hp} {pins : List (Addr × Obj)} {σ : L2.St} {s : Shared}
theorem DVs.at {ds : List D} {vs : List V} (h : DVs W ι H ds vs) {i : Int} {d : D} (hd : atI ds i = some d) : ∃ v, atI vs i = some v ∧ DV W ι H d v := by
  unfold atI at hd ⊢
  rw [DVs.length h] at hd
  obtain ⟨j, hj, e⟩ := Option.bind_eq_some_iff.mp hd
  obtain ⟨v, e1, q⟩ := DVs.get h e
  exact ⟨v, by rw [hj]; exact e1, q⟩
def rIdx (W : Wd) : R2 := fun x y H Q => ∃ ι S d1 d2 d, Rep W ι S H ∧ DV W ι H d1 x ∧ DV W ι H d2 y ∧ idxD d1 d2 S = some d ∧ ∀ v, DV W ι H d v → Q v H
theorem idx_ok (hK : X.K = W.K) (hu : X.A.units + 64 < cLine) : IxR X (rIdx W) := by
  intro value slice pins s σ H x y v u Q I rx ry h hs
  obtain ⟨ι, S, d1, d2, d, R, h1, h2, e, g⟩ := h
  have lists : ∀ (a : Addr) (vs : List V) (xs : List D) (j : Int), x = .ref a → SqL W.K H a vs → DVs W ι H xs vs → d2 = .int j → atI xs j = some d → wpAny (model X.prog X.w) X.A (subscriptTail value slice v u) (EP X pins σ Q) X.xe s := by
    intro a vs xs j ea hq hx ed hj
    subst ea ed
    cases (show y = .int _ from h2)
    obtain ⟨w', e1, q⟩ := DVs.at hx hj
    exact ix_list value slice pins s σ H _ _ v u Q I rx ry ⟨a, vs, j, w', rfl, rfl, by rw [hK]; exact hq, e1, g w' q⟩ hs
  unfold idxD at e
  split at e
  · rename_i xs j
    obtain ⟨a, vs, rfl, hq, hx⟩ := h1
    cases (show y = .int _ from h2)
    obtain ⟨w', e1, q⟩ := DVs.at hx e
    exact ix_tup value slice pins s σ H _ _ v u Q I rx ry ⟨a, vs, j, w', rfl, rfl, by rw [hK]; exact hq, e1, g w' q⟩ hs
  · rename_i xs j
    obtain ⟨a, vs, rfl, hq, hx⟩ := h1
    exact lists a vs xs j rfl (frl_sq hq) hx rfl e
  · rename_i z j
    split at e
    · rename_i hz
      obtain ⟨c, hc, rfl⟩ := Option.map_eq_some_iff.mp e
      cases (show x = .str _ from h1)
      cases (show y = .int _ from h2)
      exact ix_str value slice pins s σ H _ _ v u Q I rx ry ⟨z, j, c, rfl, rfl, by rw [← line_eq]; exact hz, hc, g _ rfl⟩ hs
    · cases e
  · rename_i n
    obtain ⟨a, rfl, hn⟩ := h1
    split at e
    · rename_i xs ho
      obtain ⟨vs, hq, hx⟩ := R.ob n a _ hn ho
      split at e
      · exact lists a vs xs _ rfl (.of hq) hx rfl e
      · cases e
    · rename_i xs ho
      obtain ⟨vs, hq, hx⟩ := R.ob n a _ hn ho
      split at e
      · exact lists a vs xs _ rfl (.of hq) hx rfl e
      · cases e
    · rename_i kvs ho
      obtain ⟨vs, hq, hx⟩ := R.ob n a _ hn ho
      split at e
      · rename_i k hk
        rcases kv_val hx k with ⟨e1, _⟩ | ⟨d', v', e1, e2, q⟩
        · rw [e1] at e
          cases e
        · rw [e1] at e
          cases e
          cases rx
          have gg : DGet H a y (some v') := by
            rw [← key_v hk h2, ← e2]
            exact DGet.k hq
          exact tail_any (dict_typeIs I gg) PySem.F.slot_dict_getitem.lookup (d_getItem (by omega) I gg ry fun w' s3 I3 rw' => ⟨v', H, I3, rw', g _ q⟩) hs
      · cases e
    · cases e
  · cases e
theorem DVs.cut {ds : List D} {vs : List V} (h : DVs W ι H ds vs) (lo hi : Option Int) : DVs W ι H (cutL ds lo hi) (cutV vs lo hi) := by
  unfold cutL cutV
  rw [DVs.length h]
  exact DVs.take _ (DVs.drop _ h)
def rSlc (W : Wd) : V → Option Int → Option Int → Hp → VK → Prop := fun x lo hi H Q => ∃ ι S d d' S', Rep W ι S H ∧ DV W ι H d x ∧ slcD d lo hi S = some (d', S') ∧ Gd W ι S H S' d' Q
theorem slc_ok (hK : X.K = W.K) : SlR X (rSlc W) := by
  intro pins s σ H x v vl vu lo hi sl Q I rx hs pl pu h
  obtain ⟨ι, S, d, d', S', R, h1, e, g⟩ := h
  have lists : ∀ (a : Addr) (vs : List V) (xs : List D), x = .ref a → SqL W.K H a vs → DVs W ι H xs vs → new (.lst (cutL xs lo hi)) S = some (d', S') → rSlL X.K x lo hi H Q := by
    intro a vs xs ea hq hx e
    cases e
    exact ⟨a, vs, ea, by rw [hK]; exact hq, fun p hp => g.lst R (DVs.cut hx lo hi) hp⟩
  unfold slcD at e
  split at e
  · rename_i xs
    cases e
    obtain ⟨a, vs, rfl, hq, hx⟩ := h1
    refine sl_tupA pins s σ H _ v vl vu lo hi sl Q I rx hs pl pu ⟨a, vs, rfl, by rw [hK]; exact hq, fun hw => ?_, fun _ p hp => g.tup R (DVs.cut hx lo hi) hp⟩
    refine g.here R ⟨a, vs, rfl, hq, ?_⟩
    have z := DVs.cut hx lo hi
    have e : cutV vs lo hi = vs := by
      unfold cutV
      rw [hw.1, hw.2, List.drop_zero, Nat.sub_zero, List.take_length]
    rw [e] at z
    exact z
  · rename_i xs
    obtain ⟨a, vs, rfl, hq, hx⟩ := h1
    exact sl_list pins s σ H _ v vl vu lo hi sl Q I rx hs pl pu (lists a vs xs rfl (frl_sq hq) hx e)
  · split at e
    · rename_i hz
      cases e
      cases (show x = .str _ from h1)
      exact sl_str pins s σ H _ v vl vu lo hi sl Q I rx hs pl pu ⟨_, rfl, by rw [← line_eq]; exact hz, g.here R rfl⟩
    · cases e
  · rename_i n
    obtain ⟨a, rfl, hn⟩ := h1
    split at e
    · rename_i xs ho
      obtain ⟨vs, hq, hx⟩ := R.ob n a _ hn ho
      exact sl_list pins s σ H _ v vl vu lo hi sl Q I rx hs pl pu (lists a vs xs rfl (.of hq) hx e)
    · rename_i xs ho
      obtain ⟨vs, hq, hx⟩ := R.ob n a _ hn ho
      exact sl_list pins s σ H _ v vl vu lo hi sl Q I rx hs pl pu (lists a vs xs rfl (.of hq) hx e)
    · cases e
  · cases e
/-- the built-in functions as values -/
def biV : Bi → Value
  | .len => .builtin "len"
  | .list => .type "list"
  | .tuple => .type "tuple"
  | .dict => .type "dict"
  | .int => .type "int"
  | .str => .type "str"
  | .repr => .builtin "repr"
  | .bool => .type "bool"
  | .sorted => .builtin "sorted"
  | .sum => .builtin "sum"
  | .all => .builtin "all"
  | .any => .builtin "any"
  | .max => .builtin "max"
  | .min => .builtin "min"
  | .set => .type "set"
  | .abs => .builtin "abs"
  | .ord => .builtin "ord"
  | .chr => .builtin "chr"
def rBi (W : Wd) (b : Bi) : List V → Hp → VK → Prop := fun xs H Q => ∃ ι S ds d S', Rep W ι S H ∧ DVs W ι H ds xs ∧ biD b ds S = some (d, S') ∧ Gd W ι S H S' d Q
theorem one_of {d : D} {xs : List V} (h : DVs W ι H [d] xs) : ∃ v, xs = [v] ∧ DV W ι H d v := by
  obtain ⟨v, r, e, q, t⟩ := h
  cases (show r = [] from t)
  exact ⟨v, e, q⟩
theorem two_of {d e : D} {xs : List V} (h : DVs W ι H [d, e] xs) : ∃ v w, xs = [v, w] ∧ DV W ι H d v ∧ DV W ι H e w := by
  obtain ⟨v, r, e, q, w, r', e', q', t⟩ := h
  cases (show r' = [] from t)
  subst e'
  exact ⟨v, w, e, q, q'⟩
theorem bools_of : ∀ {ds : List D} {vs : List V} {bs : List Bool}, optMap boolD ds = some bs → DVs W ι H ds vs → vs = bs.map V.bl
  | [], _, _, h, hv => by cases h; exact hv
  | d :: ds, _, _, h, ⟨v, r, e, q, t⟩ => by
    obtain ⟨y, ys, rfl, h1, h2⟩ := optMap_cons h
    subst e
    cases d with
    | bl b => cases h1; rw [show v = .bl _ from q, bools_of h2 t]; rfl
    | _ => cases h1
theorem ints_of : ∀ {ds : List D} {vs : List V} {bs : List Int}, optMap intD ds = some bs → DVs W ι H ds vs → vs = bs.map V.int
  | [], _, _, h, hv => by cases h; exact hv
  | d :: ds, _, _, h, ⟨v, r, e, q, t⟩ => by
    obtain ⟨y, ys, rfl, h1, h2⟩ := optMap_cons h
    subst e
    cases d with
    | int b => cases h1; rw [show v = .int _ from q, ints_of h2 t]; rfl
    | _ => cases h1
theorem strs_of : ∀ {ds : List D} {vs : List V} {bs : List Str}, optMap strD ds = some bs → DVs W ι H ds vs → vs = bs.map V.str
  | [], _, _, h, hv => by cases h; exact hv
  | d :: ds, _, _, h, ⟨v, r, e, q, t⟩ => by
    obtain ⟨y, ys, rfl, h1, h2⟩ := optMap_cons h
    subst e
    cases d with
    | str b => cases h1; rw [show v = .str _ from q, strs_of h2 t]; rfl
    | _ => cases h1
theorem put_map {κ : Type} [DecidableEq κ] {k : κ} {d : D} {v : V} (hd : DV W ι H d v) : ∀ {a : List (κ × D)} {b : List (κ × V)}, KVr W ι H a b →
    KVr W ι H (a.map fun kv => if kv.1 = k then (kv.1, d) else kv) (b.map fun kv => if kv.1 = k then (kv.1, v) else kv)
  | _, _, .nil => .nil
  | (j, x) :: a, (j', y) :: b, .cons h t => by
    obtain ⟨e, q⟩ := h
    cases (show j = j' from e)
    refine .cons ?_ (put_map hd t)
    show (if j = k then (j, d) else (j, x)).1 = (if j = k then (j, v) else (j, y)).1 ∧ DV W ι H (if j = k then (j, d) else (j, x)).2 (if j = k then (j, v) else (j, y)).2
    split
    · exact ⟨rfl, hd⟩
    · exact ⟨rfl, q⟩
theorem put_app {κ : Type} {k : κ} {d : D} {v : V} (hd : DV W ι H d v) : ∀ {a : List (κ × D)} {b : List (κ × V)}, KVr W ι H a b → KVr W ι H (a ++ [(k, d)]) (b ++ [(k, v)])
  | _, _, .nil => .cons ⟨rfl, hd⟩ .nil
  | _, _, .cons h t => .cons h (put_app hd t)
theorem put_kv {κ : Type} [DecidableEq κ] {k : κ} {d : D} {v : V} (hd : DV W ι H d v) {a : List (κ × D)} {b : List (κ × V)} (h : KVr W ι H a b) : KVr W ι H (putK k d a) (L2.putK b k v) := by
  have e : (a.any fun kv => decide (kv.1 = k)) = b.any fun kv => decide (kv.1 = k) := by
    induction h with
    | nil => rfl
    | cons h t ih => rw [List.any_cons, List.any_cons, ih, h.1]
  unfold putK L2.putK
  rw [e]
  split
  · exact put_map hd h
  · exact put_app hd h
theorem merge_kv : ∀ {ps : List (Ky × D)} {qs : List (Ky × V)} {a : List (Ky × D)} {b : List (Ky × V)}, KVr W ι H ps qs → KVr W ι H a b → KVr W ι H (ps.foldl (fun m kv => putK kv.1 kv.2 m) a) (L2.mergeK b qs)
  | _, _, _, _, .nil, h => h
  | _, _, _, _, .cons q t, h => by
    unfold L2.mergeK
    rw [List.foldl_cons, List.foldl_cons, ← q.1]
    exact merge_kv t (put_kv q.2 h)
theorem pairs_of : ∀ {ds : List D} {vs : List V} {kvs : List (Ky × D)}, optMap pairD ds = some kvs → DVs W ι H ds vs →
    ∃ (ps : List Addr) (qs : List (Ky × V)), vs = ps.map V.ref ∧ Paired (fun p (kv : Ky × V) => SqT W.K H p [kV kv.1, kv.2]) ps qs ∧ KVr W ι H kvs qs
  | [], _, _, h, hv => by cases h; exact ⟨[], [], hv, .nil, .nil⟩
  | d :: ds, _, _, h, ⟨v, r, e, q, t⟩ => by
    obtain ⟨y, ys, rfl, h1, h2⟩ := optMap_cons h
    subst e
    obtain ⟨ps, qs, e1, e2, e3⟩ := pairs_of h2 t
    unfold pairD at h1
    split at h1
    · obtain ⟨k, hk, rfl⟩ := Option.map_eq_some_iff.mp h1
      obtain ⟨a, us, rfl, hq, hu⟩ := q
      obtain ⟨w1, w2, rfl, q1, q2⟩ := two_of hu
      refine ⟨a :: ps, (k, w2) :: qs, by rw [e1]; rfl, .cons ?_ e2, .cons ⟨rfl, q2⟩ e3⟩
      rw [key_v hk q1]
      exact hq
    · cases h1
mutual
theorem noD_dict : ∀ p : PyData, noD p = true → p.hasDict = false
  | .none, _ => rfl
  | .bool _, _ => rfl
  | .int _, _ => rfl
  | .str _, _ => rfl
  | .list xs, h => noDs_dict xs h
  | .tuple xs, h => noDs_dict xs h
  | .dict _, h => nomatch h
theorem noDs_dict : ∀ ps : List PyData, noDs ps = true → PyData.hasDictAll ps = false
  | [], _ => rfl
  | p :: r, h => by
    obtain ⟨h1, h2⟩ := Bool.and_eq_true_iff.mp (show (noD p && noDs r) = true from h)
    show (p.hasDict || PyData.hasDictAll r) = false
    rw [noD_dict p h1, noDs_dict r h2]
    rfl
end
theorem alls_nil {h : Heap} {us : List Value} {as : List Addr} (r : ReadsAll h us [] as) : as = [] := by cases r; rfl
theorem tyis_ref {a : Addr} {T : String} {o : Obj} (e : s.heap.get? a = some o) (c : o.cls = .type T) : s.TypeIs (.ref a) T := ⟨o, e, c⟩
theorem repr_ok (hg : X.A.guards = some []) (hK : X.K = W.K) (hu : X.A.units + 200 < cLine) : CallR X (.builtin "repr") (rBi W .repr) := by
  intro pins s σ H xs us Q I r h
  obtain ⟨ι, S, ds, d, S', R, h1, e, g⟩ := h
  rcases ds with _ | ⟨d1, _ | ⟨d2, r3⟩⟩
  · cases e
  · obtain ⟨x, rfl, hx⟩ := one_of h1
    obtain ⟨u, rfl, rx⟩ := vals1 r
    simp only [biD, bi1, giv, Option.map_map, Option.map_eq_some_iff, Function.comp_apply] at e
    obtain ⟨z, e1, e2⟩ := e
    cases e2
    unfold reprD at e1
    split at e1
    · rename_i p hp
      split at e1
      · rename_i hc
        obtain ⟨c1, c2, c3⟩ := hc
        cases e1
        have c3 : (PyData.shown p).length ≤ sizeLine := by rw [← line_eq]; exact c3
        have q := g.here R (v := .str (PyData.shown p)) rfl
        obtain ⟨as, hr⟩ := reads_of I hK R 60 d1 x u p hp hx rx
        have fin : ∀ (h' : Heap) (t : Tok) (tk : Nat), (∀ b o, s.heap.get? b = some o → h'.get? b = some o) → EP X pins σ Q (.str (PyData.shown p) t) { s with heap := h', toks := tk } :=
          fun h' t tk hk => ⟨.str _, H, I.kept hk, ⟨_, rfl⟩, q⟩
        cases hr with
        | none => exact P.repr_of_none (fin _ _ _ fun _ _ z => z)
        | bool b => exact P.repr_of_bool (fin _ _ _ fun _ _ z => z)
        | int i t => exact P.repr_of_int (of_decide_eq_true c2) (fin _ _ _ fun _ _ z => z)
        | str y t => exact P.repr_of_str (fin _ _ _ fun _ _ z => z) c3
        | @list a o vs m xs as k1 k2 k3 k4 =>
          have n : noD (.list xs) = true := by
            unfold repOk at c1
            rw [Bool.or_false] at c1
            exact c1
          have dp := rdP_depth 60 d1 _ hp n
          exact repr_of_reads' (.list k1 k2 k3 k4) c2 (fun z => by rw [noD_dict _ n] at z; cases z) hg (by omega) (fun _ _ z => z) (fun h' t tk hk => fin h' t tk hk) c3
        | @tuple a o vs m xs as k1 k2 k3 k4 =>
          have n : noD (.tuple xs) = true := by
            unfold repOk at c1
            rw [Bool.or_false] at c1
            exact c1
          have dp := rdP_depth 60 d1 _ hp n
          exact repr_of_reads' (.tuple k1 k2 k3 k4) c2 (fun z => by rw [noD_dict _ n] at z; cases z) hg (by omega) (fun _ _ z => z) (fun h' t tk hk => fin h' t tk hk) c3
        | @dict a o es n kvs as bs k1 k2 k3 k4 k5 =>
          cases kvs with
          | cons _ _ => cases c1
          | nil =>
            have e1 := alls_nil k4
            have e2 := alls_nil k5
            subst e1 e2
            have ns : (a == sysModules) = false := by
              cases d1 with
              | ref m =>
                obtain ⟨a', rfl, hm⟩ := hx
                cases rx
                simp only [rdP] at hp
                split at hp
                · rename_i ho
                  obtain ⟨ps, _, e⟩ := Option.map_eq_some_iff.mp hp
                  cases e
                · rename_i ho
                  obtain ⟨ps, _, e⟩ := Option.map_eq_some_iff.mp hp
                  cases e
                · rename_i kvs ho
                  obtain ⟨vs, q1, _⟩ := R.ob m _ _ hm ho
                  obtain ⟨_, ns, _⟩ := I.hok _ _ q1
                  exact ns
                · cases hp
              | tup _ => obtain ⟨ps, _, e⟩ := Option.map_eq_some_iff.mp hp; cases e
              | frl _ => obtain ⟨ps, _, e⟩ := Option.map_eq_some_iff.mp hp; cases e
              | _ => cases hp
            refine repr_of_reads' (.dict k1 k2 k3 k4 k5) c2 (fun _ z => ?_) hg ?_ (fun _ _ z => z) (fun h' t tk hk => fin h' t tk hk) c3
            · have : sysModules = a := by simpa using z
              rw [this] at ns
              simp at ns
            · show X.A.units + (0 + 1 + 1) < cLine
              omega
      · cases e1
    · cases e1
  · rcases r3 with _ | ⟨d3, r3⟩
    · cases d1 <;> cases d2 <;> cases e
    · cases e
theorem KVr.length {κ : Type} : ∀ {a : List (κ × D)} {b : List (κ × V)}, KVr W ι H a b → a.length = b.length
  | _, _, .nil => rfl
  | _, _, .cons _ t => by rw [List.length_cons, List.length_cons, KVr.length t]
theorem bi_one {b : Bi} (f : ∀ (pins : List (Addr × Obj)) (s : Shared) (σ : L2.St) (H : Hp) (Q : VK) (ι : List Addr) (S : Sto) (d d' : D) (S' : Sto) (x : V) (us : List Value), L2.Inv X pins σ H s → Vals [x] us → Rep W ι S H → DV W ι H d x → bi1 b d S = some (d', S') → Gd W ι S H S' d' Q →
    wpAny (model X.prog X.w) X.A (PySem.call (biV b) us) (EP X pins σ Q) X.xe s) (hb : ∀ d e S, bi2 b d e S = none) : CallR X (biV b) (rBi W b) := by
  intro pins s σ H xs us Q I r h
  obtain ⟨ι, S, ds, d, S', R, h1, e, g⟩ := h
  rcases ds with _ | ⟨d1, _ | ⟨d2, _ | ⟨d3, r3⟩⟩⟩
  · cases e
  · obtain ⟨x, rfl, hx⟩ := one_of h1
    exact f pins s σ H Q ι S d1 d S' x us I r R hx e g
  · rw [show biD b [d1, d2] S = bi2 b d1 d2 S from rfl, hb] at e
    cases e
  · cases e
theorem giv_eq {o : Option D} {d : D} {S' : Sto} (h : giv o S = some (d, S')) : o = some d ∧ S' = S := by
  unfold giv at h
  obtain ⟨z, e1, e2⟩ := Option.map_eq_some_iff.mp h
  cases e2
  exact ⟨e1, rfl⟩
theorem len_ok (hK : X.K = W.K) : CallR X (.builtin "len") (rBi W .len) := by
  refine bi_one (b := .len) (fun pins s σ H Q ι S d d' S' x us I r R hx e g => ?_) fun d e S => by cases d <;> cases e <;> rfl
  replace e := giv_eq e
  obtain ⟨e, rfl⟩ := e
  replace e := Option.map_eq_some_iff.mp e
  obtain ⟨z, e, rfl⟩ := e
  have lists : ∀ (a : Addr) (vs : List V) (zs : List D), x = .ref a → SqL W.K H a vs ∨ SqT W.K H a vs → DVs W ι H zs vs → some (zs.length : Int) = some z → wpAny (model X.prog X.w) X.A (PySem.call (biV .len) us) (EP X pins σ Q) X.xe s := by
    intro a vs zs ex hq hz e
    cases e
    subst ex
    refine call_len_seq pins s σ H _ us Q I r ⟨a, vs, rfl, by rw [hK]; exact hq, ?_⟩
    rw [← DVs.length hz]
    exact g.here R rfl
  unfold lenD at e
  cases d with
  | tup zs => obtain ⟨a, vs, rfl, hq, hz⟩ := hx; exact lists a vs zs rfl (.inr hq) hz e
  | frl zs => obtain ⟨a, vs, rfl, hq, hz⟩ := hx; exact lists a vs zs rfl (.inl (frl_sq hq)) hz e
  | str y =>
    cases (show x = .str y from hx)
    simp only at e
    split at e
    · rename_i hz
      cases e
      exact call_len_str pins s σ H _ us Q I r ⟨y, rfl, by rw [← line_eq]; exact hz, g.here R rfl⟩
    · cases e
  | ref n =>
    obtain ⟨a, rfl, hn⟩ := hx
    simp only at e
    split at e
    · rename_i zs ho
      obtain ⟨vs, hq, hz⟩ := R.ob n a _ hn ho
      exact lists a vs zs rfl (.inl (.of hq)) hz e
    · rename_i zs ho
      obtain ⟨vs, hq, hz⟩ := R.ob n a _ hn ho
      exact lists a vs zs rfl (.inl (.of hq)) hz e
    · rename_i kvs ho
      obtain ⟨vs, hq, hz⟩ := R.ob n a _ hn ho
      cases e
      refine call_lenD pins s σ H _ us Q I r ⟨a, vs, rfl, hq, ?_⟩
      rw [← KVr.length hz]
      exact g.here R rfl
    · cases e
  | _ => cases e
theorem bi_ok (hg : X.A.guards = some []) (hc : X.calm = true) (hK : X.K = W.K) (hu : X.A.units + 200 < cLine) (b : Bi) : CallR X (biV b) (rBi W b) := by
  cases b with
  | len => exact len_ok hK
  | repr => exact repr_ok hg hK hu
  | tuple =>
    refine bi_one (b := .tuple) (fun pins s σ H Q ι S d d' S' x us I r R hx e g => ?_) fun d e S => by cases d <;> cases e <;> rfl
    replace e := giv_eq e
    obtain ⟨e, rfl⟩ := e
    unfold tupD at e
    cases d with
    | tup zs =>
      obtain ⟨a, vs, rfl, hq, hz⟩ := hx
      cases e
      exact call_tuple_of pins s σ H _ us Q I r ⟨a, vs, rfl, .inr ⟨by rw [hK]; exact hq, g.here R ⟨a, vs, rfl, hq, hz⟩⟩⟩
    | ref n =>
      obtain ⟨a, rfl, hn⟩ := hx
      simp only at e
      split at e
      · rename_i zs ho
        obtain ⟨vs, hq, hz⟩ := R.ob n a _ hn ho
        cases e
        exact call_tuple_of pins s σ H _ us Q I r ⟨a, vs, rfl, .inl ⟨.of hq, fun p hp => g.tup R hz hp⟩⟩
      · rename_i zs ho
        obtain ⟨vs, hq, hz⟩ := R.ob n a _ hn ho
        cases e
        exact call_tuple_of pins s σ H _ us Q I r ⟨a, vs, rfl, .inl ⟨.of hq, fun p hp => g.tup R hz hp⟩⟩
      · cases e
    | _ => cases e
  | dict =>
    refine bi_one (b := .dict) (fun pins s σ H Q ι S d d' S' x us I r R hx e g => ?_) fun d e S => by cases d <;> cases e <;> rfl
    unfold bi1 dicD at e
    simp only at e
    split at e
    · rename_i kvs hk
      obtain ⟨zs, h1, h2⟩ := Option.bind_eq_some_iff.mp hk
      cases e
      obtain ⟨a, vs, rfl, hq, hz⟩ := lst_sq R h1 hx
      obtain ⟨ps, qs, rfl, e2, e3⟩ := pairs_of h2 hz
      exact call_dictP hc pins s σ H _ us Q I r ⟨a, ps, qs, rfl, by rw [hK]; exact hq, by rw [hK]; exact e2, fun p hp => g.dk R (merge_kv e3 .nil) hp⟩
    · cases e
  | int =>
    refine bi_one (b := .int) (fun pins s σ H Q ι S d d' S' x us I r R hx e g => ?_) fun d e S => by cases d <;> cases e <;> rfl
    replace e := giv_eq e
    obtain ⟨e, rfl⟩ := e
    cases d with
    | int i =>
      cases (show x = .int i from hx)
      cases e
      exact call_int1 pins s σ H _ us Q I r (.inl ⟨i, rfl, g.here R rfl⟩)
    | bl k =>
      cases (show x = .bl k from hx)
      cases e
      exact call_int1 pins s σ H _ us Q I r (.inr ⟨k, rfl, g.here R rfl⟩)
    | _ => cases e
  | str =>
    refine bi_one (b := .str) (fun pins s σ H Q ι S d d' S' x us I r R hx e g => ?_) fun d e S => by cases d <;> cases e <;> rfl
    replace e := giv_eq e
    obtain ⟨e, rfl⟩ := e
    cases d with
    | int i =>
      cases (show x = .int i from hx)
      simp only at e
      split at e
      · rename_i hz
        cases e
        exact call_str_int pins s σ H _ us Q I r ⟨i, rfl, hz, g.here R rfl⟩
      · cases e
    | _ => cases e
  | all =>
    refine bi_one (b := .all) (fun pins s σ H Q ι S d d' S' x us I r R hx e g => ?_) fun d e S => by cases d <;> cases e <;> rfl
    replace e := giv_eq e
    obtain ⟨e, rfl⟩ := e
    replace e := Option.map_eq_some_iff.mp e
    obtain ⟨bs, e, rfl⟩ := e
    obtain ⟨zs, e1, e2⟩ := Option.bind_eq_some_iff.mp e
    obtain ⟨a, vs, rfl, hq, hz⟩ := lst_sq R e1 hx
    rw [bools_of e2 hz] at hq
    exact cr_all hc pins s σ H _ us Q I r ⟨a, bs, rfl, by rw [hK]; exact hq, g.here R rfl⟩
  | any =>
    refine bi_one (b := .any) (fun pins s σ H Q ι S d d' S' x us I r R hx e g => ?_) fun d e S => by cases d <;> cases e <;> rfl
    replace e := giv_eq e
    obtain ⟨e, rfl⟩ := e
    replace e := Option.map_eq_some_iff.mp e
    obtain ⟨bs, e, rfl⟩ := e
    obtain ⟨zs, e1, e2⟩ := Option.bind_eq_some_iff.mp e
    obtain ⟨a, vs, rfl, hq, hz⟩ := lst_sq R e1 hx
    rw [bools_of e2 hz] at hq
    exact cr_any hc pins s σ H _ us Q I r ⟨a, bs, rfl, by rw [hK]; exact hq, g.here R rfl⟩
  | sum =>
    refine bi_one (b := .sum) (fun pins s σ H Q ι S d d' S' x us I r R hx e g => ?_) fun d e S => by cases d <;> cases e <;> rfl
    replace e := giv_eq e
    obtain ⟨e, rfl⟩ := e
    replace e := Option.map_eq_some_iff.mp e
    obtain ⟨bs, e, rfl⟩ := e
    obtain ⟨zs, e1, e2⟩ := Option.bind_eq_some_iff.mp e
    obtain ⟨a, vs, rfl, hq, hz⟩ := lst_sq R e1 hx
    rw [ints_of e2 hz] at hq
    exact cr_sum hc pins s σ H _ us Q I r ⟨a, bs, rfl, by rw [hK]; exact hq, g.here R rfl⟩
  | abs =>
    refine bi_one (b := .abs) (fun pins s σ H Q ι S d d' S' x us I r R hx e g => ?_) fun d e S => by cases d <;> cases e <;> rfl
    replace e := giv_eq e
    obtain ⟨e, rfl⟩ := e
    replace e := Option.map_eq_some_iff.mp e
    obtain ⟨i, e, rfl⟩ := e
    cases d with
    | int j =>
      cases (show x = .int j from hx)
      cases e
      exact call_abs pins s σ H _ us Q I r ⟨i, rfl, g.here R rfl⟩
    | _ => cases e
  | max =>
    intro pins s σ H xs us Q I r h
    obtain ⟨ι, S, ds, d, S', R, h1, e, g⟩ := h
    rcases ds with _ | ⟨d1, _ | ⟨d2, _ | ⟨_, _⟩⟩⟩
    · cases e
    · cases e
    · obtain ⟨x, y, rfl, hx, hy⟩ := two_of h1
      cases d1 <;> cases d2 <;> first
        | (cases e; done)
        | (cases (show x = .int _ from hx); cases (show y = .int _ from hy); cases e; exact call_max2 hc pins s σ H _ us Q I r ⟨_, _, rfl, g.here R rfl⟩)
    · cases e
  | min =>
    intro pins s σ H xs us Q I r h
    obtain ⟨ι, S, ds, d, S', R, h1, e, g⟩ := h
    rcases ds with _ | ⟨d1, _ | ⟨d2, _ | ⟨_, _⟩⟩⟩
    · cases e
    · cases e
    · obtain ⟨x, y, rfl, hx, hy⟩ := two_of h1
      cases d1 <;> cases d2 <;> first
        | (cases e; done)
        | (cases (show x = .int _ from hx); cases (show y = .int _ from hy); cases e; exact call_min2 hc pins s σ H _ us Q I r ⟨_, _, rfl, g.here R rfl⟩)
    · cases e
  | _ => exact bi_one (fun pins s σ H Q ι S d d' S' x us I r R hx e g => by cases e) fun d e S => by cases d <;> cases e <;> rfl
end
end PC
end
section
set_option Elab.async false
set_option linter.all false
set_option maxRecDepth 100000
set_option maxHeartbeats 1000000
/-! PC: calls of defs, where nothing is being shown (repr) around. -/
namespace PC
open PySem L2

/-- what a def promises: at most k levels of calls within -/
structure FnG (P : Program) (w : World) (K : PySem.W.Frag) (mg : Str → Option Value) (base : Heap) (k : Nat) (f : Addr) (fd : FuncData) (ps : List Str) (sp : List V → Hp → VK → Prop) : Prop where
  len : ∀ vs H Q, sp vs H Q → vs.length = ps.length
  run : ∀ (A : Around) (outer : List Env) (s : Shared) (H : Hp) (args : Args) (us : List Value) (vs : List V) (Q : VK), Room k A → A.guards = some [] → Env0 P w K mg base A outer s H → BindsTo s fd args (ps.zip us) → Vals vs us → sp vs H Q →
    codeAny (model P w) A (.call (.ref f) args) (CR CX0 outer P w H s Q E0) s

section
variable {X : Cx} {k : Nat} {f : Addr} {fd : FuncData} {ps : List Str} {sp : List V → Hp → VK → Prop} {x : Str} {p pos : Pos} {e : Expr} {es : List Expr} {t : TA}
theorem back_any {env : Env} {pos : Pos} : ∀ {es : List Expr}, es.all notStar = true → (backTo pos (starEach es env)).any (·.1) = false
  | [], _ => rfl
  | e :: r, h => by
    rw [List.all_cons, Bool.and_eq_true] at h
    have ih := back_any (env := env) (pos := pos) h.2
    cases e <;> first
      | exact ih
      | cases h.1
theorem star_cons {env : Env} (h : notStar e = true) : starEach (e :: es) env = (false, eval e env) :: starEach es env := by
  cases e <;> first
    | rfl
    | cases h
/-- the call's end, in the caller's hand -/
theorem back_fn {pins : List (Addr × Obj)} {σ : L2.St} {H : Hp} {s : Shared} {Q : VK} (I : L2.Inv X pins σ H s) {r : Result} {s' : Shared} (h : CR CX0 X.stack X.prog X.w H s Q E0 r s') : ∃ u, r = .ok (.ret u) ∧ EP X pins σ Q u s' := by
  rcases r with e | (_ | _ | _ | u)
  · exact False.elim h
  · exact False.elim h
  · exact False.elim h
  · exact False.elim h
  · exact ⟨u, rfl, I.after h⟩
theorem run_fnG {pins : List (Addr × Obj)} {σ : L2.St} {H : Hp} {s : Shared} {Q : VK} {us : List Value} {vs : List V} (F : FnG X.prog X.w X.K X.mg X.base k f fd ps sp) (hr : Room k X.A) (hg : X.A.guards = some []) (hb : Binds X.K fd ps [])
    (I : L2.Inv X pins σ H s) (r : Vals vs us) (h : sp vs H Q) : wpAny (model X.prog X.w) X.A (PySem.call (.ref f) us) (EP X pins σ Q) X.xe s := by
  have hl : (us ++ []).length = ps.length := by rw [List.append_nil, ← r.length, F.len _ _ _ h]
  have b := hb s us I.kIn hl
  rw [List.append_nil] at b
  refine wpAny_call (codeAny_mono (F.run X.A X.stack s H ⟨us, []⟩ us vs Q hr hg I.env0 b r h) fun r s' hq => ?_)
  obtain ⟨u, rfl, q⟩ := back_fn I hq
  exact q
theorem pe_callG (F : FnG X.prog X.w X.K X.mg X.base k f fd ps sp) (hr : Room k X.A) (hgd : X.A.guards = some []) (hg : Gl X x) (hm : X.mg x = some (.ref f)) (hk : PySem.W.keepIn X.K (.ref f) = true) (hb : Binds X.K fd ps [])
    (ha : PA X (e :: es) t) (hs : (e :: es).all notStar = true) (hdb : (x == ("__debug__" : Str)) = false) : PE X (.Call (.Name x p) (e :: es) [] pos) (tCB sp t) := by
  refine ⟨fun pins s σ H Q I h => wpAny_Call_Name_kw (ld_glob I hg hm ?_ hdb)⟩
  rw [List.all_cons, Bool.and_eq_true] at hs
  refine PySem.W.callWith_K (h₀ := X.base) I.ok.mod.kin hk (thn (ha.run pos pins s σ H _ I h) fun us s1 ⟨vs, H1, I1, r, q⟩ => ⟨I1.kIn, ?_⟩) (star_cons hs.1) (back_any hs.2)
  exact run_fnG F hr hgd hb I1 r q
theorem pe_callG0 (F : FnG X.prog X.w X.K X.mg X.base k f fd ps sp) (hr : Room k X.A) (hgd : X.A.guards = some []) (hg : Gl X x) (hm : X.mg x = some (.ref f)) (hk : PySem.W.keepIn X.K (.ref f) = true) (hb : Binds X.K fd ps [])
    (hdb : (x == ("__debug__" : Str)) = false) : PE X (.Call (.Name x p) [] [] pos) (fun _ H Q => sp [] H Q) := by
  refine ⟨fun pins s σ H Q I h => wpAny_Call_Name_kw (ld_glob I hg hm ?_ hdb)⟩
  exact PySem.W.callWith_K0 I.kIn hk (run_fnG F hr hgd hb I .nil h)
/-- a call by places and names (or with some left out): how the parameters are bound -/
def KB (K : PySem.W.Frag) (fd : FuncData) (ps : List Str) (many : Nat) (ns : List Str) (ix : List Nat) (dv : List V) : Prop :=
  ∀ (s : Shared) (us ws : List Value), K.In s.heap → us.length = many → ws.length = ns.length → ∃ (dw zs : List Value), Vals dv dw ∧ optMap (fun i => (us ++ ws ++ dw)[i]?) ix = some zs ∧ BindsTo s fd ⟨us, ns.zip ws⟩ (ps.zip zs)
theorem pick_vals : ∀ {ix : List Nat} {vs : List V} {us zs : List Value}, Vals vs us → optMap (fun i => us[i]?) ix = some zs → ∃ ys, optMap (fun i => vs[i]?) ix = some ys ∧ Vals ys zs
  | [], _, _, _, _, h => by cases h; exact ⟨[], rfl, .nil⟩
  | i :: r, vs, us, _, hv, h => by
    obtain ⟨y, ys, rfl, h1, h2⟩ := optMap_cons h
    obtain ⟨zs, e, q⟩ := pick_vals hv h2
    have hl := hv.length
    have hi : i < vs.length := by
      rw [hl]
      exact (List.getElem?_eq_some_iff.mp h1).1
    obtain ⟨u, h3, h4⟩ := hv.get (List.getElem?_eq_getElem hi)
    have h1' : us[i]? = some y := h1
    rw [h3] at h1'
    cases h1'
    refine ⟨vs[i] :: zs, ?_, .cons h4 q⟩
    simp only [optMap, e, List.getElem?_eq_getElem hi]
theorem run_fnK {pins : List (Addr × Obj)} {σ : L2.St} {H : Hp} {s : Shared} {Q : VK} {us ws : List Value} {vs zs dv : List V} {many : Nat} {ns : List Str} {ix : List Nat} (F : FnG X.prog X.w X.K X.mg X.base k f fd ps sp) (hr : Room k X.A) (hg : X.A.guards = some [])
    (hb : KB X.K fd ps many ns ix dv) (I : L2.Inv X pins σ H s) (r : Vals vs us) (rz : Vals zs ws) (h1 : vs.length = many) (h2 : zs.length = ns.length) (h : ∀ ys, optMap (fun i => (vs ++ zs ++ dv)[i]?) ix = some ys → sp ys H Q) :
    wpAny (model X.prog X.w) X.A (PySem.call (.ref f) us (ns.zip ws)) (EP X pins σ Q) X.xe s := by
  obtain ⟨dw, xs, hd, hx, b⟩ := hb s us ws I.kIn (by rw [← r.length, h1]) (by rw [← rz.length, h2])
  obtain ⟨ys, e, q⟩ := pick_vals ((r.append rz).append hd) hx
  refine wpAny_call (codeAny_mono (F.run X.A X.stack s H ⟨us, ns.zip ws⟩ xs ys Q hr hg I.env0 b q (h ys e)) fun r s' hq => ?_)
  obtain ⟨u, rfl, q⟩ := back_fn I hq
  exact q
end
end PC
end
section
set_option Elab.async false
set_option linter.all false
set_option maxRecDepth 100000
set_option maxHeartbeats 1000000
/-! PC: what loops walk over. -/
namespace PC
open PySem L2
section
variable {W : Wd} {ι ι' ι1 ι2 : List Addr} {S S' S0 S1 S2 : Sto} {H H' H1 H2 : Hp}
theorem froz_len (S : Sto) (n : Nat) : (froz S n).length = S.length := by
  unfold froz
  split
  · rw [List.length_set]
  · rfl
theorem frozL_len : ∀ (st : List Nat) (S : Sto), (st.foldl froz S).length = S.length
  | [], _ => rfl
  | n :: st, S => by rw [List.foldl_cons, frozL_len st, froz_len]
theorem froz_at (S : Sto) (n m : Nat) : (froz S n)[m]? = S[m]? ∨ ∃ xs, m = n ∧ S[m]? = some (.lst xs) ∧ (froz S n)[m]? = some (.fro xs) := by
  unfold froz
  split
  · rename_i xs h
    by_cases e : m = n
    · subst e
      refine .inr ⟨xs, rfl, h, ?_⟩
      rw [List.getElem?_set_self (List.getElem?_eq_some_iff.mp h).1]
    · exact .inl (List.getElem?_set_ne (Ne.symm e))
  · exact .inl rfl
theorem frozL_at : ∀ (st : List Nat) (S : Sto) (m : Nat), (st.foldl froz S)[m]? = S[m]? ∨ ∃ xs, m ∈ st ∧ S[m]? = some (.lst xs) ∧ (st.foldl froz S)[m]? = some (.fro xs)
  | [], _, _ => .inl rfl
  | n :: st, S, m => by
    rw [List.foldl_cons]
    rcases frozL_at st (froz S n) m with e | ⟨xs, h1, h2, h3⟩
    · rcases froz_at S n m with e' | ⟨xs, rfl, e1, e2⟩
      · exact .inl (e.trans e')
      · exact .inr ⟨xs, List.mem_cons_self, e1, e.trans e2⟩
    · rcases froz_at S n m with e' | ⟨ys, rfl, e1, e2⟩
      · exact .inr ⟨xs, List.mem_cons_of_mem _ h1, e' ▸ h2, h3⟩
      · rw [e2] at h2
        cases h2
theorem frozL_fz {st : List Nat} {m : Nat} (h : Fz S[m]?) : (st.foldl froz S)[m]? = S[m]? := by
  rcases frozL_at st S m with e | ⟨xs, _, e, _⟩
  · exact e
  · rw [e] at h
    exact h.elim
theorem froz_lst {n : Nat} {xs : List D} (h : S[n]? = some (.lst xs) ∨ S[n]? = some (.fro xs)) : (froz S n)[n]? = some (.fro xs) := by
  unfold froz
  rcases h with h | h
  · rw [h]
    simp only
    rw [List.getElem?_set_self (List.getElem?_eq_some_iff.mp h).1]
  · rw [h]
    exact h
theorem frozL_fro : ∀ {st : List Nat} {S : Sto} {n : Nat} {xs : List D}, n ∈ st → (S[n]? = some (.lst xs) ∨ S[n]? = some (.fro xs)) → (st.foldl froz S)[n]? = some (.fro xs)
  | m :: st, S, n, xs, hm, h => by
    rw [List.foldl_cons]
    by_cases e : n = m
    · subst e
      have h1 := froz_lst h
      rw [frozL_fz (by rw [h1]; trivial), h1]
    · refine frozL_fro (by
        rcases List.mem_cons.mp hm with z | z
        · exact absurd z e
        · exact z) ?_
      rcases froz_at S m n with e' | ⟨_, z, _⟩
      · rw [e']
        exact h
      · exact absurd z e
theorem Rep.froz1 (R : Rep W ι S H) (n : Nat) : Rep W ι (froz S n) H := by
  refine ⟨by rw [froz_len]; exact R.len, R.nd, fun m a o h1 h2 => ?_, R.tab⟩
  rcases froz_at S n m with e | ⟨xs, rfl, e1, e2⟩
  · exact R.ob m a o h1 (e ▸ h2)
  · rw [e2] at h2
    cases h2
    have q : OV W ι H a (.lst xs) := R.ob m a _ h1 e1
    exact q
theorem Rep.froz : ∀ {st : List Nat} {S : Sto}, Rep W ι S H → Rep W ι (st.foldl froz S) H
  | [], _, R => R
  | n :: st, S, R => by
    rw [List.foldl_cons]
    exact Rep.froz (R.froz1 n)
theorem thaw_len (S0 S : Sto) (n : Nat) : (thaw S0 S n).length = S.length := by
  unfold thaw
  split
  · rw [List.length_set]
  · rfl
theorem thaw_at (S0 S : Sto) (n m : Nat) : (thaw S0 S n)[m]? = S[m]? ∨ ∃ xs, m = n ∧ S0[m]? = some (.lst xs) ∧ (thaw S0 S n)[m]? = some (.lst xs) ∧ m < S.length := by
  unfold thaw
  split
  · rename_i xs h
    by_cases e : m = n
    · subst e
      by_cases hl : m < S.length
      · exact .inr ⟨xs, rfl, h, List.getElem?_set_self hl, hl⟩
      · refine .inl ?_
        rw [List.set_eq_of_length_le (by omega)]
    · exact .inl (List.getElem?_set_ne (Ne.symm e))
  · exact .inl rfl
theorem Rep.thaw1 {n : Nat} (R : Rep W ι S H) (h : ∀ xs, S0[n]? = some (.lst xs) → S[n]? = some (.fro xs) ∨ S[n]? = some (.lst xs)) : Rep W ι (thaw S0 S n) H := by
  refine ⟨by rw [thaw_len]; exact R.len, R.nd, fun m a o h1 h2 => ?_, R.tab⟩
  rcases thaw_at S0 S n m with e | ⟨xs, rfl, e1, e2, _⟩
  · exact R.ob m a o h1 (e ▸ h2)
  · rw [e2] at h2
    cases h2
    rcases h xs e1 with q | q
    · have z : OV W ι H a (.fro xs) := R.ob m a _ h1 q
      exact z
    · exact R.ob m a _ h1 q
theorem Rep.thaw : ∀ {st : List Nat} {S : Sto}, Rep W ι S H → (∀ m xs, m ∈ st → S0[m]? = some (.lst xs) → S[m]? = some (.fro xs) ∨ S[m]? = some (.lst xs)) → Rep W ι (st.foldl (thaw S0) S) H
  | [], _, R, _ => R
  | n :: st, S, R, h => by
    rw [List.foldl_cons]
    refine Rep.thaw (R.thaw1 fun xs => h n xs List.mem_cons_self) fun m xs hm e => ?_
    rcases thaw_at S0 S n m with e' | ⟨ys, rfl, e1, e2, _⟩
    · rw [e']
      exact h m xs (List.mem_cons_of_mem _ hm) e
    · rw [e] at e1
      cases e1
      exact .inr e2
theorem thawL_fz : ∀ {st : List Nat} {S : Sto} {m : Nat}, Fz S0[m]? → (st.foldl (thaw S0) S)[m]? = S[m]?
  | [], _, _, _ => rfl
  | n :: st, S, m, h => by
    rw [List.foldl_cons, thawL_fz h]
    rcases thaw_at S0 S n m with e' | ⟨ys, rfl, e1, e2, _⟩
    · exact e'
    · rw [e1] at h
      exact h.elim
/-- a loop's end: the lists that stood still may change again -/
theorem loop_end {st : List Nat} (E : Ext ι1 (st.foldl froz S1) H1 ι2 S2 H2) (R : Rep W ι2 S2 H2) : Rep W ι2 (st.foldl (thaw S1) S2) H2 ∧ Ext ι1 S1 H1 ι2 (st.foldl (thaw S1) S2) H2 := by
  refine ⟨R.thaw fun m xs hm e => ?_, ⟨E.pre, fun a o h nt k => E.keep a o h nt fun hm => ?_, fun n h => ?_⟩⟩
  · have q := frozL_fro hm (.inl e)
    exact .inl ((E.fr m (by rw [q]; trivial)).trans q)
  · obtain ⟨n, hn, hf⟩ := k hm
    exact ⟨n, hn, by rw [frozL_fz hf]; exact hf⟩
  · rw [thawL_fz h]
    have q : Fz (st.foldl froz S1)[n]? := by rw [frozL_fz h]; exact h
    exact (E.fr n q).trans (frozL_fz h)
theorem fr_refl {st : List Nat} : Ext ι S H ι (st.foldl froz S) H := by
  refine ⟨⟨[], by simp, by simp⟩, fun a o h _ _ => h, fun n h => frozL_fz h⟩

/-! ### the walks -/
/-- J gives the items xs, whatever goes on that leaves the frozen lists -/
def WkD (W : Wd) (J : It) (xs : List D) (ι1 : List Addr) (S1 : Sto) (H1 : Hp) : Prop :=
  ∃ (G : Hp → Prop) (Y : Nat → Hp → V → Hp → Prop), L2.Walk J xs.length G Y ∧ ∀ ι S H, Ext ι1 S1 H1 ι S H → Rep W ι S H → G H ∧ ∀ i x H', i < xs.length → Y i H x H' →
    Rep W ι S H' ∧ Ext ι S H ι S H' ∧ ∃ d, xs[i]? = some d ∧ DV W ι H' d x
theorem wk_list {a : Addr} {n : Nat} {xs : List D} {vs : List V} (R1 : Rep W ι1 S1 H1) (ha : ι1[n]? = some a) (hs : S1[n]? = some (.fro xs)) (hv : H1 a = some (.lst vs)) (hd : DVs W ι1 H1 xs vs) : WkD W (Itl W.K a) xs ι1 S1 H1 := by
  refine ⟨_, _, (DVs.length hd) ▸ walk_list (K := W.K) (a := a) (xs := vs), fun ι S H E R => ⟨?_, fun i x H' hi hy => ?_⟩⟩
  · exact .of (E.keep a _ hv (fun ps z => nomatch z) fun _ => ⟨n, ha, by rw [hs]; trivial⟩)
  · obtain ⟨rfl, e⟩ := hy
    refine ⟨R, .refl, ?_⟩
    obtain ⟨v, h1, h2⟩ := DVs.get (DVs.mono E R1 _ _ hd) (List.getElem?_eq_getElem hi)
    rw [h1] at e
    cases e
    exact ⟨_, List.getElem?_eq_getElem hi, h2⟩
theorem wk_const {a : Addr} {xs : List D} {vs : List V} (R1 : Rep W ι1 S1 H1) (hv : ∀ ι S H, Ext ι1 S1 H1 ι S H → SqL W.K H a vs) (hd : DVs W ι1 H1 xs vs) : WkD W (Itl W.K a) xs ι1 S1 H1 := by
  refine ⟨_, _, (DVs.length hd) ▸ walk_list (K := W.K) (a := a) (xs := vs), fun ι S H E R => ⟨hv _ _ _ E, fun i x H' hi hy => ?_⟩⟩
  obtain ⟨rfl, e⟩ := hy
  refine ⟨R, .refl, ?_⟩
  obtain ⟨v, h1, h2⟩ := DVs.get (DVs.mono E R1 _ _ hd) (List.getElem?_eq_getElem hi)
  rw [h1] at e
  cases e
  exact ⟨_, List.getElem?_eq_getElem hi, h2⟩
theorem wk_tup {a : Addr} {xs : List D} {vs : List V} (R1 : Rep W ι1 S1 H1) (hv : SqT W.K H1 a vs) (hd : DVs W ι1 H1 xs vs) : WkD W (Itt W.K a) xs ι1 S1 H1 := by
  refine ⟨_, _, (DVs.length hd) ▸ walk_tup (K := W.K) (a := a) (xs := vs), fun ι S H E R => ⟨E.tup R1 hv, fun i x H' hi hy => ?_⟩⟩
  obtain ⟨rfl, e⟩ := hy
  refine ⟨R, .refl, ?_⟩
  obtain ⟨v, h1, h2⟩ := DVs.get (DVs.mono E R1 _ _ hd) (List.getElem?_eq_getElem hi)
  rw [h1] at e
  cases e
  exact ⟨_, List.getElem?_eq_getElem hi, h2⟩
theorem wk_str {z : Str} : WkD W (Its z) (z.cps.toList.map fun c => .str ⟨#[c]⟩) ι1 S1 H1 := by
  have hl : (z.cps.toList.map fun c => (D.str ⟨#[c]⟩)).length = z.cps.size := by simp
  refine ⟨_, _, hl ▸ walk_str (z := z), fun ι S H E R => ⟨trivial, fun i x H' hi hy => ?_⟩⟩
  obtain ⟨rfl, c, e, rfl⟩ := hy
  refine ⟨R, .refl, .str ⟨#[c]⟩, ?_, rfl⟩
  rw [List.getElem?_map]
  simp [e]
theorem wk_range {lo : Int} {n : Nat} : WkD W (Itr lo n) ((List.range n).map fun (k : Nat) => .int (lo + k)) ι1 S1 H1 := by
  have hl : ((List.range n).map fun (k : Nat) => D.int (lo + k)).length = n := by simp
  refine ⟨fun _ => True, YFn fun i => .int (lo + i), by rw [hl]; exact walk_range, fun ι S H E R => ⟨trivial, fun i x H' hi hy => ?_⟩⟩
  obtain ⟨rfl, e⟩ := hy
  refine ⟨R, .refl, .int (lo + i), ?_, e⟩
  rw [List.getElem?_map, List.getElem?_range (by rw [hl] at hi; exact hi)]
  rfl
theorem pair_ok (R : Rep W ι S H) {T : Addr} (hT : H T = none) {d1 d2 : D} {x y : V} (h1 : DV W ι H d1 x) (h2 : DV W ι H d2 y) :
    Rep W ι S (upd H T (.tup [x, y])) ∧ Ext ι S H ι S (upd H T (.tup [x, y])) ∧ DV W ι (upd H T (.tup [x, y])) (.tup [d1, d2]) (.ref T) := by
  obtain ⟨R', E⟩ := R.put hT (.tup [x, y])
  exact ⟨R', E, T, [x, y], rfl, .of upd_same, x, [y], rfl, DV.mono E R _ _ h1, y, [], rfl, DV.mono E R _ _ h2, rfl⟩
theorem wk_enum {a : Addr} {n : Nat} {xs : List D} {vs : List V} (R1 : Rep W ι1 S1 H1) (ha : ι1[n]? = some a) (hs : S1[n]? = some (.fro xs)) (hv : H1 a = some (.lst vs)) (hd : DVs W ι1 H1 xs vs) :
    WkD W (Ite W.K a) (xs.zipIdx.map fun (x, k) => .tup [.int k, x]) ι1 S1 H1 := by
  have hl : (xs.zipIdx.map fun ((x, k) : D × Nat) => D.tup [.int k, x]).length = vs.length := by simp [DVs.length hd]
  refine ⟨_, _, hl.symm ▸ walk_enum (K := W.K) (a := a) (xs := vs), fun ι S H E R => ⟨?_, fun i x H' hi hy => ?_⟩⟩
  · exact .of (E.keep a _ hv (fun ps z => nomatch z) fun _ => ⟨n, ha, by rw [hs]; trivial⟩)
  · obtain ⟨T, x1, y1, rfl, hT, rfl, e1, e2⟩ := hy
    have hi' : i < xs.length := by simpa using hi
    obtain ⟨v, h1, h2⟩ := DVs.get (DVs.mono E R1 _ _ hd) (List.getElem?_eq_getElem hi')
    rw [show vs[i]? = some y1 from e2] at h1
    cases h1
    cases (show some (V.int (i : Nat)) = some x1 from e1)
    obtain ⟨q1, q2, q3⟩ := pair_ok R hT (d1 := .int i) (x := .int i) rfl h2
    refine ⟨q1, q2, _, ?_, q3⟩
    rw [List.getElem?_map, List.getElem?_zipIdx, List.getElem?_eq_getElem hi']
    simp
theorem wk_zip {a b : Addr} {n m : Nat} {xs ys : List D} {vs ws : List V} (R1 : Rep W ι1 S1 H1) (ha : ι1[n]? = some a) (hs : S1[n]? = some (.fro xs)) (hv : H1 a = some (.lst vs)) (hd : DVs W ι1 H1 xs vs)
    (hb : ι1[m]? = some b) (hs' : S1[m]? = some (.fro ys)) (hv' : H1 b = some (.lst ws)) (hd' : DVs W ι1 H1 ys ws) :
    WkD W (Itz W.K a b) (List.zipWith (fun x y => .tup [x, y]) xs ys) ι1 S1 H1 := by
  have hl : (List.zipWith (fun x y => D.tup [x, y]) xs ys).length = min vs.length ws.length := by simp [DVs.length hd, DVs.length hd']
  refine ⟨_, _, hl.symm ▸ walk_zip (K := W.K) (a := a) (b := b) (xs := vs) (ys := ws) rfl, fun ι S H E R => ⟨⟨SqL.of (E.keep a _ hv (fun ps z => nomatch z) fun _ => ⟨n, ha, by rw [hs]; trivial⟩), SqL.of (E.keep b _ hv' (fun ps z => nomatch z) fun _ => ⟨m, hb, by rw [hs']; trivial⟩)⟩, fun i x H' hi hy => ?_⟩⟩
  · obtain ⟨T, x1, y1, rfl, hT, rfl, e1, e2⟩ := hy
    have hi1 : i < xs.length := by
      have : i < min xs.length ys.length := by simpa using hi
      omega
    have hi2 : i < ys.length := by
      have : i < min xs.length ys.length := by simpa using hi
      omega
    obtain ⟨v, h1, h2⟩ := DVs.get (DVs.mono E R1 _ _ hd) (List.getElem?_eq_getElem hi1)
    obtain ⟨w, h3, h4⟩ := DVs.get (DVs.mono E R1 _ _ hd') (List.getElem?_eq_getElem hi2)
    rw [show vs[i]? = some x1 from e1] at h1
    rw [show ws[i]? = some y1 from e2] at h3
    cases h1
    cases h3
    obtain ⟨q1, q2, q3⟩ := pair_ok R hT h2 h4
    refine ⟨q1, q2, _, ?_, q3⟩
    rw [List.getElem?_zipWith, List.getElem?_eq_getElem hi1, List.getElem?_eq_getElem hi2]
end
end PC
end
section
set_option Elab.async false
set_option linter.all false
set_option maxRecDepth 100000
set_option maxHeartbeats 1000000
/-! PC: what expressions are shown to do. -/
namespace PC
open PySem L2

/-! ### lambdas: lent to a call -/
/-- the object at a is o -/
def ObO (a : Addr) (o : Obj) : HO := .ext fun h => h.get? a = some o
abbrev lamObj (I : LmI) (cl : List (Str × Addr)) (pm : Value) (c : Addr) (ct : Value) : Obj := PySem.W.kla_obj "<lambda>" I.qual I.params I.body I.scope cl pm c ct
structure CellsV (H : Hp) (cl : List (Str × Addr)) (fr : List Str) (vs : List V) : Prop where
  len : vs.length = fr.length
  inj : ∀ x y c, cl.lookup x = some c → cl.lookup y = some c → x = y
  all : ∀ y c, cl.lookup y = some c → ∃ o v, H c = some (ObO c o) ∧ o.data = .cell v
  at_ : ∀ (i : Nat) y x, fr[i]? = some y → vs[i]? = some x → ∃ c o u, cl.lookup y = some c ∧ H c = some (ObO c o) ∧ o.data = .cell (some u) ∧ RelV x u
def LamV (W : Wd) (ι : List Addr) (H : Hp) (l : Nat) (cs : List D) (f : Addr) : Prop :=
  ∃ (I : LmI) (c : Addr) (cl : List (Str × Addr)) (pm ct : Value) (vs : List V), W.lm l = some I ∧ H f = some (ObO f (lamObj I cl pm c ct)) ∧ H c = some (LamX.CodeO c I.qual) ∧ (∀ y x, cl.lookup y = some x → x ≠ f ∧ x ≠ c) ∧ DVs W ι H cs vs ∧ CellsV H cl I.fr vs
/-- a value that a slot may hold: or a lambda -/
def DX (W : Wd) (ι : List Addr) (H : Hp) (d : D) (v : V) : Prop := DV W ι H d v ∨ ∃ l cs f, d = .lam l cs ∧ v = .ref f ∧ LamV W ι H l cs f
def DXs (W : Wd) (ι : List Addr) (H : Hp) : List D → List V → Prop
  | [], vs => vs = []
  | d :: ds, vs => ∃ v r, vs = v :: r ∧ DX W ι H d v ∧ DXs W ι H ds r
section
variable {W : Wd} {ι ι' : List Addr} {S S' : Sto} {H H' : Hp}
theorem Ext.ext (E : Ext ι S H ι' S' H') (R : Rep W ι S H) {a : Addr} {φ : Heap → Prop} (h : H a = some (.ext φ)) : H' a = some (.ext φ) := E.keep a _ h (fun ps z => nomatch z) fun z => by
  obtain ⟨u, e, q⟩ := R.mem z
  rw [h] at e
  cases e
  exact q.elim
theorem CellsV.mono (E : Ext ι S H ι' S' H') (R : Rep W ι S H) {cl : List (Str × Addr)} {fr : List Str} {vs : List V} (h : CellsV H cl fr vs) : CellsV H' cl fr vs :=
  ⟨h.len, h.inj, fun y c q => by
    obtain ⟨o, v, h1, h2⟩ := h.all y c q
    exact ⟨o, v, E.ext R h1, h2⟩, fun i y x q1 q2 => by
    obtain ⟨c, o, u, h1, h2, h3, h4⟩ := h.at_ i y x q1 q2
    exact ⟨c, o, u, h1, E.ext R h2, h3, h4⟩⟩
theorem LamV.mono (E : Ext ι S H ι' S' H') (R : Rep W ι S H) {l : Nat} {cs : List D} {f : Addr} (h : LamV W ι H l cs f) : LamV W ι' H' l cs f := by
  obtain ⟨I, c, cl, pm, ct, vs, h1, h2, h3, h4, h5, h6⟩ := h
  exact ⟨I, c, cl, pm, ct, vs, h1, E.ext R h2, E.ext R h3, h4, DVs.mono E R _ _ h5, h6.mono E R⟩
theorem DX.mono (E : Ext ι S H ι' S' H') (R : Rep W ι S H) {d : D} {v : V} (h : DX W ι H d v) : DX W ι' H' d v := by
  rcases h with h | ⟨l, cs, f, h1, h2, h3⟩
  · exact .inl (DV.mono E R _ _ h)
  · exact .inr ⟨l, cs, f, h1, h2, h3.mono E R⟩
theorem DX.dv {d : D} {v : V} (h : DX W ι H d v) (hd : isLam d = false) : DV W ι H d v := by
  rcases h with h | ⟨l, cs, f, rfl, _⟩
  · exact h
  · cases hd
theorem DXs.of : ∀ {ds : List D} {vs : List V}, DVs W ι H ds vs → DXs W ι H ds vs
  | [], _, h => h
  | d :: ds, _, ⟨v, r, e, h, q⟩ => ⟨v, r, e, .inl h, DXs.of q⟩
theorem DXs.snoc {d : D} {v : V} (hd : DX W ι H d v) : ∀ {ds : List D} {vs : List V}, DVs W ι H ds vs → DXs W ι H (ds ++ [d]) (vs ++ [v])
  | [], _, h => by
    rw [show _ = [] from h]
    exact ⟨v, [], rfl, hd, rfl⟩
  | d' :: ds, _, ⟨v', r, e, h, q⟩ => by
    subst e
    exact ⟨v', r ++ [v], rfl, .inl h, DXs.snoc hd q⟩
theorem DXs.length : ∀ {ds : List D} {vs : List V}, DXs W ι H ds vs → ds.length = vs.length
  | [], _, h => by rw [show _ = [] from h]; rfl
  | d :: ds, _, ⟨v, r, e, _, q⟩ => by rw [e, List.length_cons, List.length_cons, DXs.length q]
theorem DXs.get : ∀ {ds : List D} {vs : List V} {i : Nat} {d : D}, DXs W ι H ds vs → ds[i]? = some d → ∃ v, vs[i]? = some v ∧ DX W ι H d v
  | [], _, _, _, _, h => by simp at h
  | d :: ds, _, 0, x, ⟨v, r, e, h, q⟩, hx => by
    subst e
    simp at hx
    subst hx
    exact ⟨v, rfl, h⟩
  | d :: ds, _, i + 1, x, ⟨v, r, e, h, q⟩, hx => by
    subst e
    obtain ⟨y, h1, h2⟩ := DXs.get q (show ds[i]? = some x by simpa using hx)
    exact ⟨y, by simpa using h1, h2⟩
end
/-! ### slots -/
def EnV (W : Wd) (ι : List Addr) (H : Hp) (e : En) (σ : L2.St) : Prop := e.length = σ.length ∧ ∀ (i : Nat) d, e[i]? = some (some d) → ∃ v, σ[i]? = some (some v) ∧ DX W ι H d v
section
variable {W : Wd} {ι ι' ι1 ι2 : List Addr} {S S' S0 S1 S2 : Sto} {H H' H1 H2 : Hp} {e e' : En} {σ σ' : L2.St}
theorem EnV.mono (E : Ext ι S H ι' S' H') (R : Rep W ι S H) (h : EnV W ι H e σ) : EnV W ι' H' e σ := ⟨h.1, fun i d q => by
  obtain ⟨v, h1, h2⟩ := h.2 i d q
  exact ⟨v, h1, h2.mono E R⟩⟩
theorem EnV.set {i : Nat} {d : D} {v : V} (h : EnV W ι H e σ) (hd : DV W ι H d v) : EnV W ι H (e.set i (some d)) (σ.set i (some v)) := by
  refine ⟨by rw [List.length_set, List.length_set]; exact h.1, fun j x q => ?_⟩
  by_cases hj : i = j
  · subst hj
    by_cases hl : i < e.length
    · rw [List.getElem?_set_self hl] at q
      cases q
      exact ⟨v, List.getElem?_set_self (by rw [← h.1]; exact hl), .inl hd⟩
    · rw [List.getElem?_eq_none (by rw [List.length_set]; omega)] at q
      cases q
  · rw [List.getElem?_set_ne hj] at q
    rw [List.getElem?_set_ne hj]
    exact h.2 j x q
theorem EnV.del {i : Nat} (h : EnV W ι H e σ) : EnV W ι H (e.set i none) (σ.set i none) := by
  refine ⟨by rw [List.length_set, List.length_set]; exact h.1, fun j x q => ?_⟩
  by_cases hj : i = j
  · subst hj
    by_cases hl : i < e.length
    · rw [List.getElem?_set_self hl] at q
      cases q
    · rw [List.getElem?_eq_none (by rw [List.length_set]; omega)] at q
      cases q
  · rw [List.getElem?_set_ne hj] at q
    rw [List.getElem?_set_ne hj]
    exact h.2 j x q
theorem EnV.wipe (h : EnV W ι H e σ) : ∀ own : List Nat, EnV W ι H (PC.wipe e own) (L2.wipe σ own)
  | [] => h
  | v :: vs => EnV.del (EnV.wipe h vs)
end

/-! ### readings -/
def GdA (W : Wd) (ι : List Addr) (S : Sto) (H : Hp) (S' : Sto) (ds : List D) (Q : List V → Hp → Prop) : Prop := ∀ ι' H' vs, Ext ι S H ι' S' H' → Rep W ι' S' H' → DVs W ι' H' ds vs → Q vs H'
def GdX (W : Wd) (ι : List Addr) (S : Sto) (H : Hp) (S' : Sto) (Q : Hp → Prop) : Prop := ∀ ι' H', Ext ι S H ι' S' H' → Rep W ι' S' H' → Q H'
section
variable (W : Wd) (C : Cal)
def rdE (c : CE) : TE := fun σ H Q => ∃ ι S e d S', Rep W ι S H ∧ EnV W ι H e σ ∧ evE C c e S = some (d, S') ∧ Gd W ι S H S' d Q
def rdT (c : CE) : TT := fun σ H Q => ∃ ι S e b S', Rep W ι S H ∧ EnV W ι H e σ ∧ tstE C c e S = some (b, S') ∧ GdX W ι S H S' (Q b)
def rdA (cs : CEs) : TA := fun σ H Q => ∃ ι S e ds S', Rep W ι S H ∧ EnV W ι H e σ ∧ evEs C cs e S = some (ds, S') ∧ GdA W ι S H S' ds Q
def rdO (c : CO) : TO := fun σ H Q => ∃ ι S e o S', Rep W ι S H ∧ EnV W ι H e σ ∧ evO C c e S = some (o, S') ∧ GdX W ι S H S' (Q o)
def rdTs (cs : CEs) : TT := fun σ H Q => ∃ ι S e b S', Rep W ι S H ∧ EnV W ι H e σ ∧ tstEs C cs e S = some (b, S') ∧ GdX W ι S H S' (Q b)
/-- a def by its number -/
def spF (f : Nat) : List V → Hp → VK → Prop := fun vs H Q => ∃ ι S ds d S', Rep W ι S H ∧ DXs W ι H ds vs ∧ C.fn f ds S = some (d, S') ∧ Gd W ι S H S' d Q
end
theorem bnd_some {α β : Type} {m : Re α} {k : α → Sto → Re β} {r : β × Sto} (h : bnd m k = some r) : ∃ a S, m = some (a, S) ∧ k a S = some r := by
  unfold bnd at h
  split at h
  · exact ⟨_, _, rfl, h⟩
  · cases h
section
variable {W : Wd} {C : Cal} {ι ι' ι1 ι2 : List Addr} {S S' S0 S1 S2 : Sto} {H H' H1 H2 : Hp} {e e' : En} {σ σ' : L2.St} {X : Cx}
theorem Gd.thru {d : D} {Q : VK} (g : Gd W ι S H S2 d Q) (E : Ext ι S H ι1 S1 H1) (R : Rep W ι1 S1 H1) : Gd W ι1 S1 H1 S2 d Q := fun ι' H' v E' R' hv => g ι' H' v (E.trans R E') R' hv
theorem GdA.thru {d : List D} {Q : List V → Hp → Prop} (g : GdA W ι S H S2 d Q) (E : Ext ι S H ι1 S1 H1) (R : Rep W ι1 S1 H1) : GdA W ι1 S1 H1 S2 d Q := fun ι' H' v E' R' hv => g ι' H' v (E.trans R E') R' hv
theorem GdX.thru {Q : Hp → Prop} (g : GdX W ι S H S2 Q) (E : Ext ι S H ι1 S1 H1) (R : Rep W ι1 S1 H1) : GdX W ι1 S1 H1 S2 Q := fun ι' H' E' R' => g ι' H' (E.trans R E') R'
theorem GdX.here {Q : Hp → Prop} (g : GdX W ι S H S Q) (R : Rep W ι S H) : Q H := g ι H .refl R
theorem _root_.L2.PE.w {ex : Expr} {t t' : TE} (h : PE X ex t) (k : ∀ σ H Q, t' σ H Q → t σ H Q) : PE X ex t' := ⟨fun pins s σ H Q I q => h.run pins s σ H Q I (k σ H Q q)⟩
theorem _root_.L2.PT.w {ex : Expr} {t t' : TT} (h : PT X ex t) (k : ∀ σ H Q, t' σ H Q → t σ H Q) : PT X ex t' := ⟨fun pins s σ H Q I q => h.run pins s σ H Q I (k σ H Q q)⟩
theorem _root_.L2.PW.w {ex : Expr} {t t' : TT} (h : PW X ex t) (k : ∀ σ H Q, t' σ H Q → t σ H Q) : PW X ex t' := ⟨fun wh pins s σ H Q I q => h.run wh pins s σ H Q I (k σ H Q q)⟩
theorem _root_.L2.PA.w {ex : List Expr} {t t' : TA} (h : PA X ex t) (k : ∀ σ H Q, t' σ H Q → t σ H Q) : PA X ex t' := ⟨fun pos pins s σ H Q I q => h.run pos pins s σ H Q I (k σ H Q q)⟩
theorem _root_.L2.PK.w {ex : List Keyword} {t t' : TA} (h : PK X ex t) (k : ∀ σ H Q, t' σ H Q → t σ H Q) : PK X ex t' := ⟨fun pos pins s σ H Q I q => h.run pos pins s σ H Q I (k σ H Q q)⟩
theorem _root_.L2.PO.w {ex : Option Expr} {t t' : TO} (h : PO X ex t) (k : ∀ σ H Q, t' σ H Q → t σ H Q) : PO X ex t' := ⟨fun pins s σ H Q I q => h.run pins s σ H Q I (k σ H Q q)⟩
theorem _root_.L2.PTs.w {ex : List Expr} {t t' : TT} (h : PTs X ex t) (k : ∀ σ H Q, t' σ H Q → t σ H Q) : PTs X ex t' := ⟨fun pins s σ H Q I q => h.run pins s σ H Q I (k σ H Q q)⟩
theorem _root_.L2.PE.no {ex : Expr} {t : TE} (k : ∀ σ H Q, ¬ t σ H Q) : PE X ex t := ⟨fun pins s σ H Q I q => (k σ H Q q).elim⟩
theorem _root_.L2.PT.no {ex : Expr} {t : TT} (k : ∀ σ H Q, ¬ t σ H Q) : PT X ex t := ⟨fun pins s σ H Q I q => (k σ H Q q).elim⟩

/-- one more thing evaluated -/
theorem rdE_then {c : CE} {Q : VK} {d : D} (R : Rep W ι S H) (V : EnV W ι H e σ) (ev : evE C c e S = some (d, S1)) (k : ∀ ι1 H1 v, Ext ι S H ι1 S1 H1 → Rep W ι1 S1 H1 → DV W ι1 H1 d v → EnV W ι1 H1 e σ → Q v H1) : rdE W C c σ H Q :=
  ⟨ι, S, e, d, S1, R, V, ev, fun ι1 H1 v E R1 hv => k ι1 H1 v E R1 hv (V.mono E R)⟩
theorem rdA_then {c : CEs} {Q : List V → Hp → Prop} {d : List D} (R : Rep W ι S H) (V : EnV W ι H e σ) (ev : evEs C c e S = some (d, S1)) (k : ∀ ι1 H1 v, Ext ι S H ι1 S1 H1 → Rep W ι1 S1 H1 → DVs W ι1 H1 d v → EnV W ι1 H1 e σ → Q v H1) : rdA W C c σ H Q :=
  ⟨ι, S, e, d, S1, R, V, ev, fun ι1 H1 v E R1 hv => k ι1 H1 v E R1 hv (V.mono E R)⟩
theorem rdO_then {c : CO} {Q : Option Int → Hp → Prop} {o : Option Int} (R : Rep W ι S H) (V : EnV W ι H e σ) (ev : evO C c e S = some (o, S1)) (k : ∀ ι1 H1, Ext ι S H ι1 S1 H1 → Rep W ι1 S1 H1 → EnV W ι1 H1 e σ → Q o H1) : rdO W C c σ H Q :=
  ⟨ι, S, e, o, S1, R, V, ev, fun ι1 H1 E R1 => k ι1 H1 E R1 (V.mono E R)⟩
theorem rdT_then {c : CE} {Q : Bool → Hp → Prop} {b : Bool} (R : Rep W ι S H) (V : EnV W ι H e σ) (ev : tstE C c e S = some (b, S1)) (k : ∀ ι1 H1, Ext ι S H ι1 S1 H1 → Rep W ι1 S1 H1 → EnV W ι1 H1 e σ → Q b H1) : rdT W C c σ H Q :=
  ⟨ι, S, e, b, S1, R, V, ev, fun ι1 H1 E R1 => k ι1 H1 E R1 (V.mono E R)⟩
theorem tst_of {c : CE} {d : D} {b : Bool} (ev : evE C c e S = some (d, S1)) (h : truD d S1 = some b) : tstE C c e S = some (b, S1) := by
  unfold tstE
  rw [ev]
  simp only [h, Option.map_some]
theorem of_tst {c : CE} {b : Bool} (h : tstE C c e S = some (b, S1)) : ∃ d, evE C c e S = some (d, S1) ∧ truD d S1 = some b := by
  unfold tstE at h
  split at h
  · rename_i x S2 hx
    obtain ⟨z, e1, e2⟩ := Option.map_eq_some_iff.mp h
    cases e2
    exact ⟨x, hx, e1⟩
  · cases h

/-! ### constants, names -/
theorem ok_non {j pos} : PE X (.Constant .none j pos) (rdE W C .non) := pe_non.w fun σ H Q ⟨ι, S, e, d, S', R, V, ev, g⟩ => by
  simp only [evE] at ev
  cases ev
  exact g.here R rfl
theorem ok_bl {b j pos} : PE X (.Constant (.bool b) j pos) (rdE W C (.bl b)) := pe_bl.w fun σ H Q ⟨ι, S, e, d, S', R, V, ev, g⟩ => by
  simp only [evE] at ev
  cases ev
  exact g.here R rfl
theorem ok_int {i j pos} : PE X (.Constant (.int i) j pos) (rdE W C (.int i)) := pe_int.w fun σ H Q ⟨ι, S, e, d, S', R, V, ev, g⟩ => by
  simp only [evE] at ev
  cases ev
  exact g.here R rfl
theorem ok_str {x j pos} : PE X (.Constant (.str x) j pos) (rdE W C (.str x)) := pe_str.w fun σ H Q ⟨ι, S, e, d, S', R, V, ev, g⟩ => by
  simp only [evE] at ev
  cases ev
  exact g.here R rfl
theorem ok_var {i : Nat} {x : Str} {pos : Pos} (hN : X.N[i]? = some x) (hv : Vis X.env.scope x) (h1 : x ≠ "__debug__") (h2 : x ≠ "__classdict__") : PE X (.Name x pos) (rdE W C (.var i)) :=
  (pe_var hN hv (beq_eq_false_iff_ne.mpr h1) (beq_eq_false_iff_ne.mpr h2)).w fun σ H Q ⟨ι, S, e, d, S', R, V, ev, g⟩ => by
    simp only [evE] at ev
    split at ev
    · rename_i d' hd
      split at ev
      · cases ev
      · rename_i hl
        cases ev
        obtain ⟨v, e1, e2⟩ := V.2 i _ hd
        exact ⟨v, e1, g.here R (e2.dv (by simpa using hl))⟩
    · cases ev
theorem ok_glo {g : Nat} {x : Str} {v : V} {u : Value} {d : D} {pos : Pos} (hg : Gl X x) (hm : X.mg x = some u) (r : RelV v u) (h1 : x ≠ "__debug__") (hd : C.P.glos[g]? = some d) (hv : ∀ ι H, DV W ι H d v) : PE X (.Name x pos) (rdE W C (.glo g)) :=
  (pe_glob hg hm r (beq_eq_false_iff_ne.mpr h1)).w fun σ H Q ⟨ι, S, e, d', S', R, V, ev, g⟩ => by
    simp only [evE, hd, giv, Option.map_some] at ev
    cases ev
    exact g.here R (hv _ _)

/-! ### operators -/
variable {a b c : Expr} {ca cb cc : CE} {pos : Pos}
theorem ok_bin {op : Operator} (hK : X.K = W.K) (ha : PE X a (rdE W C ca)) (hb : PE X b (rdE W C cb)) : PE X (.BinOp a op b pos) (rdE W C (.bin op ca cb)) :=
  (pe_op (bin_ok hK op) ha hb).w fun σ H Q ⟨ι, S, e, d, S', R, V, ev, g⟩ => by
    simp only [evE] at ev
    obtain ⟨x, S1, e1, ev⟩ := bnd_some ev
    obtain ⟨y, S2, e2, ev⟩ := bnd_some ev
    exact rdE_then R V e1 fun ι1 H1 v E1 R1 hv V1 => rdE_then R1 V1 e2 fun ι2 H2 w E2 R2 hw V2 => ⟨ι2, S2, x, y, d, S', R2, DV.mono E2 R1 _ _ hv, hw, ev, (g.thru E1 R1).thru E2 R2⟩
theorem ok_neg (ha : PE X a (rdE W C ca)) : PE X (.UnaryOp .USub a pos) (rdE W C (.neg ca)) :=
  (pe_un un_neg ha).w fun σ H Q ⟨ι, S, e, d, S', R, V, ev, g⟩ => by
    simp only [evE] at ev
    obtain ⟨x, S1, e1, ev⟩ := bnd_some ev
    refine rdE_then R V e1 fun ι1 H1 v E1 R1 hv V1 => ?_
    split at ev
    · rename_i i
      cases ev
      exact ⟨i, hv, (g.thru E1 R1).here R1 rfl⟩
    · cases ev
/-- asked as a test -/
theorem ok_truth (hK : X.K = W.K) (ha : PE X a (rdE W C ca)) (he : ∀ whole, isTrue a X.env whole = (do let v ← whole; standAt a.pos; holding [v] (truthy v))) : PT X a (rdT W C ca) :=
  (pt_truth ha he).w fun σ H Q ⟨ι, S, e, b, S', R, V, ev, g⟩ => by
    obtain ⟨d, e1, e2⟩ := of_tst ev
    exact rdE_then R V e1 fun ι1 H1 v E1 R1 hv V1 => ⟨b, by rw [hK]; exact tru_of R1 e2 hv, (g.thru E1 R1).here R1⟩
theorem ok_not (hK : X.K = W.K) (ha : PE X a (rdE W C ca)) : PE X (.UnaryOp .Not a pos) (rdE W C (.notE ca)) :=
  (pe_notT ha).w fun σ H Q ⟨ι, S, e, d, S', R, V, ev, g⟩ => by
    simp only [evE] at ev
    obtain ⟨x, S1, e1, ev⟩ := bnd_some ev
    obtain ⟨ev, rfl⟩ := giv_eq ev
    obtain ⟨k, e2, rfl⟩ := Option.map_eq_some_iff.mp ev
    exact rdE_then R V e1 fun ι1 H1 v E1 R1 hv V1 => ⟨k, by rw [hK]; exact tru_of R1 e2 hv, (g.thru E1 R1).here R1 rfl⟩
theorem ok_notT (ha : PT X a (rdT W C ca)) : PT X (.UnaryOp .Not a pos) (rdT W C (.notE ca)) :=
  (pt_not ha).w fun σ H Q ⟨ι, S, e, b, S', R, V, ev, g⟩ => by
    obtain ⟨d, ev, e2⟩ := of_tst ev
    simp only [evE] at ev
    obtain ⟨x, S1, e1, ev⟩ := bnd_some ev
    obtain ⟨ev, rfl⟩ := giv_eq ev
    obtain ⟨k, e3, rfl⟩ := Option.map_eq_some_iff.mp ev
    cases e2
    exact rdT_then R V (tst_of e1 e3) fun ι1 H1 E1 R1 V1 => (g.thru E1 R1).here R1
theorem ok_and {rest : List Expr} (hK : X.K = W.K) (ha : PE X a (rdE W C ca)) (hb : PE X (.BoolOp .And (b :: rest) pos) (rdE W C cb)) : PE X (.BoolOp .And (a :: b :: rest) pos) (rdE W C (.andE ca cb)) :=
  (pe_andT ha hb).w fun σ H Q ⟨ι, S, e, d, S', R, V, ev, g⟩ => by
    simp only [evE] at ev
    obtain ⟨x, S1, e1, ev⟩ := bnd_some ev
    refine rdE_then R V e1 fun ι1 H1 v E1 R1 hv V1 => ?_
    split at ev
    · rename_i ht
      exact ⟨true, by rw [hK]; exact tru_of R1 ht hv, ⟨ι1, S1, e, d, S', R1, V1, ev, g.thru E1 R1⟩⟩
    · rename_i ht
      cases ev
      exact ⟨false, by rw [hK]; exact tru_of R1 ht hv, (g.thru E1 R1).here R1 hv⟩
    · cases ev
theorem ok_or {rest : List Expr} (hK : X.K = W.K) (ha : PE X a (rdE W C ca)) (hb : PE X (.BoolOp .Or (b :: rest) pos) (rdE W C cb)) : PE X (.BoolOp .Or (a :: b :: rest) pos) (rdE W C (.orE ca cb)) :=
  (pe_orT ha hb).w fun σ H Q ⟨ι, S, e, d, S', R, V, ev, g⟩ => by
    simp only [evE] at ev
    obtain ⟨x, S1, e1, ev⟩ := bnd_some ev
    refine rdE_then R V e1 fun ι1 H1 v E1 R1 hv V1 => ?_
    split at ev
    · rename_i ht
      cases ev
      exact ⟨true, by rw [hK]; exact tru_of R1 ht hv, (g.thru E1 R1).here R1 hv⟩
    · rename_i ht
      exact ⟨false, by rw [hK]; exact tru_of R1 ht hv, ⟨ι1, S1, e, d, S', R1, V1, ev, g.thru E1 R1⟩⟩
    · cases ev
theorem ok_andW {rest : List Expr} (ha : PT X a (rdT W C ca)) (hb : PW X (.BoolOp .And (b :: rest) pos) (rdT W C cb)) : PW X (.BoolOp .And (a :: b :: rest) pos) (rdT W C (.andE ca cb)) :=
  (pw_and ha hb).w fun σ H Q ⟨ι, S, e, k, S', R, V, ev, g⟩ => by
    obtain ⟨d, ev, e2⟩ := of_tst ev
    simp only [evE] at ev
    obtain ⟨x, S1, e1, ev⟩ := bnd_some ev
    split at ev
    · rename_i ht
      exact rdT_then R V (tst_of e1 ht) fun ι1 H1 E1 R1 V1 => ⟨ι1, S1, e, k, S', R1, V1, tst_of ev e2, g.thru E1 R1⟩
    · rename_i ht
      cases ev
      rw [ht] at e2
      cases e2
      exact rdT_then R V (tst_of e1 ht) fun ι1 H1 E1 R1 V1 => (g.thru E1 R1).here R1
    · cases ev
theorem ok_orW {rest : List Expr} (ha : PT X a (rdT W C ca)) (hb : PW X (.BoolOp .Or (b :: rest) pos) (rdT W C cb)) : PW X (.BoolOp .Or (a :: b :: rest) pos) (rdT W C (.orE ca cb)) :=
  (pw_or ha hb).w fun σ H Q ⟨ι, S, e, k, S', R, V, ev, g⟩ => by
    obtain ⟨d, ev, e2⟩ := of_tst ev
    simp only [evE] at ev
    obtain ⟨x, S1, e1, ev⟩ := bnd_some ev
    split at ev
    · rename_i ht
      cases ev
      rw [ht] at e2
      cases e2
      exact rdT_then R V (tst_of e1 ht) fun ι1 H1 E1 R1 V1 => (g.thru E1 R1).here R1
    · rename_i ht
      exact rdT_then R V (tst_of e1 ht) fun ι1 H1 E1 R1 V1 => ⟨ι1, S1, e, k, S', R1, V1, tst_of ev e2, g.thru E1 R1⟩
    · cases ev
theorem ok_if (hc : PT X c (rdT W C cc)) (ha : PE X a (rdE W C ca)) (hb : PE X b (rdE W C cb)) : PE X (.IfExp c a b pos) (rdE W C (.ifE cc ca cb)) :=
  (pe_ifExp hc ha hb).w fun σ H Q ⟨ι, S, e, d, S', R, V, ev, g⟩ => by
    simp only [evE] at ev
    obtain ⟨x, S1, e1, ev⟩ := bnd_some ev
    split at ev
    · rename_i ht
      exact rdT_then R V (tst_of e1 ht) fun ι1 H1 E1 R1 V1 => ⟨ι1, S1, e, d, S', R1, V1, ev, g.thru E1 R1⟩
    · rename_i ht
      exact rdT_then R V (tst_of e1 ht) fun ι1 H1 E1 R1 V1 => ⟨ι1, S1, e, d, S', R1, V1, ev, g.thru E1 R1⟩
    · cases ev
theorem pt_if {tc ta tb : TT} (hc : PT X c tc) (ha : PT X a ta) (hb : PT X b tb) : PT X (.IfExp c a b pos) (fun σ H Q => tc σ H fun k H1 => if k = true then ta σ H1 Q else tb σ H1 Q) := by
  refine ⟨fun pins s σ H Q I h => ?_⟩
  rw [PySem.isTrue]
  refine wpAny_bind (thn (hc.run pins s σ H _ I h) fun k s1 ⟨H1, I1, q⟩ => ?_)
  cases k with
  | true => exact ha.run pins s1 σ H1 Q I1 q
  | false => exact hb.run pins s1 σ H1 Q I1 q
theorem ok_ifT (hc : PT X c (rdT W C cc)) (ha : PT X a (rdT W C ca)) (hb : PT X b (rdT W C cb)) : PT X (.IfExp c a b pos) (rdT W C (.ifE cc ca cb)) :=
  (pt_if hc ha hb).w fun σ H Q ⟨ι, S, e, k, S', R, V, ev, g⟩ => by
    obtain ⟨d, ev, e2⟩ := of_tst ev
    simp only [evE] at ev
    obtain ⟨x, S1, e1, ev⟩ := bnd_some ev
    split at ev
    · rename_i ht
      exact rdT_then R V (tst_of e1 ht) fun ι1 H1 E1 R1 V1 => ⟨ι1, S1, e, k, S', R1, V1, tst_of ev e2, g.thru E1 R1⟩
    · rename_i ht
      exact rdT_then R V (tst_of e1 ht) fun ι1 H1 E1 R1 V1 => ⟨ι1, S1, e, k, S', R1, V1, tst_of ev e2, g.thru E1 R1⟩
    · cases ev
/-! ### comparisons -/
theorem rd_cmp {op : CmpOp} (σ : L2.St) (H : Hp) (Q : VK) : rdE W C (.cmp op ca cb) σ H Q → tOp (rCmp W op) (rdE W C ca) (rdE W C cb) σ H Q := fun ⟨ι, S, e, d, S', R, V, ev, g⟩ => by
  simp only [evE] at ev
  obtain ⟨x, S1, e1, ev⟩ := bnd_some ev
  obtain ⟨y, S2, e2, ev⟩ := bnd_some ev
  obtain ⟨ev, rfl⟩ := giv_eq ev
  obtain ⟨k, e3, rfl⟩ := Option.map_eq_some_iff.mp ev
  exact rdE_then R V e1 fun ι1 H1 v E1 R1 hv V1 => rdE_then R1 V1 e2 fun ι2 H2 w E2 R2 hw V2 => ⟨ι2, _, x, y, k, R2, DV.mono E2 R1 _ _ hv, hw, e3, ((g.thru E1 R1).thru E2 R2).here R2 rfl⟩
theorem ok_cmp {op : CmpOp} (hK : X.K = W.K) (hu : X.A.units + 64 < cLine) (ha : PE X a (rdE W C ca)) (hb : PE X b (rdE W C cb)) (hm : behindInMarks op b = false) : PE X (.Compare a [op] [b] pos) (rdE W C (.cmp op ca cb)) :=
  (pe_cmpR (cmp_ok hK hu op) ha hb hm).w rd_cmp
theorem bl_tst {cx : CE} {b : Bool} (h : tstE C cx e S = some (b, S1)) (hb : ∀ d S', evE C cx e S = some (d, S') → ∃ k, d = .bl k) : evE C cx e S = some (.bl b, S1) := by
  obtain ⟨d, e1, e2⟩ := of_tst h
  obtain ⟨k, rfl⟩ := hb _ _ e1
  cases e2
  exact e1
theorem cmp_bl {op : CmpOp} (d : D) (S' : Sto) (h : evE C (.cmp op ca cb) e S = some (d, S')) : ∃ k, d = .bl k := by
  simp only [evE] at h
  obtain ⟨x, S1, e1, ev⟩ := bnd_some h
  obtain ⟨y, S2, e2, ev⟩ := bnd_some ev
  obtain ⟨ev, rfl⟩ := giv_eq ev
  obtain ⟨k, e3, rfl⟩ := Option.map_eq_some_iff.mp ev
  exact ⟨k, rfl⟩
theorem rdT_bl {cx : CE} {σ : L2.St} {H : Hp} {Q : Bool → Hp → Prop} (hb : ∀ e S d S', evE C cx e S = some (d, S') → ∃ k, d = .bl k) (h : rdT W C cx σ H Q) : rdE W C cx σ H fun x H' => ∃ k, x = .bl k ∧ Q k H' := by
  obtain ⟨ι, S, e, b, S', R, V, ev, g⟩ := h
  exact rdE_then R V (bl_tst ev (hb e S)) fun ι1 H1 v E1 R1 hv V1 => ⟨b, hv, (g.thru E1 R1).here R1⟩
theorem ok_cmpT {op : CmpOp} (hK : X.K = W.K) (hu : X.A.units + 64 < cLine) (ha : PE X a (rdE W C ca)) (hb : PE X b (rdE W C cb)) (hm : behindInMarks op b = false) : PT X (.Compare a [op] [b] pos) (rdT W C (.cmp op ca cb)) :=
  (pt_cmpR (cmp_ok hK hu op) ha hb hm).w fun σ H Q h => rd_cmp _ _ _ (rdT_bl (fun e S => cmp_bl) h)
theorem rd_chain {op op2 : CmpOp} (σ : L2.St) (H : Hp) (Q : VK) : rdE W C (.chain op op2 ca cb cc) σ H Q → tChain (rCmp W op) (rCmp W op2) (rdE W C ca) (rdE W C cb) (rdE W C cc) σ H Q := fun ⟨ι, S, e, d, S', R, V, ev, g⟩ => by
  simp only [evE] at ev
  obtain ⟨x, S1, e1, ev⟩ := bnd_some ev
  obtain ⟨y, S2, e2, ev⟩ := bnd_some ev
  refine rdE_then R V e1 fun ι1 H1 v E1 R1 hv V1 => rdE_then R1 V1 e2 fun ι2 H2 w E2 R2 hw V2 => ?_
  split at ev
  · rename_i hc
    refine ⟨ι2, _, x, y, true, R2, DV.mono E2 R1 _ _ hv, hw, hc, true, rfl, ?_⟩
    rw [if_pos rfl]
    obtain ⟨z, S3, e3, ev⟩ := bnd_some ev
    obtain ⟨ev, rfl⟩ := giv_eq ev
    obtain ⟨k, e4, rfl⟩ := Option.map_eq_some_iff.mp ev
    exact rdE_then R2 V2 e3 fun ι3 H3 u E3 R3 hu V3 => ⟨ι3, _, y, z, k, R3, DV.mono E3 R2 _ _ hw, hu, e4, (((g.thru E1 R1).thru E2 R2).thru E3 R3).here R3 rfl⟩
  · rename_i hc
    cases ev
    refine ⟨ι2, _, x, y, false, R2, DV.mono E2 R1 _ _ hv, hw, hc, false, rfl, ?_⟩
    rw [if_neg (by decide)]
    exact ((g.thru E1 R1).thru E2 R2).here R2 rfl
  · cases ev
theorem chain_bl {op op2 : CmpOp} (d : D) (S' : Sto) (h : evE C (.chain op op2 ca cb cc) e S = some (d, S')) : ∃ k, d = .bl k := by
  simp only [evE] at h
  obtain ⟨x, S1, e1, ev⟩ := bnd_some h
  obtain ⟨y, S2, e2, ev⟩ := bnd_some ev
  split at ev
  · obtain ⟨z, S3, e3, ev⟩ := bnd_some ev
    obtain ⟨ev, rfl⟩ := giv_eq ev
    obtain ⟨k, e4, rfl⟩ := Option.map_eq_some_iff.mp ev
    exact ⟨k, rfl⟩
  · cases ev
    exact ⟨false, rfl⟩
  · cases ev
theorem ok_chain {op op2 : CmpOp} (hK : X.K = W.K) (hu : X.A.units + 64 < cLine) (ha : PE X a (rdE W C ca)) (hb : PE X b (rdE W C cb)) (hc : PE X c (rdE W C cc)) (hm : behindInMarks op2 c = false) : PE X (.Compare a [op, op2] [b, c] pos) (rdE W C (.chain op op2 ca cb cc)) :=
  (pe_chain (cmp_ok hK hu op) (cmp_ok hK hu op2) ha hb hc hm).w rd_chain
theorem ok_chainT {op op2 : CmpOp} (hK : X.K = W.K) (hu : X.A.units + 64 < cLine) (ha : PE X a (rdE W C ca)) (hb : PE X b (rdE W C cb)) (hc : PE X c (rdE W C cc)) (hm : behindInMarks op2 c = false) : PT X (.Compare a [op, op2] [b, c] pos) (rdT W C (.chain op op2 ca cb cc)) :=
  (pt_chain (cmp_ok hK hu op) (cmp_ok hK hu op2) ha hb hc hm).w fun σ H Q h => rd_chain _ _ _ (rdT_bl (fun e S => chain_bl) h)
/-! ### lists of expressions -/
variable {es : List Expr} {cs : CEs}
theorem ok_nil : PA X [] (rdA W C .nil) := pa_nil.w fun σ H Q ⟨ι, S, e, ds, S', R, V, ev, g⟩ => by
  simp only [evEs] at ev
  cases ev
  exact g _ _ _ .refl R rfl
theorem rd_cons {σ : L2.St} {H : Hp} {Q : List V → Hp → Prop} : rdA W C (.cons ca cs) σ H Q → tCons (rdE W C ca) (rdA W C cs) σ H Q := fun ⟨ι, S, e, ds, S', R, V, ev, g⟩ => by
  simp only [evEs] at ev
  obtain ⟨x, S1, e1, ev⟩ := bnd_some ev
  obtain ⟨xs, S2, e2, ev⟩ := bnd_some ev
  cases ev
  exact rdE_then R V e1 fun ι1 H1 v E1 R1 hv V1 => rdA_then R1 V1 e2 fun ι2 H2 w E2 R2 hw V2 => g _ _ _ (E1.trans R1 E2) R2 ⟨v, w, rfl, DV.mono E2 R1 _ _ hv, hw⟩
theorem ok_cons (ha : PE X a (rdE W C ca)) (hs : PA X es (rdA W C cs)) (hn : notStar a = true) : PA X (a :: es) (rdA W C (.cons ca cs)) := (pa_cons ha hs (star_cons hn)).w fun _ _ _ => rd_cons
theorem ok_tup {k : Nat} (hs : PA X es (rdA W C cs)) : PE X (.Tuple es k pos) (rdE W C (.tupE cs)) := (pe_tup hs).w fun σ H Q ⟨ι, S, e, d, S', R, V, ev, g⟩ => by
  simp only [evE] at ev
  obtain ⟨xs, S1, e1, ev⟩ := bnd_some ev
  split at ev
  · rename_i hl
    cases ev
    exact rdA_then R V e1 fun ι1 H1 vs E1 R1 hv V1 => ⟨by rw [← DVs.length hv]; exact hl, fun p hp => (g.thru E1 R1).tup R1 hv hp⟩
  · cases ev
theorem ok_lst (hs : PA X es (rdA W C cs)) : PE X (.List es pos) (rdE W C (.lstE cs)) := (pe_lst hs).w fun σ H Q ⟨ι, S, e, d, S', R, V, ev, g⟩ => by
  simp only [evE] at ev
  obtain ⟨xs, S1, e1, ev⟩ := bnd_some ev
  split at ev
  · rename_i hl
    cases ev
    exact rdA_then R V e1 fun ι1 H1 vs E1 R1 hv V1 => ⟨by rw [← DVs.length hv]; exact hl, fun p hp => (g.thru E1 R1).lst R1 hv hp⟩
  · cases ev
theorem ok_ix {i : Expr} {ci : CE} (hK : X.K = W.K) (hu : X.A.units + 64 < cLine) (ha : PE X a (rdE W C ca)) (hi : PE X i (rdE W C ci)) (hp : PlainIx i) : PE X (.Subscript a i pos) (rdE W C (.idx ca ci)) :=
  (pe_ix (idx_ok hK hu) ha hi hp).w fun σ H Q ⟨ι, S, e, d, S', R, V, ev, g⟩ => by
    simp only [evE] at ev
    obtain ⟨x, S1, e1, ev⟩ := bnd_some ev
    obtain ⟨y, S2, e2, ev⟩ := bnd_some ev
    obtain ⟨ev, rfl⟩ := giv_eq ev
    exact rdE_then R V e1 fun ι1 H1 v E1 R1 hv V1 => rdE_then R1 V1 e2 fun ι2 H2 w E2 R2 hw V2 => ⟨ι2, _, x, y, d, R2, DV.mono E2 R1 _ _ hv, hw, ev, fun v hv => ((g.thru E1 R1).thru E2 R2).here R2 hv⟩
theorem ok_no : PO X none (rdO W C .no) := po_none.w fun σ H Q ⟨ι, S, e, o, S', R, V, ev, g⟩ => by
  simp only [evO] at ev
  cases ev
  exact g.here R
theorem ok_so (ha : PE X a (rdE W C ca)) : PO X (some a) (rdO W C (.so ca)) := (po_some ha).w fun σ H Q ⟨ι, S, e, o, S', R, V, ev, g⟩ => by
  simp only [evO] at ev
  obtain ⟨x, S1, e1, ev⟩ := bnd_some ev
  refine rdE_then R V e1 fun ι1 H1 v E1 R1 hv V1 => ?_
  split at ev
  · rename_i i
    cases ev
    exact ⟨i, hv, (g.thru E1 R1).here R1⟩
  · cases ev
theorem ok_slc {lo hi : Option Expr} {cl ch : CO} {p2 : Pos} (hK : X.K = W.K) (ha : PE X a (rdE W C ca)) (hl : PO X lo (rdO W C cl)) (hh : PO X hi (rdO W C ch)) : PE X (.Subscript a (.Slice lo hi none p2) pos) (rdE W C (.slc ca cl ch)) :=
  (pe_slice (slc_ok hK) ha hl hh).w fun σ H Q ⟨ι, S, e, d, S', R, V, ev, g⟩ => by
    simp only [evE] at ev
    obtain ⟨x, S1, e1, ev⟩ := bnd_some ev
    obtain ⟨y, S2, e2, ev⟩ := bnd_some ev
    obtain ⟨z, S3, e3, ev⟩ := bnd_some ev
    exact rdE_then R V e1 fun ι1 H1 v E1 R1 hv V1 => rdO_then R1 V1 e2 fun ι2 H2 E2 R2 V2 => rdO_then R2 V2 e3 fun ι3 H3 E3 R3 V3 =>
      ⟨ι3, S3, x, d, S', R3, DV.mono E3 R2 _ _ (DV.mono E2 R1 _ _ hv), ev, ((g.thru E1 R1).thru E2 R2).thru E3 R3⟩
theorem lstD_of (R : Rep W ι S H) {d : D} {xs : List D} {v : V} (h : lstD d S = some xs) (hv : DV W ι H d v) : ∃ a vs, v = .ref a ∧ SqL W.K H a vs ∧ DVs W ι H xs vs := by
  unfold lstD at h
  split at h
  · cases h
    obtain ⟨a, vs, e, q, r⟩ := hv
    refine ⟨a, vs, e, ?_, r⟩
    rcases q with ⟨o, q⟩ | q
    · exact .inl (.inr ⟨o, q⟩)
    · exact .inr q
  · rename_i n
    obtain ⟨a, e, ha⟩ := hv
    split at h
    · rename_i ys hs
      cases h
      obtain ⟨vs, q, r⟩ := R.ob n a _ ha hs
      exact ⟨a, vs, e, .of q, r⟩
    · rename_i ys hs
      cases h
      obtain ⟨vs, q, r⟩ := R.ob n a _ ha hs
      exact ⟨a, vs, e, .of q, r⟩
    · cases h
  · cases h
theorem ok_rev {k : Nat} {p1 p2 p3 : Pos} (hK : X.K = W.K) (ha : PE X a (rdE W C ca)) : PE X (.Subscript a (.Slice none none (some (.UnaryOp .USub (.Constant (.int 1) k p1) p2)) p3) pos) (rdE W C (.rev ca)) :=
  (pe_revL ha).w fun σ H Q ⟨ι, S, e, d, S', R, V, ev, g⟩ => by
    simp only [evE] at ev
    obtain ⟨x, S1, e1, ev⟩ := bnd_some ev
    refine rdE_then R V e1 fun ι1 H1 v E1 R1 hv V1 => ?_
    split at ev
    · rename_i xs hx
      cases ev
      obtain ⟨a, vs, rfl, hq, hd⟩ := lstD_of R1 hx hv
      exact ⟨a, vs, rfl, by rw [hK]; exact hq, fun p hp => (g.thru E1 R1).lst R1 (DVs.rev hd) hp⟩
    · cases ev
end
end PC
end
section
set_option Elab.async false
set_option linter.all false
set_option maxRecDepth 100000
set_option maxHeartbeats 1000000
/-! PC: calls of built-in things, methods, displays. -/
namespace PC
open PySem L2
section
variable {W : Wd} {C : Cal} {ι ι' ι1 ι2 : List Addr} {S S' S0 S1 S2 : Sto} {H H' H1 H2 : Hp} {e e' : En} {σ σ' : L2.St} {X : Cx} {a b c : Expr} {ca cb cc : CE} {pos p : Pos} {es : List Expr} {cs : CEs}
theorem bi_boot : ∀ q ∈ biOf, bootBuiltins q.1 = some (biV q.2) ∧ q.1 ≠ "__name__" := by
  intro q hq
  simp only [biOf, List.mem_cons, List.not_mem_nil, or_false] at hq
  rcases hq with rfl | rfl | rfl | rfl | rfl | rfl | rfl | rfl | rfl | rfl | rfl | rfl <;> exact ⟨rfl, by decide⟩
theorem mem_of_lookup {α : Type} : ∀ {l : List (Str × α)} {x : Str} {y : α}, l.lookup x = some y → (x, y) ∈ l
  | [], _, _, h => by cases h
  | (z, w) :: r, x, y, h => by
    rw [List.lookup_cons] at h
    split at h
    · rename_i hx
      cases h
      rw [beq_iff_eq.mp hx]
      exact List.mem_cons_self
    · exact List.mem_cons_of_mem _ (mem_of_lookup h)
theorem pe_biV {f : Str} {bi : Bi} {r : List V → Hp → VK → Prop} {t : TA} (hc : CallR X (biV bi) r) (hg : Gl X f) (hm : X.mg f = none) (hv : bootBuiltins f = some (biV bi)) (hn : f ≠ "__name__") (hd : f ≠ "__debug__") (ha : PA X (a :: es) t) (hs : (a :: es).all notStar = true) :
    PE X (.Call (.Name f p) (a :: es) [] pos) (tCB r t) := by
  rw [List.all_cons, Bool.and_eq_true] at hs
  have h1 := star_cons (env := X.env) (es := es) hs.1
  have h2 : (backTo pos (starEach es X.env)).any (·.1) = false := back_any hs.2
  have hd' := beq_eq_false_iff_ne.mpr hd
  cases bi <;> first
    | exact pe_callB hc hg hm hv ha hn hd' h1 h2
    | exact pe_callTy hc hg hm hv ha hn hd' h1 h2
theorem ok_bi {f : Str} {bi : Bi} (hgd : X.A.guards = some []) (hc : X.calm = true) (hK : X.K = W.K) (hu : X.A.units + 200 < cLine) (hg : Gl X f) (hm : X.mg f = none) (hb : biOf.lookup f = some bi) (hd : f ≠ "__debug__") (ha : PA X (a :: es) (rdA W C cs)) (hs : (a :: es).all notStar = true) :
    PE X (.Call (.Name f p) (a :: es) [] pos) (rdE W C (.bi bi cs)) :=
  (pe_biV (bi_ok hgd hc hK hu bi) hg hm (bi_boot _ (mem_of_lookup hb)).1 (bi_boot _ (mem_of_lookup hb)).2 hd ha hs).w fun σ H Q ⟨ι, S, e, d, S', R, V, ev, g⟩ => by
    simp only [evE] at ev
    obtain ⟨xs, S1, e1, ev⟩ := bnd_some ev
    exact rdA_then R V e1 fun ι1 H1 vs E1 R1 hv V1 => ⟨ι1, S1, xs, d, S', R1, hv, ev, g.thru E1 R1⟩
/-! ### isinstance -/
def tyS : Ty → String
  | .int => "int"
  | .str => "str"
  | .bool => "bool"
  | .list => "list"
  | .tuple => "tuple"
  | .dict => "dict"
  | .cls _ => "int"
theorem ty_boot : ∀ q ∈ tyNm, bootBuiltins q.1 = some (.type (tyS q.2)) ∧ q.1 ≠ "__name__" ∧ q.1 ≠ "__debug__" ∧ ∀ c, q.2 ≠ .cls c := by
  intro q hq
  simp only [tyNm, List.mem_cons, List.not_mem_nil, or_false] at hq
  rcases hq with rfl | rfl | rfl | rfl | rfl | rfl <;> exact ⟨rfl, by decide, by decide, fun c h => by cases h⟩
theorem kit_tys {K : PySem.W.Frag} {n : String} (t : Ty) (ht : ∀ c, t ≠ .cls c) :
    (PySem.W.kitOne K (.type "NoneType") (.type (tyS t)) = some false) ∧ (PySem.W.kitOne K (.type "bool") (.type (tyS t)) = some (t == .bool || t == .int)) ∧ (PySem.W.kitOne K (.type "int") (.type (tyS t)) = some (t == .int)) ∧ (PySem.W.kitOne K (.type "str") (.type (tyS t)) = some (t == .str)) ∧
    (PySem.W.kitOne K (.type "tuple") (.type (tyS t)) = some (t == .tuple)) ∧ (PySem.W.kitOne K (.type "list") (.type (tyS t)) = some (t == .list)) ∧ (PySem.W.kitOne K (.type "dict") (.type (tyS t)) = some (t == .dict)) := by
  cases t with
  | cls c => exact absurd rfl (ht c)
  | _ => exact ⟨kit_ty (by decide), kit_ty (by decide), kit_ty (by decide), kit_ty (by decide), kit_ty (by decide), kit_ty (by decide), kit_ty (by decide)⟩
theorem ty_of (R : Rep W ι S H) {d : D} {x : V} {t : Ty} {b : Bool} (ht : ∀ c, t ≠ .cls c) (h : tyD t d S = some b) (hv : DV W ι H d x) : ∃ u, TyX W.K H x u ∧ PySem.W.kitOne W.K u (.type (tyS t)) = some b := by
  obtain ⟨k1, k2, k3, k4, k5, k6, k7⟩ := kit_tys (K := W.K) (n := "") t ht
  unfold tyD at h
  cases d with
  | non => cases h; cases hv; exact ⟨_, .base .non, k1⟩
  | bl k => cases h; cases hv; exact ⟨_, .base (.bl _), k2⟩
  | int i => cases h; cases hv; exact ⟨_, .base (.int _), k3⟩
  | str i => cases h; cases hv; exact ⟨_, .base (.str _), k4⟩
  | tup xs =>
    cases h
    obtain ⟨a, vs, rfl, q, r⟩ := hv
    rcases q with (q | ⟨o, q⟩) | ⟨o, its, n, q1, q2, q3⟩
    · exact ⟨_, .base (.tup q), k5⟩
    · exact ⟨_, .fTuple q, k5⟩
    · exact ⟨_, .kTuple q1 q2, k5⟩
  | frl xs => cases h
  | fn n => cases h
  | lam _ _ => cases h
  | ref n =>
    obtain ⟨a, rfl, ha⟩ := hv
    simp only at h
    split at h
    · rename_i xs hs
      cases h
      obtain ⟨vs, q, r⟩ := R.ob n a _ ha hs
      exact ⟨_, .base (.lst q), k6⟩
    · rename_i xs hs
      cases h
      obtain ⟨vs, q, r⟩ := R.ob n a _ ha hs
      exact ⟨_, .base (.lst q), k6⟩
    · rename_i xs hs
      cases h
      obtain ⟨vs, q, r⟩ := R.ob n a _ ha hs
      exact ⟨_, .base (.dK q), k7⟩
    · rename_i c fs hs
      cases t with
      | cls c => exact absurd rfl (ht c)
      | _ => cases h
    · cases h
theorem gl_type {y : Str} {t : Ty} {p2 : Pos} (hg : Gl X y) (hm : X.mg y = none) (ht : tyNm.lookup y = some t) : PE X (.Name y p2) (tC (.ty (tyS t))) :=
  have h := ty_boot _ (mem_of_lookup ht)
  pe_bltn hg hm h.1 rfl h.2.1 (beq_eq_false_iff_ne.mpr h.2.2.1)
theorem boot_isi : bootBuiltins "isinstance" = some (.builtin "isinstance") := rfl
theorem ok_isi {y : Str} {t : Ty} {p2 : Pos} (hK : X.K = W.K) (hg : Gl X "isinstance") (hm : X.mg "isinstance" = none) (hgy : Gl X y) (hmy : X.mg y = none) (ht : tyNm.lookup y = some t) (ha : PE X a (rdE W C ca)) (hs : notStar a = true) :
    PE X (.Call (.Name "isinstance" p) [a, .Name y p2] [] pos) (rdE W C (.isi ca [t])) :=
  (pe_callB (t := tCons (rdE W C ca) (tCons (tC (.ty (tyS t))) tNil)) call_isi hg hm boot_isi (pa_cons ha (pa_cons (gl_type hgy hmy ht) pa_nil (star_cons rfl)) (star_cons hs)) (by decide) (by decide) (star_cons hs) (back_any rfl)).w fun σ H Q ⟨ι, S, e, d, S', R, V, ev, g⟩ => by
    simp only [evE] at ev
    obtain ⟨x, S1, e1, ev⟩ := bnd_some ev
    obtain ⟨ev, rfl⟩ := giv_eq ev
    obtain ⟨k, e2, rfl⟩ := Option.map_eq_some_iff.mp ev
    refine rdE_then R V e1 fun ι1 H1 v E1 R1 hv V1 => ?_
    have e3 : tyD t x S' = some k := by
      simp only [isiD] at e2
      split at e2
      · rename_i z
        rw [z, e2]
      · rename_i z
        rw [z, e2]
      · cases e2
    obtain ⟨u, h1, h2⟩ := ty_of R1 (ty_boot _ (mem_of_lookup ht)).2.2.2 e3 hv
    exact ⟨v, .ty (tyS t), u, .type (tyS t), k, rfl, .ty _, by rw [hK]; exact h1, by rw [hK]; exact h2, (g.thru E1 R1).here R1 rfl⟩

/-! ### methods -/
theorem base_of {o : Expr} {m : Str} {env : Env} {w : Sem Value} (h : isCall o = false) : attributeBase o m env w = w := by
  cases o <;> first
    | rfl
    | cases h
theorem metK_ref {n : Nat} (hc : metK (.ref n) S = true) (R : Rep W ι S H) {v : V} (hv : DV W ι H (.ref n) v) : tyV W.K "list" v H := by
  obtain ⟨a, rfl, ha⟩ := hv
  unfold metK at hc
  simp only at hc
  split at hc
  · rename_i xs hs
    obtain ⟨vs, q, r⟩ := R.ob n a _ ha hs
    exact .inl ⟨rfl, vs, .of q⟩
  · rename_i xs hs
    obtain ⟨vs, q, r⟩ := R.ob n a _ ha hs
    exact .inl ⟨rfl, vs, .of q⟩
  · cases hc
theorem fz_lst {n : Nat} {xs : List D} (h : S[n]? = some (.lst xs)) : ¬ Fz S[n]? := by
  rw [h]
  exact id
theorem ev_met {o : CE} {m : Str} {as : CEs} {d : D} (h : evE C (.meth o m as) e S = some (d, S')) : ∃ x S1 xs S2, evE C o e S = some (x, S1) ∧ metK x S1 = true ∧ evEs C as e S1 = some (xs, S2) ∧ metD x m xs S2 = some (d, S') := by
  simp only [evE] at h
  obtain ⟨x, S1, e1, h⟩ := bnd_some h
  split at h
  · rename_i hk
    obtain ⟨xs, S2, e2, h⟩ := bnd_some h
    exact ⟨x, S1, xs, S2, e1, hk, e2, h⟩
  · cases h
theorem ev_one {c : CE} {xs : List D} (h : evEs C (.cons c .nil) e S = some (xs, S')) : ∃ x, xs = [x] ∧ evE C c e S = some (x, S') := by
  simp only [evEs] at h
  obtain ⟨x, S1, e1, h⟩ := bnd_some h
  simp only [bnd] at h
  cases h
  exact ⟨x, rfl, e1⟩
theorem few1 {env : Env} {cp : Pos} (hs : notStar b = true) : ((backTo cp (starEach [b] env)).all (fun x => !x.1) && (backToKw cp (keywordEach [] env)).all (fun x => x.1.isSome) && decide (([b] : List Expr).length + ([] : List Keyword).length + (if ([] : List Keyword).isEmpty then 0 else 1) < 30)) = true := by
  rw [star_cons hs]
  rfl
/-- a method of lists, of one argument -/
theorem ok_lm1 {ap cp : Pos} {m : Str} {id : String} {r : V → List V → Hp → VK → Prop} (hK : X.K = W.K) (slot : Slot "list" m id) (hty : typeOf (.builtin id) = pure (.type "method_descriptor")) (hm : MtR X id r) (ho : PE X a (rdE W C ca)) (hb : PE X b (rdE W C cb)) (hs : notStar b = true) (hc : isCall a = false) (hl : (ap.endLine == cp.line) = true)
    (hk : ∀ x y S r', metD x m [y] S = some r' → ∃ n, x = .ref n)
    (k : ∀ ι S H x y v w d S' Q, Rep W ι S H → DV W ι H x v → DV W ι H y w → metD x m [y] S = some (d, S') → Gd W ι S H S' d Q → r v [w] H Q) :
    PE X (.Call (.Attribute a m ap) [b] [] cp) (rdE W C (.meth ca m (.cons cb .nil))) :=
  (pe_bm PySem.F.plainAttrs_list slot hty hm ho (ok_cons hb ok_nil hs) (base_of hc) (few1 hs) hl (star_cons hs) (back_any rfl)).w fun σ H Q ⟨ι, S, e, d, S', R, V, ev, g⟩ => by
    obtain ⟨x, S1, xs, S2, e1, hk1, e2, h⟩ := ev_met ev
    obtain ⟨y, rfl, e2'⟩ := ev_one e2
    obtain ⟨n, rfl⟩ := hk _ _ _ _ h
    refine rdE_then R V e1 fun ι1 H1 v E1 R1 hv V1 => ⟨by rw [hK]; exact metK_ref hk1 R1 hv, rdA_then R1 V1 e2 fun ι2 H2 ws E2 R2 hw V2 => ?_⟩
    obtain ⟨w, rfl, hw'⟩ := one_of hw
    exact k ι2 S2 H2 _ y v w d S' Q R2 (DV.mono E2 R1 _ _ hv) hw' h ((g.thru E1 R1).thru E2 R2)
theorem ok_append {ap cp : Pos} (hK : X.K = W.K) (ho : PE X a (rdE W C ca)) (hb : PE X b (rdE W C cb)) (hs : notStar b = true) (hc : isCall a = false) (hl : (ap.endLine == cp.line) = true) :
    PE X (.Call (.Attribute a "append" ap) [b] [] cp) (rdE W C (.meth ca "append" (.cons cb .nil))) := by
  have eq : ∀ x y S, metD x "append" [y] S = mAppend x y S := fun x y S => rfl
  refine ok_lm1 hK PySem.F.slot_list_append PySem.F.type_list_append mt_append ho hb hs hc hl (fun x y S r h => ?_) fun ι S H x y v w d S' Q R hv hw h g => ?_
  · rw [eq] at h
    unfold mAppend at h
    split at h
    · exact ⟨_, rfl⟩
    · cases h
  · rw [eq] at h
    unfold mAppend at h
    split at h
    · rename_i n
      obtain ⟨l, rfl, hl⟩ := hv
      split at h
      · rename_i xs hs
        obtain ⟨vs, q, r⟩ := R.ob n l _ hl hs
        split at h
        · rename_i hz
          cases h
          exact ⟨l, vs, w, rfl, rfl, q, by rw [← DVs.length r]; exact hz, g.set R hl (fz_lst hs) (fun E => ⟨vs ++ [w], upd_same, DVs.append (DVs.mono E R _ _ r) ⟨w, [], rfl, DV.mono E R _ _ hw, rfl⟩⟩) rfl⟩
        · cases h
      · cases h
    · cases h
theorem ok_extend {ap cp : Pos} (hK : X.K = W.K) (ho : PE X a (rdE W C ca)) (hb : PE X b (rdE W C cb)) (hs : notStar b = true) (hc : isCall a = false) (hl : (ap.endLine == cp.line) = true) :
    PE X (.Call (.Attribute a "extend" ap) [b] [] cp) (rdE W C (.meth ca "extend" (.cons cb .nil))) := by
  have eq : ∀ x y S, metD x "extend" [y] S = mExtend x y S := fun x y S => rfl
  refine ok_lm1 hK PySem.F.slot_list_extend PySem.F.type_list_extend mt_extend ho hb hs hc hl (fun x y S r h => ?_) fun ι S H x y v w d S' Q R hv hw h g => ?_
  · rw [eq] at h
    unfold mExtend at h
    split at h
    · exact ⟨_, rfl⟩
    · cases h
  · rw [eq] at h
    unfold mExtend at h
    split at h
    · rename_i n k
      obtain ⟨l, rfl, hl⟩ := hv
      obtain ⟨l2, rfl, hl2⟩ := hw
      split at h
      · rename_i xs ys hs hs2
        obtain ⟨vs, q, r⟩ := R.ob n l _ hl hs
        obtain ⟨vs2, q2, r2⟩ := R.ob k l2 _ hl2 hs2
        split at h
        · rename_i hz
          cases h
          exact ⟨l, l2, vs, vs2, rfl, rfl, q, q2, by rw [← DVs.length r, ← DVs.length r2]; exact hz, g.set R hl (fz_lst hs) (fun E => ⟨vs ++ vs2, upd_same, DVs.append (DVs.mono E R _ _ r) (DVs.mono E R _ _ r2)⟩) rfl⟩
        · cases h
      · cases h
    · cases h
theorem ok_popAt {ap cp : Pos} (hK : X.K = W.K) (ho : PE X a (rdE W C ca)) (hb : PE X b (rdE W C cb)) (hs : notStar b = true) (hc : isCall a = false) (hl : (ap.endLine == cp.line) = true) :
    PE X (.Call (.Attribute a "pop" ap) [b] [] cp) (rdE W C (.meth ca "pop" (.cons cb .nil))) := by
  have eq : ∀ x y S, metD x "pop" [y] S = mPopAt x y S := fun x y S => rfl
  refine ok_lm1 hK PySem.F.slot_list_pop PySem.F.type_list_pop mt_popAt ho hb hs hc hl (fun x y S r h => ?_) fun ι S H x y v w d S' Q R hv hw h g => ?_
  · rw [eq] at h
    unfold mPopAt at h
    split at h
    · exact ⟨_, rfl⟩
    · cases h
  · rw [eq] at h
    unfold mPopAt at h
    split at h
    · rename_i n i
      obtain ⟨l, rfl, hl⟩ := hv
      cases (show w = .int _ from hw)
      split at h
      · rename_i xs hs
        obtain ⟨vs, q, r⟩ := R.ob n l _ hl hs
        split at h
        · rename_i hz
          split at h
          · rename_i k hk
            split at h
            · rename_i y hy
              cases h
              obtain ⟨u, h1, h2⟩ := DVs.get r hy
              obtain ⟨h3, _⟩ := ixN_seq hk
              exact ⟨l, vs, i, k, u, rfl, rfl, q, by omega, by omega, by rw [← DVs.length r]; exact h3, h1, g.set R hl (fz_lst hs) (fun E => ⟨vs.eraseIdx k, upd_same, DVs.eraseIdx k (DVs.mono E R _ _ r)⟩) h2⟩
            · cases h
          · cases h
        · cases h
      · cases h
    · cases h
theorem ok_pop {ap cp : Pos} (hK : X.K = W.K) (ho : PE X a (rdE W C ca)) (hc : isCall a = false) (hl : (ap.endLine == cp.line) = true) :
    PE X (.Call (.Attribute a "pop" ap) [] [] cp) (rdE W C (.meth ca "pop" .nil)) :=
  (pe_bm0 PySem.F.plainAttrs_list PySem.F.slot_list_pop PySem.F.type_list_pop mt_pop ho (base_of hc) hl).w fun σ H Q ⟨ι, S, e, d, S', R, V, ev, g⟩ => by
    obtain ⟨x, S1, xs, S2, e1, hk1, e2, h⟩ := ev_met ev
    simp only [evEs] at e2
    cases e2
    have h' : mPop x S1 = some (d, S') := h
    unfold mPop at h'
    split at h'
    · rename_i n
      refine rdE_then R V e1 fun ι1 H1 v E1 R1 hv V1 => ⟨by rw [hK]; exact metK_ref hk1 R1 hv, ?_⟩
      obtain ⟨l, rfl, hl⟩ := hv
      split at h'
      · rename_i xs hs
        obtain ⟨vs, q, r⟩ := R1.ob n l _ hl hs
        split at h'
        · rename_i y hy
          cases h'
          obtain ⟨u, h1, h2⟩ := DVs.get r hy
          refine ⟨l, vs, u, rfl, rfl, q, by rw [← DVs.length r]; exact h1, (g.thru E1 R1).set R1 hl (fz_lst hs) (fun E => ⟨vs.dropLast, upd_same, ?_⟩) h2⟩
          have q1 : xs.dropLast = xs.take (xs.length - 1) := List.dropLast_eq_take
          have q2 : vs.dropLast = vs.take (xs.length - 1) := by rw [List.dropLast_eq_take, DVs.length r]
          have z := DVs.take (xs.length - 1) (DVs.mono E R1 _ _ r)
          rw [← q1, ← q2] at z
          exact z
        · cases h'
      · cases h'
    · cases h'
theorem ok_upper {ap cp : Pos} (ho : PE X a (rdE W C ca)) (hc : isCall a = false) (hl : (ap.endLine == cp.line) = true) :
    PE X (.Call (.Attribute a "upper" ap) [] [] cp) (rdE W C (.meth ca "upper" .nil)) :=
  (pe_upper ho (base_of hc) hl).w fun σ H Q ⟨ι, S, e, d, S', R, V, ev, g⟩ => by
    obtain ⟨x, S1, xs, S2, e1, hk1, e2, h⟩ := ev_met ev
    simp only [evEs] at e2
    cases e2
    have h' : mUpper x S1 = some (d, S') := h
    unfold mUpper at h'
    refine rdE_then R V e1 fun ι1 H1 v E1 R1 hv V1 => ?_
    split at h'
    · rename_i z
      split at h'
      · rename_i hz
        cases h'
        cases (show v = .str _ from hv)
        exact ⟨⟨z, rfl⟩, z, rfl, rfl, hz, (g.thru E1 R1).here R1 rfl⟩
      · cases h'
    · cases h'
theorem seqD_of (R : Rep W ι S H) {d : D} {xs : List D} {v : V} (h : seqD d S = some xs) (hv : DV W ι H d v) : ∃ a vs, v = .ref a ∧ (SqL W.K H a vs ∨ SqT W.K H a vs) ∧ DVs W ι H xs vs := by
  unfold seqD at h
  split at h
  · cases h
    obtain ⟨a, vs, e, q, r⟩ := hv
    exact ⟨a, vs, e, .inr q, r⟩
  · obtain ⟨a, vs, e, q, r⟩ := lstD_of R h hv
    exact ⟨a, vs, e, .inl q, r⟩
theorem ok_join {ap cp : Pos} (hK : X.K = W.K) (ho : PE X a (rdE W C ca)) (hb : PE X b (rdE W C cb)) (hs : notStar b = true) (hc : isCall a = false) (hl : (ap.endLine == cp.line) = true) :
    PE X (.Call (.Attribute a "join" ap) [b] [] cp) (rdE W C (.meth ca "join" (.cons cb .nil))) :=
  (pe_join ho hb (star_cons hs) (base_of hc) hl).w fun σ H Q ⟨ι, S, e, d, S', R, V, ev, g⟩ => by
    obtain ⟨x, S1, xs, S2, e1, hk1, e2, h⟩ := ev_met ev
    obtain ⟨y, rfl, e2'⟩ := ev_one e2
    have h' : mJoin x y S2 = some (d, S') := h
    unfold mJoin at h'
    refine rdE_then R V e1 fun ι1 H1 v E1 R1 hv V1 => ?_
    split at h'
    · rename_i z
      cases (show v = .str _ from hv)
      refine ⟨⟨z, rfl⟩, rdE_then R1 V1 e2' fun ι2 H2 w E2 R2 hw V2 => ?_⟩
      split at h'
      · rename_i ys hy
        obtain ⟨xs, q1, q2⟩ := Option.bind_eq_some_iff.mp hy
        split at h'
        · rename_i hz
          cases h'
          obtain ⟨p, vs, rfl, hq, hd⟩ := seqD_of R2 q1 hw
          have ev := strs_of q2 hd
          subst ev
          exact ⟨z, p, ys, rfl, rfl, by rw [hK]; exact hq, hz, ((g.thru E1 R1).thru E2 R2).here R2 rfl⟩
        · cases h'
      · cases h'
    · cases h'
/-- a built-in method, whichever -/
theorem ok_met1 {ap cp : Pos} {m : Str} (hK : X.K = W.K) (ho : PE X a (rdE W C ca)) (hb : PE X b (rdE W C cb)) (hs : notStar b = true) (hc : isCall a = false) (hl : (ap.endLine == cp.line) = true) :
    PE X (.Call (.Attribute a m ap) [b] [] cp) (rdE W C (.meth ca m (.cons cb .nil))) := by
  by_cases h1 : m = "append"
  · subst h1; exact ok_append hK ho hb hs hc hl
  by_cases h2 : m = "extend"
  · subst h2; exact ok_extend hK ho hb hs hc hl
  by_cases h3 : m = "pop"
  · subst h3; exact ok_popAt hK ho hb hs hc hl
  by_cases h4 : m = "join"
  · subst h4; exact ok_join hK ho hb hs hc hl
  refine PE.no fun σ H Q ⟨ι, S, e, d, S', R, V, ev, g⟩ => ?_
  obtain ⟨x, S1, xs, S2, e1, hk1, e2, h⟩ := ev_met ev
  obtain ⟨y, rfl, e2'⟩ := ev_one e2
  simp only [metD, if_neg h1, if_neg h2, if_neg h3, if_neg h4] at h
  cases h
theorem ok_met0 {ap cp : Pos} {m : Str} (hK : X.K = W.K) (ho : PE X a (rdE W C ca)) (hc : isCall a = false) (hl : (ap.endLine == cp.line) = true) :
    PE X (.Call (.Attribute a m ap) [] [] cp) (rdE W C (.meth ca m .nil)) := by
  by_cases h1 : m = "pop"
  · subst h1; exact ok_pop hK ho hc hl
  by_cases h2 : m = "upper"
  · subst h2; exact ok_upper ho hc hl
  refine PE.no fun σ H Q ⟨ι, S, e, d, S', R, V, ev, g⟩ => ?_
  obtain ⟨x, S1, xs, S2, e1, hk1, e2, h⟩ := ev_met ev
  simp only [evEs] at e2
  cases e2
  simp only [metD, if_neg h1, if_neg h2] at h
  cases h
end
end PC
end
section
set_option Elab.async false
set_option linter.all false
set_option maxRecDepth 100000
set_option maxHeartbeats 1000000
/-! PC: list(..), dicts, calls of own defs. -/
namespace PC
open PySem L2
section
variable {W : Wd} {C : Cal} {ι ι' ι1 ι2 : List Addr} {S S' S0 S1 S2 : Sto} {H H' H1 H2 : Hp} {e e' : En} {σ σ' : L2.St} {X : Cx} {a b c : Expr} {ca cb cc : CE} {pos p : Pos} {es : List Expr} {cs : CEs}
/-! ### what stays where an object changes that is no store's -/
/-- tuples, locked things -/
def TF : HO → Prop
  | .tup _ => True
  | .frz _ _ => True
  | _ => False
mutual
theorem DV.gen (hi : ∀ (n : Nat) a, ι[n]? = some a → ι'[n]? = some a) (hk : ∀ a o, H a = some o → TF o → H' a = some o) : ∀ (d : D) (v : V), DV W ι H d v → DV W ι' H' d v
  | .non, _, h => h
  | .bl _, _, h => h
  | .int _, _, h => h
  | .str _, _, h => h
  | .fn _, _, h => h
  | .lam _ _, _, h => h
  | .ref _, _, ⟨a, e, h⟩ => ⟨a, e, hi _ _ h⟩
  | .tup xs, _, ⟨a, vs, e, h, q⟩ => ⟨a, vs, e, by
      rcases h with (h | ⟨o, h⟩) | h
      · exact .inl (.inl (hk a _ h trivial))
      · exact .inl (.inr ⟨o, hk a _ h trivial⟩)
      · exact .inr h, DVs.gen hi hk xs vs q⟩
  | .frl xs, _, ⟨a, vs, e, h, q⟩ => ⟨a, vs, e, by
      rcases h with ⟨o, h⟩ | h
      · exact .inl ⟨o, hk a _ h trivial⟩
      · exact .inr h, DVs.gen hi hk xs vs q⟩
theorem DVs.gen (hi : ∀ (n : Nat) a, ι[n]? = some a → ι'[n]? = some a) (hk : ∀ a o, H a = some o → TF o → H' a = some o) : ∀ (ds : List D) (vs : List V), DVs W ι H ds vs → DVs W ι' H' ds vs
  | [], _, h => h
  | d :: ds, _, ⟨v, r, e, h, q⟩ => ⟨v, r, e, DV.gen hi hk d v h, DVs.gen hi hk ds r q⟩
end
theorem KVr.gen (hi : ∀ (n : Nat) a, ι[n]? = some a → ι'[n]? = some a) (hk : ∀ a o, H a = some o → TF o → H' a = some o) {κ : Type} {a : List (κ × D)} {b : List (κ × V)} (h : KVr W ι H a b) : KVr W ι' H' a b :=
  Paired.imp (fun p q z => ⟨z.1, DV.gen hi hk _ _ z.2⟩) h
theorem OV.gen (hi : ∀ (n : Nat) a, ι[n]? = some a → ι'[n]? = some a) (hk : ∀ a o, H a = some o → TF o → H' a = some o) {a : Addr} {o : Ob} (h : OV W ι H a o) (e : H' a = H a) : OV W ι' H' a o := by
  cases o with
  | lst ds => obtain ⟨vs, q, r⟩ := h; exact ⟨vs, e.trans q, DVs.gen hi hk _ _ r⟩
  | fro ds => obtain ⟨vs, q, r⟩ := h; exact ⟨vs, e.trans q, DVs.gen hi hk _ _ r⟩
  | dk kvs => obtain ⟨vs, q, r⟩ := h; exact ⟨vs, e.trans q, KVr.gen hi hk r⟩
  | dt kvs => obtain ⟨vs, q, r⟩ := h; exact ⟨vs, e.trans q, KVr.gen hi hk r⟩
  | ins c fs => obtain ⟨dx, gs, q, r⟩ := h; exact ⟨dx, gs, e.trans q, KVr.gen hi hk r⟩
theorem own_keep {p : Addr} {u u' : HO} (hp : H p = some u) (ho : Own u) : ∀ a o, H a = some o → TF o → upd H p u' a = some o := fun a o h no => by
  rw [upd_ne]
  · exact h
  · rintro rfl
    rw [hp] at h
    cases h
    cases u <;> first
      | exact no
      | exact ho
theorem own_tab {p : Addr} {u u' : HO} {T : List (Addr × Str)} (hp : H p = some u) (ho : Own u) (h : LamX.Tabs T H) : LamX.Tabs T (upd H p u') := Tabs.own h fun b o hb no => by
  rw [upd_ne]
  · exact hb
  · rintro rfl
    rw [hp] at hb
    cases hb
    exact no ho
/-- an own object beside the store changes -/
theorem Rep.beside (R : Rep W ι S H) {p : Addr} {u u' : HO} (hn : p ∉ ι) (hp : H p = some u) (ho : Own u) : Rep W ι S (upd H p u') := by
  refine ⟨R.len, R.nd, fun n a o h1 h2 => OV.gen (fun _ _ h => h) (own_keep hp ho) (R.ob n a o h1 h2) (upd_ne ?_), own_tab hp ho R.tab⟩
  rintro rfl
  exact hn (List.mem_iff_getElem?.mpr ⟨n, h1⟩)
/-- since H, where p was not, an own object beside the store may change -/
theorem Ext.beside (E : Ext ι S H ι1 S1 H1) {p : Addr} {u' : HO} (hp : H p = none) : Ext ι S H ι1 S1 (upd H1 p u') :=
  ⟨E.pre, fun a o h nt k => by rw [upd_ne (ne_of_none h hp)]; exact E.keep a o h nt k, E.fr⟩
/-- it becomes the store's -/
theorem adopt (E : Ext ι S H ι1 S1 H1) (R1 : Rep W ι1 S1 H1) {p : Addr} {u u' : HO} {o : Ob} (hp : H p = none) (hn : p ∉ ι1) (hq : H1 p = some u) (ho : Own u) (hv : OV W (ι1 ++ [p]) (upd H1 p u') p o) :
    Rep W (ι1 ++ [p]) (S1 ++ [o]) (upd H1 p u') ∧ Ext ι S H (ι1 ++ [p]) (S1 ++ [o]) (upd H1 p u') := by
  have hi : ∀ (n : Nat) a, ι1[n]? = some a → (ι1 ++ [p])[n]? = some a := fun n a h => by
    rw [List.getElem?_append_left (List.getElem?_eq_some_iff.mp h).1]
    exact h
  refine ⟨⟨by simp [R1.len], ?_, fun n a o' h1 h2 => ?_, own_tab hq ho R1.tab⟩, ?_⟩
  · rw [List.nodup_append]
    refine ⟨R1.nd, by simp, fun a ha b hb => ?_⟩
    have e : b = p := by simpa using hb
    rw [e]
    rintro rfl
    exact hn ha
  · by_cases hl : n < ι1.length
    · rw [List.getElem?_append_left hl] at h1
      rw [List.getElem?_append_left (by rw [← R1.len]; exact hl)] at h2
      refine OV.gen hi (own_keep hq ho) (R1.ob n a o' h1 h2) (upd_ne ?_)
      rintro rfl
      exact hn (List.mem_iff_getElem?.mpr ⟨n, h1⟩)
    · have e : n = ι1.length := by
        have := (List.getElem?_eq_some_iff.mp h1).1
        simp at this
        omega
      subst e
      rw [List.getElem?_append_right (Nat.le_refl _)] at h1
      rw [R1.len, List.getElem?_append_right (Nat.le_refl _)] at h2
      simp at h1 h2
      subst h1 h2
      exact hv
  · obtain ⟨new, e, hnew⟩ := E.pre
    refine ⟨⟨new ++ [p], by rw [e, List.append_assoc], fun a ha o ho => ?_⟩, fun a o' h nt k => ?_, fun n h => ?_⟩
    · rcases List.mem_append.mp ha with ha | ha
      · exact hnew a ha o ho
      · have z : a = p := by simpa using ha
        rw [z, hp] at ho
        cases ho
    · rw [upd_ne (ne_of_none h hp)]
      exact E.keep a o' h nt k
    · have h1 := E.fr n h
      by_cases hl : n < S1.length
      · rw [List.getElem?_append_left hl]
        exact h1
      · rw [List.getElem?_eq_none (by omega)] at h1
        rw [← h1] at h
        exact h.elim
theorem not_in (E : Ext ι S H ι1 S1 H1) {p : Addr} {u : HO} (hp : H p = some u) (hn : p ∉ ι) (nt : ∀ ps, u ≠ .tbl ps := by intro _ z; cases z) : p ∉ ι1 := fun h => hn (E.back hp nt h)

/-! ### list(..) -/
theorem call_listS (hc : X.calm = true) : CallR X (.type "list") (fun xs H Q => ∃ z, xs = [V.str z] ∧ z.length ≤ sizeLine ∧ ∀ l, H l = none → Q (.ref l) (upd H l (.lst (z.cps.toList.map fun c => .str ⟨#[c]⟩)))) := by
  intro pins s σ H xs us Q I r q
  obtain ⟨z, rfl, hz, q⟩ := q
  obtain ⟨u, rfl, rx⟩ := vals1 r
  obtain ⟨t, rfl⟩ := rx
  refine PySem.call_list_str (I.ok.hd hc) z t (fun h' tk acc c' hk hD hacc => ?_) hz
  have hv : Vals (z.cps.toList.map fun c => V.str ⟨#[c]⟩) acc.toList := by
    refine L2.vals_of_at (by simp [hacc.1]) fun j x u hx hu => ?_
    rw [List.getElem?_map] at hx
    obtain ⟨c, hc, rfl⟩ := Option.map_eq_some_iff.mp hx
    obtain ⟨c', t', h1, rfl⟩ := hacc.2 j u (by rw [← Array.getElem?_toList]; exact hu)
    rw [← Array.getElem?_toList, hc] at h1
    cases h1
    exact ⟨t', rfl⟩
  exact ⟨.ref s.heap.objs.size, upd H s.heap.objs.size (.lst (z.cps.toList.map fun c => .str ⟨#[c]⟩)), I.laid (t' := tk) hk (Nat.le_refl _)
    (show ObjOk X.prog X.w _ _ _ (.lst (z.cps.toList.map fun c => .str ⟨#[c]⟩)) from ⟨by rw [List.length_map, Array.length_toList]; exact hz, acc.toList, c', hv, by rw [Array.toArray_toList]; exact hD⟩), rfl, q _ (I.hok.fresh (Nat.le_refl _))⟩
theorem dvs_signs : ∀ cs : List Nat, DVs W ι H (cs.map fun c => .str ⟨#[c]⟩) (cs.map fun c => .str ⟨#[c]⟩)
  | [] => rfl
  | c :: cs => ⟨_, _, rfl, rfl, dvs_signs cs⟩
theorem dvs_range (i : Int) : ∀ ks : List Nat, DVs W ι H (ks.map fun (k : Nat) => .int (i + k)) (ks.map fun (k : Nat) => .int (i + k))
  | [] => rfl
  | k :: ks => ⟨_, _, rfl, rfl, dvs_range i ks⟩
theorem boot_list : bootBuiltins "list" = some (.type "list") := rfl
theorem ok_colV (hc : X.calm = true) (hK : X.K = W.K) (hg : Gl X "list") (hm : X.mg "list" = none) (ha : PE X a (rdE W C ca)) (hs : notStar a = true) : PE X (.Call (.Name "list" p) [a] [] pos) (rdE W C (.col .val (.cons ca .nil))) :=
  (pe_callTy (t := rdA W C (.cons ca .nil)) (call_list_of.or (call_listS hc)) hg hm boot_list (ok_cons ha ok_nil hs) (by decide) (by decide) (star_cons hs) (back_any rfl)).w fun σ H Q ⟨ι, S, e, d, S', R, Ve, ev, g⟩ => by
    simp only [evE] at ev
    obtain ⟨xs, S1, e1, ev⟩ := bnd_some ev
    obtain ⟨x, rfl, e1'⟩ := ev_one e1
    refine rdA_then R Ve e1 fun ι1 H1 vs E1 R1 hv V1 => ?_
    obtain ⟨v, rfl, hx⟩ := one_of hv
    split at ev
    · rename_i ys st hi
      split at ev
      · rename_i hz
        cases ev
        replace hi : itV x S1 = some (ys, st) := hi
        unfold itV at hi
        have lists : ∀ (a : Addr) (vs : List V), v = .ref a → (SqL W.K H1 a vs ∨ SqT W.K H1 a vs) → DVs W ι1 H1 ys vs →
            (∃ p ws, [v] = [V.ref p] ∧ (SqL X.K H1 p ws ∨ SqT X.K H1 p ws) ∧ ∀ l, H1 l = none → Q (.ref l) (upd H1 l (.lst ws))) := fun a vs e hq hd => ⟨a, vs, by rw [e], by rw [hK]; exact hq, fun l hl => (g.thru E1 R1).lst R1 hd hl⟩
        split at hi
        · cases hi
          obtain ⟨a, vs, e, q, r⟩ := hx
          exact .inl (lists a vs e (.inr q) r)
        · cases hi
          obtain ⟨a, vs, e, q, r⟩ := lstD_of (d := .frl ys) R1 rfl hx
          exact .inl (lists a vs e (.inl q) r)
        · cases hi
          cases (show v = .str _ from hx)
          refine .inr ⟨_, rfl, ?_, fun l hl => (g.thru E1 R1).lst R1 (dvs_signs _) hl⟩
          rw [List.length_map, Array.length_toList] at hz
          exact hz
        · split at hi
          · rename_i zs hs
            cases hi
            obtain ⟨a, vs, e, q, r⟩ := lstD_of (d := .ref _) (xs := ys) R1 (by unfold lstD; simp only; rw [hs]) hx
            exact .inl (lists a vs e (.inl q) r)
          · rename_i zs hs
            cases hi
            obtain ⟨a, vs, e, q, r⟩ := lstD_of (d := .ref _) (xs := ys) R1 (by unfold lstD; simp only; rw [hs]) hx
            exact .inl (lists a vs e (.inl q) r)
          · cases hi
        · cases hi
      · cases ev
    · cases ev
theorem rg_eq1 {a : D} {ys : List D} {st : List Nat} (h : itR1 a = some (ys, st)) : ∃ j, a = .int j ∧ (-(2 ^ 62) ≤ j ∧ j < 2 ^ 62) ∧ ys = ((List.range j.toNat).map fun (k : Nat) => .int (0 + k)) ∧ st = [] := by
  unfold itR1 at h
  split at h
  · split at h
    · cases h
      exact ⟨_, rfl, by assumption, rfl, rfl⟩
    · cases h
  · cases h
theorem rg_eq2 {a b : D} {ys : List D} {st : List Nat} (h : itR2 a b = some (ys, st)) : ∃ i j, a = .int i ∧ b = .int j ∧ (-(2 ^ 62) ≤ i ∧ i < 2 ^ 62 ∧ -(2 ^ 62) ≤ j ∧ j < 2 ^ 62) ∧ ys = ((List.range (j - i).toNat).map fun (k : Nat) => .int (i + k)) ∧ st = [] := by
  unfold itR2 at h
  split at h
  · split at h
    · cases h
      exact ⟨_, _, rfl, rfl, by assumption, rfl, rfl⟩
    · cases h
  · cases h
theorem ev_two {c c2 : CE} {xs : List D} (h : evEs C (.cons c (.cons c2 .nil)) e S = some (xs, S')) : ∃ x y S1, xs = [x, y] ∧ evE C c e S = some (x, S1) ∧ evE C c2 e S1 = some (y, S') := by
  simp only [evEs] at h
  obtain ⟨x, S1, e1, h⟩ := bnd_some h
  obtain ⟨z, S2, e2, h⟩ := bnd_some h
  obtain ⟨y, S3, e3, h2⟩ := bnd_some e2
  simp only [bnd] at h2
  cases h2
  cases h
  exact ⟨x, y, S1, rfl, e1, e3⟩
theorem ok_colR1 {pr q : Pos} (hc : X.calm = true) (hg : Gl X "list") (hm : X.mg "list" = none) (hgr : Gl X "range") (hmr : X.mg "range" = none) (ha : PE X a (rdE W C ca)) (hs : notStar a = true) :
    PE X (.Call (.Name "list" p) [.Call (.Name "range" pr) [a] [] q] [] pos) (rdE W C (.col .range (.cons ca .nil))) :=
  (pe_listRg hc hg hm (prg_1 hgr hmr ha (star_cons hs)) (star_cons rfl)).w fun σ H Q ⟨ι, S, e, d, S', R, Ve, ev, g⟩ => by
    simp only [evE] at ev
    obtain ⟨xs, S1, e1, ev⟩ := bnd_some ev
    obtain ⟨x, rfl, e1'⟩ := ev_one e1
    split at ev
    · rename_i ys st hi
      split at ev
      · rename_i hz
        cases ev
        obtain ⟨j, rfl, h1, rfl, rfl⟩ := rg_eq1 hi
        refine rdE_then R Ve e1' fun ι1 H1 v E1 R1 hv V1 => ⟨j, hv, ⟨by decide, by decide, h1.1, h1.2, by rw [Int.sub_zero]; simp only [List.length_map, List.length_range] at hz; exact Nat.le_trans hz (by decide)⟩, fun l hl => ?_⟩
        have e0 : rgV 0 j = (List.range j.toNat).map fun (k : Nat) => V.int (0 + k) := by unfold rgV; rw [Int.sub_zero]
        rw [e0]
        exact (g.thru E1 R1).lst R1 (dvs_range 0 _) hl
      · cases ev
    · cases ev
theorem ok_colR2 {pr q : Pos} (hc : X.calm = true) (hg : Gl X "list") (hm : X.mg "list" = none) (hgr : Gl X "range") (hmr : X.mg "range" = none) (ha : PE X a (rdE W C ca)) (hb : PE X b (rdE W C cb)) (hs : notStar a = true) (hs2 : notStar b = true) :
    PE X (.Call (.Name "list" p) [.Call (.Name "range" pr) [a, b] [] q] [] pos) (rdE W C (.col .range (.cons ca (.cons cb .nil)))) :=
  (pe_listRg hc hg hm (prg_2 hgr hmr ha hb (star_cons hs) (star_cons hs2) (back_any (by rw [List.all_cons, hs2]; rfl))) (star_cons rfl)).w fun σ H Q ⟨ι, S, e, d, S', R, Ve, ev, g⟩ => by
    simp only [evE] at ev
    obtain ⟨xs, S1, e1, ev⟩ := bnd_some ev
    obtain ⟨x, y, S2, rfl, e2, e3⟩ := ev_two e1
    split at ev
    · rename_i ys st hi
      split at ev
      · rename_i hz
        cases ev
        obtain ⟨i, j, rfl, rfl, h1, rfl, rfl⟩ := rg_eq2 hi
        exact rdE_then R Ve e2 fun ι1 H1 v E1 R1 hv V1 => rdE_then R1 V1 e3 fun ι2 H2 w E2 R2 hw V2 => ⟨i, j, hv, hw, ⟨h1.1, h1.2.1, h1.2.2.1, h1.2.2.2, by simp only [List.length_map, List.length_range] at hz; exact Nat.le_trans hz (by decide)⟩, fun l hl => ((g.thru E1 R1).thru E2 R2).lst R2 (dvs_range i _) hl⟩
      · cases ev
    · cases ev

/-! ### dicts -/
theorem ok_dic0 : PE X (.Dict [] [] pos) (rdE W C (.dicE .nil .nil)) := pe_dnewK.w fun σ H Q ⟨ι, S, e, d, S', R, Ve, ev, g⟩ => by
  simp only [evE, evEs, bnd, optMap] at ev
  simp only [List.length_nil, Nat.zero_le, and_self, if_true, List.zip_nil_left, List.foldl_nil] at ev
  cases ev
  exact fun p hp => g.dk R .nil hp
/-- the keys that are written, with their values' readings -/
def trsOf (W : Wd) (C : Cal) : List Ky → CEs → List (TE × TE)
  | k :: ks, .cons v vs => (tC (kV k), rdE W C v) :: trsOf W C ks vs
  | _, _ => []
def kyE : Ky → CE
  | .inl i => .int i
  | .inr x => .str x
theorem keys_of : ∀ {ks : List (Option Expr)} {ks' : List CE}, oMap cKey ks = some ks' → ∃ ys : List Ky, ks' = ys.map kyE ∧ ks.all (·.isSome) = true ∧ Paired (fun k (y : Ky) => ∃ ex, k = some ex ∧ ∀ X : Cx, PE X ex (tC (kV y))) ks ys
  | [], _, h => by cases h; exact ⟨[], rfl, rfl, .nil⟩
  | k :: ks, _, h => by
    simp only [oMap] at h
    split at h
    · rename_i y ys hy hys
      cases h
      obtain ⟨zs, rfl, h2, h3⟩ := keys_of hys
      unfold cKey at hy
      split at hy
      · cases hy
        exact ⟨.inr _ :: zs, rfl, by rw [List.all_cons, h2]; rfl, .cons ⟨_, rfl, fun X => pe_str⟩ h3⟩
      · cases hy
        exact ⟨.inl _ :: zs, rfl, by rw [List.all_cons, h2]; rfl, .cons ⟨_, rfl, fun X => pe_int⟩ h3⟩
      · cases hy
    · cases h
theorem pairs_read : ∀ {ks : List Ky} {vs : CEs} {ι : List Addr} {S : Sto} {H : Hp} {ds : List D} {Q : List (V × V) → Hp → Prop}, Rep W ι S H → EnV W ι H e σ → evEs C vs e S = some (ds, S1) → ks.length = ds.length →
    (∀ ι1 H1 ws, Ext ι S H ι1 S1 H1 → Rep W ι1 S1 H1 → DVs W ι1 H1 ds ws → Q ((ks.zip ws).map fun kv => (kV kv.1, kv.2)) H1) → tPairs (trsOf W C ks vs) σ H Q
  | [], .nil, _, _, _, _, Q, R, Ve, ev, hl, k => by
    simp only [evEs] at ev
    cases ev
    exact k _ _ [] .refl R rfl
  | [], .cons v vs, _, _, _, _, Q, R, Ve, ev, hl, k => by
    simp only [evEs] at ev
    obtain ⟨x, S2, e1, ev⟩ := bnd_some ev
    obtain ⟨xs, S3, e2, ev⟩ := bnd_some ev
    cases ev
    cases hl
  | y :: ys, .nil, _, _, _, _, Q, R, Ve, ev, hl, k => by
    simp only [evEs] at ev
    cases ev
    cases hl
  | y :: ys, .cons v vs, _, _, _, _, Q, R, Ve, ev, hl, k => by
    simp only [evEs] at ev
    obtain ⟨x, S2, e1, ev⟩ := bnd_some ev
    obtain ⟨xs, S3, e2, ev⟩ := bnd_some ev
    cases ev
    show rdE W C v σ _ _
    refine rdE_then R Ve e1 fun ι1 H1 u E1 R1 hu V1 => pairs_read R1 V1 e2 (by simpa using hl) fun ι2 H2 ws E2 R2 hw => ?_
    exact k ι2 H2 (u :: ws) (E1.trans R1 E2) R2 ⟨u, ws, rfl, DV.mono E2 R1 _ _ hu, hw⟩
theorem ev_keys : ∀ {ys : List Ky} {S : Sto}, evEs C (esOf (ys.map kyE)) e S = some (ys.map kyD, S)
  | [], _ => by simp only [List.map_nil, esOf, evEs]
  | y :: ys, S => by
    simp only [List.map_cons, esOf, evEs]
    cases y <;> simp only [kyE, evE, bnd, ev_keys (ys := ys), kyD]
theorem keyOf_kyD : ∀ ys : List Ky, optMap keyOf (ys.map kyD) = some ys
  | [] => rfl
  | y :: ys => by
    simp only [List.map_cons, optMap, keyOf_kyD ys]
    cases y <;> rfl
theorem zip_kv : ∀ {ks : List Ky} {ds : List D} {ws : List V}, DVs W ι H ds ws → KVr W ι H (ks.zip ds) (ks.zip ws)
  | [], _, _, _ => by simp only [List.zip_nil_left]; exact .nil
  | k :: ks, [], _, h => by rw [show _ = [] from h]; exact .nil
  | k :: ks, d :: ds, _, ⟨v, r, e, h, q⟩ => by
    rw [e]
    exact .cons ⟨rfl, h⟩ (zip_kv q)
theorem ok_dic {ks : List (Option Expr)} {vs : List Expr} {ys : List Ky} (hk : Paired (fun k (y : Ky) => ∃ ex, k = some ex ∧ ∀ X : Cx, PE X ex (tC (kV y))) ks ys) (hall : ks.all (·.isSome) = true) (hl : ks.length = vs.length) (h15 : ks.length ≤ 15)
    (hv : ∀ (trs : List (TE × TE)), trs = trsOf W C ys cs → PPs X pos ks vs trs) : PE X (.Dict ks vs pos) (rdE W C (.dicE (esOf (ys.map kyE)) cs)) := by
  by_cases h0 : ks = []
  · subst h0
    cases hk
    have e0 : vs = [] := List.eq_nil_of_length_eq_zero hl.symm
    subst e0
    refine (pe_dnewK (X := X) (pos := pos)).w fun σ H Q ⟨ι, S, e, d, S', R, Ve, ev, g⟩ => ?_
    simp only [evE] at ev
    obtain ⟨xs, S1, e1, ev⟩ := bnd_some ev
    rw [ev_keys] at e1
    cases e1
    obtain ⟨ds, S2, e2, ev⟩ := bnd_some ev
    rw [keyOf_kyD] at ev
    simp only at ev
    split at ev
    · rename_i hz
      have hd : ds = [] := List.eq_nil_of_length_eq_zero hz.1.symm
      subst hd
      cases ev
      cases cs with
      | nil =>
        simp only [evEs] at e2
        cases e2
        exact fun p hp => g.dk R .nil hp
      | cons z zs =>
        simp only [evEs] at e2
        obtain ⟨x, S3, e3, e2⟩ := bnd_some e2
        obtain ⟨xs, S4, e4, e2⟩ := bnd_some e2
        cases e2
    · cases ev
  · refine (pe_disp (hv _ rfl) hall hl h0 h15).w fun σ H Q ⟨ι, S, e, d, S', R, Ve, ev, g⟩ => ?_
    simp only [evE] at ev
    obtain ⟨xs, S1, e1, ev⟩ := bnd_some ev
    rw [ev_keys] at e1
    cases e1
    obtain ⟨ds, S2, e2, ev⟩ := bnd_some ev
    rw [keyOf_kyD] at ev
    simp only at ev
    split at ev
    · rename_i hz
      cases ev
      intro p hp
      obtain ⟨R0, E0⟩ := R.put hp (.dK [])
      have hn : p ∉ ι := R.fresh hp
      refine pairs_read R0 (Ve.mono E0 R) e2 (by simpa using hz.1) fun ι1 H1 ws E1 R1 hw => ?_
      have hp1 : H1 p = some (.dK []) := E1.keep p _ upd_same (fun ps z => nomatch z) fun z => absurd z hn
      have hn1 := not_in E1 upd_same hn
      refine ⟨hp1, ys.zip ws, rfl, ?_, ?_⟩
      · rw [List.length_zip]
        have := hz.2
        simp only [List.length_map] at this
        omega
      · have E := E0.trans R0 E1
        have hi : ∀ (n : Nat) a, ι1[n]? = some a → (ι1 ++ [p])[n]? = some a := fun n a h => by
          rw [List.getElem?_append_left (List.getElem?_eq_some_iff.mp h).1]
          exact h
        have ho : OV W (ι1 ++ [p]) (upd H1 p (.dK (mergeK [] (ys.zip ws)))) p (.dk ((ys.zip ds).foldl (fun m kv => putK kv.1 kv.2 m) [])) :=
          ⟨_, upd_same, KVr.gen hi (own_keep hp1 trivial) (merge_kv (zip_kv hw) .nil)⟩
        obtain ⟨R2, E2⟩ := adopt E R1 hp hn1 hp1 trivial ho
        refine g _ _ _ E2 R2 ⟨p, rfl, ?_⟩
        rw [← R1.len, List.getElem?_append_right (Nat.le_refl _)]
        simp
    · cases ev

/-! ### calls of own defs -/
theorem ok_call {f : Addr} {fd : FuncData} {ps : List Str} {k id : Nat} {x : Str} (F : FnG X.prog X.w X.K X.mg X.base k f fd ps (spF W C id)) (hr : Room k X.A) (hgd : X.A.guards = some []) (hg : Gl X x) (hm : X.mg x = some (.ref f)) (hk : PySem.W.keepIn X.K (.ref f) = true) (hb : Binds X.K fd ps [])
    (ha : PA X es (rdA W C cs)) (hs : es.all notStar = true) (h0 : es = [] → cs = .nil) (hdb : x ≠ "__debug__") : PE X (.Call (.Name x p) es [] pos) (rdE W C (.call id cs [])) := by
  have key : ∀ σ H Q, rdE W C (.call id cs []) σ H Q → rdA W C cs σ H fun vs H1 => spF W C id vs H1 Q := fun σ H Q ⟨ι, S, e, d, S', R, Ve, ev, g⟩ => by
    simp only [evE] at ev
    obtain ⟨xs, S1, e1, ev⟩ := bnd_some ev
    exact rdA_then R Ve e1 fun ι1 H1 vs E1 R1 hv V1 => ⟨ι1, S1, xs, d, S', R1, .of hv, ev, g.thru E1 R1⟩
  cases es with
  | nil =>
    have e0 := h0 rfl
    subst e0
    refine (pe_callG0 F hr hgd hg hm hk hb (beq_eq_false_iff_ne.mpr hdb)).w fun σ H Q ⟨ι, S, e, d, S', R, Ve, ev, g⟩ => ?_
    simp only [evE, evEs, bnd] at ev
    exact ⟨ι, S, [], d, S', R, rfl, ev, g⟩
  | cons e0 es => exact (pe_callG F hr hgd hg hm hk hb ha hs (beq_eq_false_iff_ne.mpr hdb)).w fun σ H Q h => key σ H Q h
end
end PC
end
section
set_option Elab.async false
set_option linter.all false
set_option maxRecDepth 100000
set_option maxHeartbeats 1000000
/-! PC: calls with names, what loops walk over, list comprehensions. -/
namespace PC
open PySem L2
section
variable {W : Wd} {C : Cal} {ι ι' ι1 ι2 : List Addr} {S S' S0 S1 S2 : Sto} {H H' H1 H2 : Hp} {e e' : En} {σ σ' : L2.St} {X : Cx} {a b c : Expr} {ca cb cc : CE} {pos p : Pos} {es : List Expr} {cs : CEs}
/-! ### calls with names -/
def litX : D → D
  | .bl b => .bl b
  | .int i => .int i
  | .str x => .str x
  | _ => .non
def litV : D → V
  | .bl b => .bl b
  | .int i => .int i
  | .str x => .str x
  | _ => .non
theorem lit_dv (d : D) : DV W ι H (litX d) (litV d) := by cases d <;> rfl
theorem lit_dvs : ∀ ds : List D, DVs W ι H (ds.map litX) (ds.map litV)
  | [] => rfl
  | d :: ds => ⟨_, _, rfl, lit_dv d, lit_dvs ds⟩
theorem ev_lit (d : D) : evE C (litD d) e S = some (litX d, S) := by cases d <;> simp only [litD, litX, evE]
theorem ev_lits : ∀ ds : List D, evEs C (esOf (ds.map litD)) e S = some (ds.map litX, S)
  | [] => by simp only [List.map_nil, esOf, evEs]
  | d :: ds => by simp only [List.map_cons, esOf, evEs, ev_lit, bnd, ev_lits ds]
theorem ev_ap : ∀ {a b : CEs} {S S' : Sto} {zs : List D}, evEs C (apEs a b) e S = some (zs, S') → ∃ xs ys S1, evEs C a e S = some (xs, S1) ∧ evEs C b e S1 = some (ys, S') ∧ zs = xs ++ ys
  | .nil, b, S, S', zs, h => ⟨[], zs, S, by simp only [evEs], h, rfl⟩
  | .cons a r, b, S, S', zs, h => by
    simp only [apEs, evEs] at h
    obtain ⟨x, S1, e1, h⟩ := bnd_some h
    obtain ⟨xs, S2, e2, h⟩ := bnd_some h
    cases h
    obtain ⟨ys, ws, S3, h1, h2, rfl⟩ := ev_ap e2
    exact ⟨x :: ys, ws, S3, by simp only [evEs, e1, h1, bnd], h2, rfl⟩
theorem pick_dvs : ∀ {ix : List Nat} {as : List D} {bs : List V} {zs : List D} {ws : List V}, DVs W ι H as bs → optMap (fun i => as[i]?) ix = some zs → optMap (fun i => bs[i]?) ix = some ws → DVs W ι H zs ws
  | [], _, _, _, _, _, h1, h2 => by
    cases h1
    cases h2
    rfl
  | i :: r, as, bs, _, _, h, h1, h2 => by
    obtain ⟨y, ys, rfl, q1, q2⟩ := optMap_cons h1
    obtain ⟨z, zs, rfl, q3, q4⟩ := optMap_cons h2
    obtain ⟨v, q5, q6⟩ := DVs.get h q1
    have q3' : bs[i]? = some z := q3
    rw [q5] at q3'
    cases q3'
    exact ⟨_, _, rfl, q6, pick_dvs h q2 q4⟩
theorem kw_facts {env : Env} {pos : Pos} : ∀ {ks : List Keyword} {ns : List Str}, oMap (·.arg) ks = some ns → (backToKw pos (keywordEach ks env)).all (·.1.isSome) = true ∧ (backToKw pos (keywordEach ks env)).filterMap (·.1) = ns ∧ (backToKw pos (keywordEach ks env)).any (·.1.isNone) = false
  | [], _, h => by cases h; exact ⟨rfl, rfl, rfl⟩
  | ⟨none, v, kp⟩ :: r, _, h => by
    simp only [oMap] at h
    cases h
  | ⟨some y, v, kp⟩ :: r, _, h => by
    simp only [oMap] at h
    split at h
    · rename_i y' ys hy hys
      cases hy
      cases h
      obtain ⟨h1, h2, h3⟩ := kw_facts (env := env) (pos := pos) hys
      have e : backToKw pos (keywordEach (⟨some y, v, kp⟩ :: r) env) = (some y, do let v ← eval v env; standAt pos; pure v) :: backToKw pos (keywordEach r env) := rfl
      rw [e]
      exact ⟨by rw [List.all_cons, h1]; rfl, by rw [List.filterMap_cons]; simp only; rw [h2], by rw [List.any_cons, h3]; rfl⟩
    · cases h
theorem ok_pk : ∀ {ks : List Keyword} {cs : CEs} {r : Expr → Option CE}, (∀ a ca, r a = some ca → PE X a (rdE W C ca)) → cEs r (ks.map (·.value)) = some cs → PK X ks (rdA W C cs)
  | [], _, r, hr, h => by
    cases h
    exact pk_nil.w fun σ H Q ⟨ι, S, e, ds, S', R, V, ev, g⟩ => by
      simp only [evEs] at ev
      cases ev
      exact g _ _ _ .refl R rfl
  | ⟨nm, v, kp⟩ :: ks, _, r, hr, h => by
    simp only [List.map_cons, cEs] at h
    split at h
    · split at h
      · rename_i x xs hx hxs
        cases h
        exact (pk_cons (hr _ _ hx) (ok_pk hr hxs)).w fun _ _ _ => rd_cons
      · cases h
    · cases h
theorem ok_callK {f : Addr} {fd : FuncData} {ps : List Str} {k id : Nat} {x : Str} {ks : List Keyword} {ck : CEs} {ns : List Str} {ix : List Nat} {dfl : List D} (F : FnG X.prog X.w X.K X.mg X.base k f fd ps (spF W C id)) (hr : Room k X.A) (hgd : X.A.guards = some []) (hg : Gl X x) (hm : X.mg x = some (.ref f)) (hk : PySem.W.keepIn X.K (.ref f) = true)
    (hb : KB X.K fd ps es.length ns ix (dfl.map litV)) (ha : PA X es (rdA W C cs)) (hs : es.all notStar = true) (h0 : es = [] → cs = .nil) (hl : cs.len = es.length) (hkw : PK X ks (rdA W C ck)) (hkl : ck.len = ns.length) (hns : oMap (·.arg) ks = some ns) (hix : ix ≠ []) (hdb : x ≠ "__debug__") :
    PE X (.Call (.Name x p) es ks pos) (rdE W C (.call id (apEs cs (apEs ck (esOf (dfl.map litD)))) ix)) := by
  have evl : ∀ {cs : CEs} {e : En} {S S' : Sto} {ds : List D}, evEs C cs e S = some (ds, S') → ds.length = cs.len := by
    intro cs
    induction cs using CEs.rec (motive_1 := fun _ => True) (motive_3 := fun _ => True) with
    | nil =>
      intro e S S' ds h
      simp only [evEs] at h
      cases h
      rfl
    | cons a r _ ih =>
      intro e S S' ds h
      simp only [evEs] at h
      obtain ⟨x, S1, e1, h⟩ := bnd_some h
      obtain ⟨xs, S2, e2, h⟩ := bnd_some h
      cases h
      rw [List.length_cons, ih e2]
      rfl
    | _ => trivial
  obtain ⟨k1, k2, k3⟩ := kw_facts (env := X.env) (pos := pos) hns
  have key : ∀ σ H Q, rdE W C (.call id (apEs cs (apEs ck (esOf (dfl.map litD)))) ix) σ H Q →
      rdA W C cs σ H fun vs H1 => rdA W C ck σ H1 fun zs H2 => vs.length = es.length ∧ zs.length = ns.length ∧ ∀ ys, optMap (fun i => (vs ++ zs ++ dfl.map litV)[i]?) ix = some ys → spF W C id ys H2 Q := fun σ H Q ⟨ι, S, e, d, S', R, Ve, ev, g⟩ => by
    simp only [evE] at ev
    obtain ⟨xs, S1, e1, ev⟩ := bnd_some ev
    obtain ⟨x1, x2, S2, e2, e3, rfl⟩ := ev_ap e1
    obtain ⟨y1, y2, S3, e4, e5, rfl⟩ := ev_ap e3
    rw [ev_lits] at e5
    cases e5
    refine rdA_then R Ve e2 fun ι1 H1 vs E1 R1 hv V1 => rdA_then R1 V1 e4 fun ι2 H2 zs E2 R2 hz V2 => ⟨by rw [← DVs.length hv, evl e2, hl], by rw [← DVs.length hz, evl e4, hkl], fun ys hy => ?_⟩
    split at ev
    · rename_i zs' hzs
      unfold callIx at hzs
      rw [if_neg hix, ← List.append_assoc] at hzs
      exact ⟨ι2, _, zs', d, S', R2, .of <| pick_dvs (DVs.append (DVs.append (DVs.mono E2 R1 _ _ hv) hz) (lit_dvs dfl)) hzs hy, ev, (g.thru E1 R1).thru E2 R2⟩
    · cases ev
  cases es with
  | nil =>
    have e0 := h0 rfl
    subst e0
    refine ⟨fun pins s σ H Q I h => ?_⟩
    refine wpAny_Call_Name_kw (ld_glob I hg hm ?_ (beq_eq_false_iff_ne.mpr hdb))
    have h1 : rdA W C ck σ H fun zs H2 => ([] : List V).length = 0 ∧ zs.length = ns.length ∧ ∀ ys, optMap (fun i => ([] ++ zs ++ dfl.map litV)[i]?) ix = some ys → spF W C id ys H2 Q := by
      obtain ⟨ι, S, e, ds, S', R, Ve, ev, g⟩ := key σ H Q h
      simp only [evEs] at ev
      cases ev
      exact g ι H [] .refl R rfl
    refine PySem.W.callWith_KW0 (h₀ := X.base) I.ok.mod.kin hk k1 (thn (hkw.run pos pins s σ H _ I h1) fun ws s2 ⟨zs, H2, I2, rz, l1, l2, q2⟩ => ⟨I2.kIn, ?_⟩) (by rw [k3]; rfl)
    rw [k2]
    exact run_fnK F hr hgd hb I2 .nil rz rfl l2 q2
  | cons e0 es =>
    refine ⟨fun pins s σ H Q I h => ?_⟩
    refine wpAny_Call_Name_kw (ld_glob I hg hm ?_ (beq_eq_false_iff_ne.mpr hdb))
    have hs' := hs
    rw [List.all_cons, Bool.and_eq_true] at hs'
    refine PySem.W.callWith_KW (h₀ := X.base) I.ok.mod.kin hk k1 (thn (ha.run pos pins s σ H _ I (key σ H Q h)) fun us s1 ⟨vs, H1, I1, r, q⟩ => ?_) (by rw [back_any hs, k3]; rfl) (star_cons hs'.1)
    refine thn (hkw.run pos pins s1 σ H1 _ I1 q) fun ws s2 ⟨zs, H2, I2, rz, l1, l2, q2⟩ => ⟨I2.kIn, ?_⟩
    rw [k2]
    exact run_fnK F hr hgd hb I2 r rz l1 l2 q2

/-! ### what loops walk over -/
def wiS (W : Wd) (C : Cal) (src : Src) (cs : CEs) : TI := fun σ H R => ∃ ι S e as S1 xs st, Rep W ι S H ∧ EnV W ι H e σ ∧ evEs C cs e S = some (as, S1) ∧ itD src as S1 = some (xs, st) ∧
  ∀ ι1 H1 J, Ext ι S H ι1 S1 H1 → Rep W ι1 S1 H1 → WkD W J xs ι1 (st.foldl froz S1) H1 → R J H1
variable {tg : Expr}
theorem ok_srcV (hK : X.K = W.K) (ha : PE X a (rdE W C ca)) : PI X tg a (wiS W C .val (.cons ca .nil)) := by
  refine ⟨fun pins s σ H R I h => ?_⟩
  obtain ⟨ι, S, e, as, S1, xs, st, Rp, Ve, ev, hi, k⟩ := h
  obtain ⟨x, rfl, e1⟩ := ev_one ev
  replace hi : itV x S1 = some (xs, st) := hi
  unfold itV at hi
  split at hi
  · cases hi
    refine (pi_tup ha).run pins s σ H R I (rdE_then Rp Ve e1 fun ι1 H1 v E1 R1 hv V1 => ?_)
    obtain ⟨a, vs, rfl, q, r⟩ := hv
    rw [hK]
    exact ⟨a, rfl, ⟨vs, q⟩, k ι1 H1 _ E1 R1 (wk_tup R1 q r)⟩
  · cases hi
    refine (pi_list ha).run pins s σ H R I (rdE_then Rp Ve e1 fun ι1 H1 v E1 R1 hv V1 => ?_)
    obtain ⟨a, vs, rfl, q, r⟩ := hv
    rw [hK]
    refine ⟨a, rfl, ⟨vs, ?_⟩, k ι1 H1 _ E1 R1 (wk_const R1 (fun ι2 S2 H2 E2 => ?_) r)⟩
    · rcases q with ⟨o, q⟩ | q
      · exact .inl (.inr ⟨o, q⟩)
      · exact .inr q
    · rcases q with ⟨o, q⟩ | q
      · exact .inl (.inr ⟨o, E2.keep _ _ q (fun ps z => nomatch z) fun z => by
          obtain ⟨u, e, q'⟩ := R1.mem z
          rw [q] at e
          cases e
          exact q'.elim⟩)
      · exact .inr q
  · cases hi
    refine (pi_str ha).run pins s σ H R I (rdE_then Rp Ve e1 fun ι1 H1 v E1 R1 hv V1 => ?_)
    exact ⟨_, hv, k ι1 H1 _ E1 R1 wk_str⟩
  · rename_i n
    have lists : (S1[n]? = some (.lst xs) ∨ S1[n]? = some (.fro xs)) → st = [n] → wpAny (model X.prog X.w) X.A (eval a X.env) (fun v s1 => wpAny (model X.prog X.w) X.A (pyIter v) (PIE X pins σ tg R) X.xe s1) X.xe s := fun hs hst => by
      subst hst
      refine (pi_list ha).run pins s σ H R I (rdE_then Rp Ve e1 fun ι1 H1 v E1 R1 hv V1 => ?_)
      obtain ⟨a, rfl, hn⟩ := hv
      have ho : OV W ι1 H1 a (.fro xs) := by
        rcases hs with hs | hs
        · have z : OV W ι1 H1 a (.lst xs) := R1.ob n a _ hn hs
          exact z
        · exact R1.ob n a _ hn hs
      obtain ⟨vs, q, r⟩ := ho
      rw [hK]
      exact ⟨a, rfl, ⟨vs, .of q⟩, k ι1 H1 _ E1 R1 (wk_list (R1.froz (st := [n])) hn (frozL_fro List.mem_cons_self hs) q r)⟩
    split at hi
    · cases hi
      exact lists (.inl (by assumption)) rfl
    · cases hi
      exact lists (.inr (by assumption)) rfl
    · cases hi
  · cases hi
theorem ok_srcR1 {pr : Pos} (hg : Gl X "range") (hm : X.mg "range" = none) (ha : PE X a (rdE W C ca)) (hs : notStar a = true) : PI X tg (.Call (.Name "range" pr) [a] [] pos) (wiS W C .range (.cons ca .nil)) := by
  refine ⟨fun pins s σ H R I h => ?_⟩
  obtain ⟨ι, S, e, as, S1, xs, st, Rp, Ve, ev, hi, k⟩ := h
  obtain ⟨x, rfl, e1⟩ := ev_one ev
  obtain ⟨j, rfl, h1, rfl, rfl⟩ := rg_eq1 hi
  refine (pi_range1 hg hm (ok_cons ha ok_nil hs) (star_cons hs)).run pins s σ H R I (rdA_then Rp Ve ev fun ι1 H1 vs E1 R1 hv V1 => ?_)
  obtain ⟨v, rfl, hx⟩ := one_of hv
  exact ⟨j, by rw [show v = .int j from hx], h1.1, h1.2, k ι1 H1 _ E1 R1 wk_range⟩
theorem ok_srcR2 {pr : Pos} (hg : Gl X "range") (hm : X.mg "range" = none) (ha : PE X a (rdE W C ca)) (hs : notStar a = true) (hb : PE X b (rdE W C cb)) (hs2 : notStar b = true) : PI X tg (.Call (.Name "range" pr) [a, b] [] pos) (wiS W C .range (.cons ca (.cons cb .nil))) := by
  refine ⟨fun pins s σ H R I h => ?_⟩
  obtain ⟨ι, S, e, as, S1, xs, st, Rp, Ve, ev, hi, k⟩ := h
  obtain ⟨x, y, S2, rfl, e2, e3⟩ := ev_two ev
  obtain ⟨i, j, rfl, rfl, h1, rfl, rfl⟩ := rg_eq2 hi
  refine (pi_range2 hg hm (ok_cons ha (ok_cons hb ok_nil hs2) hs) ((star_cons hs).trans (by rw [star_cons hs2]; rfl)) (star_cons hs2)).run pins s σ H R I (rdA_then Rp Ve ev fun ι1 H1 vs E1 R1 hv V1 => ?_)
  obtain ⟨v, w, rfl, hx, hw⟩ := two_of hv
  exact ⟨i, j, by rw [show v = .int i from hx, show w = .int j from hw], h1, k ι1 H1 _ E1 R1 wk_range⟩
theorem lstR_of (R : Rep W ι S H) {d : D} {n : Nat} {xs : List D} {v : V} (h : lstR d S = some (n, xs)) (hv : DV W ι H d v) : ∃ a vs, v = .ref a ∧ ι[n]? = some a ∧ (S[n]? = some (.lst xs) ∨ S[n]? = some (.fro xs)) ∧ H a = some (.lst vs) ∧ DVs W ι H xs vs := by
  unfold lstR at h
  split at h
  · obtain ⟨a, rfl, hn⟩ := hv
    split at h
    · rename_i ys hs
      cases h
      obtain ⟨vs, q, r⟩ := R.ob _ a _ hn hs
      exact ⟨a, vs, rfl, hn, .inl hs, q, r⟩
    · rename_i ys hs
      cases h
      obtain ⟨vs, q, r⟩ := R.ob _ a _ hn hs
      exact ⟨a, vs, rfl, hn, .inr hs, q, r⟩
    · cases h
  · cases h
theorem ok_srcE {pr tp : Pos} {ts : List Expr} {kk : Nat} (hK : X.K = W.K) (hg : Gl X "enumerate") (hm : X.mg "enumerate" = none) (ha : PE X a (rdE W C ca)) (hs : notStar a = true) : PI X (.Tuple ts kk tp) (.Call (.Name "enumerate" pr) [a] [] pos) (wiS W C .enum (.cons ca .nil)) := by
  refine ⟨fun pins s σ H R I h => ?_⟩
  obtain ⟨ι, S, e, as, S1, xs, st, Rp, Ve, ev, hi, k⟩ := h
  obtain ⟨x, rfl, e1⟩ := ev_one ev
  obtain ⟨⟨n, ys⟩, h1, h2⟩ := Option.map_eq_some_iff.mp (show (lstR x S1).map _ = some (xs, st) from hi)
  cases h2
  refine (pi_enum hg hm (ok_cons ha ok_nil hs) (star_cons hs)).run pins s σ H R I (rdA_then Rp Ve ev fun ι1 H1 vs E1 R1 hv V1 => ?_)
  obtain ⟨v, rfl, hx⟩ := one_of hv
  obtain ⟨a, vs, rfl, hn, hs, q, r⟩ := lstR_of R1 h1 hx
  rw [hK]
  exact ⟨a, vs, rfl, .of q, k ι1 H1 _ E1 R1 (wk_enum (R1.froz (st := [n])) hn (frozL_fro List.mem_cons_self hs) q r)⟩
theorem ok_srcZ {pr tp : Pos} {ts : List Expr} {kk : Nat} (hK : X.K = W.K) (hg : Gl X "zip") (hm : X.mg "zip" = none) (ha : PE X a (rdE W C ca)) (hs : notStar a = true) (hb : PE X b (rdE W C cb)) (hs2 : notStar b = true) : PI X (.Tuple ts kk tp) (.Call (.Name "zip" pr) [a, b] [] pos) (wiS W C .zip (.cons ca (.cons cb .nil))) := by
  refine ⟨fun pins s σ H R I h => ?_⟩
  obtain ⟨ι, S, e, as, S1, xs, st, Rp, Ve, ev, hi, k⟩ := h
  obtain ⟨x, y, S2, rfl, e2, e3⟩ := ev_two ev
  unfold itD at hi
  simp only at hi
  split at hi
  · rename_i n xs' m ys h1 h2
    cases hi
    refine (pi_zip hg hm (ok_cons ha (ok_cons hb ok_nil hs2) hs) (star_cons hs) (back_any (by rw [List.all_cons, hs2]; rfl))).run pins s σ H R I (rdA_then Rp Ve ev fun ι1 H1 vs E1 R1 hv V1 => ?_)
    obtain ⟨v, w, rfl, hx, hw⟩ := two_of hv
    obtain ⟨a, vs, rfl, hn, hs, q, r⟩ := lstR_of R1 h1 hx
    obtain ⟨a2, vs2, rfl, hn2, hs2, q2, r2⟩ := lstR_of R1 h2 hw
    rw [hK]
    exact ⟨a, a2, vs, vs2, rfl, .of q, .of q2, k ι1 H1 _ E1 R1 (wk_zip (R1.froz (st := [n, m])) hn (frozL_fro List.mem_cons_self hs) q r hn2 (frozL_fro (List.mem_cons_of_mem _ List.mem_cons_self) hs2) q2 r2)⟩
  · cases hi
end
end PC
end
section
set_option Elab.async false
set_option linter.all false
set_option maxRecDepth 100000
set_option maxHeartbeats 1000000
/-! PC: targets, list comprehensions. -/
namespace PC
open PySem L2
section
variable {W : Wd} {C : Cal} {ι ι' ι1 ι2 : List Addr} {S S' S0 S1 S2 : Sto} {H H' H1 H2 : Hp} {e e' : En} {σ σ' : L2.St} {X : Cx} {a b c : Expr} {ca cb cc : CE} {pos p : Pos} {es : List Expr} {cs : CEs}
def rdG (W : Wd) (t : Tg) : TG := fun v σ H Q => ∃ ι S e d e', Rep W ι S H ∧ EnV W ι H e σ ∧ DV W ι H d v ∧ putT t d e = some e' ∧ ∀ σ', EnV W ι H e' σ' → σ'.length = σ.length → (∀ j : Nat, j ∉ t.ixs → σ'[j]? = σ[j]?) → Q σ' H
def gNs : List Nat → TGs
  | [] => gNil
  | i :: is => gCons (gName i) (gNs is)
theorem gns_ok : ∀ {is : List Nat} {xs : List D} {vs : List V} {e : En} {σ : L2.St} {Q : L2.St → Hp → Prop}, DVs W ι H xs vs → xs.length = is.length → EnV W ι H e σ →
    (∀ σ', EnV W ι H ((is.zip xs).foldl (fun e (i, x) => e.set i (some x)) e) σ' → σ'.length = σ.length → (∀ j : Nat, j ∉ is → σ'[j]? = σ[j]?) → Q σ' H) → gNs is vs σ H Q
  | [], [], vs, e, σ, Q, h, hl, Ve, k => ⟨h, k σ Ve rfl fun _ _ => rfl⟩
  | [], _ :: _, _, _, _, _, _, hl, _, _ => by cases hl
  | _ :: _, [], _, _, _, _, _, hl, _, _ => by cases hl
  | i :: is, x :: xs, vs, e, σ, Q, ⟨v, r, ev, h, q⟩, hl, Ve, k => by
    refine ⟨v, r, ev, gns_ok q (by simpa using hl) (Ve.set h) fun σ' V' l' o' => k σ' V' (l'.trans (List.length_set ..)) fun j hj => ?_⟩
    rw [o' j fun z => hj (List.mem_cons_of_mem _ z), List.getElem?_set_ne]
    rintro rfl
    exact hj List.mem_cons_self
theorem ixOf_at : ∀ {N : List Str} {x : Str} {i : Nat}, ixOf N x = some i → N[i]? = some x
  | [], _, _, h => by cases h
  | y :: r, x, i, h => by
    unfold ixOf at h
    split at h
    · rename_i hx
      cases h
      rw [hx]
      rfl
    · obtain ⟨j, e, rfl⟩ := Option.map_eq_some_iff.mp h
      have z := ixOf_at e
      simpa using z
/-- a name's slot that may be stored to -/
theorem nm_at {N : List Str} {sc : Scope} {ex : Expr} {i : Nat} (h : nmOf N sc ex = some i) : ∃ x p, ex = .Name x p ∧ locB sc x = true ∧ N[i]? = some x := by
  unfold nmOf at h
  split at h
  · split at h
    · exact ⟨_, _, rfl, by assumption, ixOf_at h⟩
    · cases h
  · cases h
structure StB (X : Cx) (x : Str) : Prop where
  loc : Loc X.env.scope x
  fn : X.fn x = true ∨ X.env.scope.names.lookup x = some .local
theorem ok_names {N : List Str} {sc : Scope} (hN : X.N = N) (hd : N.Nodup) : ∀ {es : List Expr} {is : List Nat}, oMap (nmOf N sc) es = some is → (∀ x ∈ (es.filterMap fun e => match e with | .Name x _ => some x | _ => none), StB X x) →
    PGs X es (gNs is) ∧ (assignEach es X.env).length = is.length ∧ (assignEach es X.env).findIdx? (·.1) = none
  | [], _, h, _ => by cases h; exact ⟨pgs_nil, rfl, rfl⟩
  | ex :: es, _, h, hs => by
    simp only [oMap] at h
    split at h
    · rename_i i is hi his
      cases h
      obtain ⟨x, p, rfl, hx, hn⟩ := nm_at hi
      have h1 := hs x (by rw [List.filterMap_cons]; exact List.mem_cons_self)
      obtain ⟨q1, q2, q3⟩ := ok_names hN hd his fun y hy => hs y (by rw [List.filterMap_cons]; exact List.mem_cons_of_mem _ hy)
      have e : assignEach (.Name x p :: es) X.env = (false, assign (.Name x p) X.env) :: assignEach es X.env := rfl
      refine ⟨pgs_cons (pg_name (by rw [hN]; exact hd) (by rw [hN]; exact hn) h1.loc h1.fn) q1 (by rw [e]; rfl), by rw [e, List.length_cons, q2]; rfl, ?_⟩
      rw [e, List.findIdx?_cons, q3]
      rfl
    · cases h
theorem ok_tg {N : List Str} {sc : Scope} {tg : Expr} {t : Tg} (hN : X.N = N) (hd : N.Nodup) (hc : X.calm = true) (hK : X.K = W.K) (h : tgOf N sc tg = some t) (hs : ∀ x ∈ tgNms tg, StB X x) : PG X tg (rdG W t) := by
  unfold tgOf at h
  split at h
  · rename_i x p
    obtain ⟨i, hi, rfl⟩ := Option.map_eq_some_iff.mp h
    obtain ⟨x', p', e, hx, hn⟩ := nm_at hi
    cases e
    have h1 := hs x List.mem_cons_self
    refine ⟨fun pins s σ H v u Q I r q => (pg_name (by rw [hN]; exact hd) (by rw [hN]; exact hn) h1.loc h1.fn).run pins s σ H v u Q I r ?_⟩
    obtain ⟨ι, S, e, d, e', R, Ve, hv, hp, k⟩ := q
    cases hp
    refine k _ (Ve.set hv) (List.length_set ..) fun j hj => List.getElem?_set_ne ?_
    rintro rfl
    exact hj List.mem_cons_self
  · rename_i es kk tp
    obtain ⟨is, hi, rfl⟩ := Option.map_eq_some_iff.mp h
    obtain ⟨q1, q2, q3⟩ := ok_names hN hd hi hs
    refine ⟨fun pins s σ H v u Q I r q => (pg_tup hc q1 q2 q3).run pins s σ H v u Q I r ?_⟩
    obtain ⟨ι, S, e, d, e', R, Ve, hv, hp, k⟩ := q
    unfold putT at hp
    simp only at hp
    split at hp
    · split at hp
      · rename_i hl
        cases hp
        obtain ⟨a, vs, rfl, hq, hd⟩ := hv
        exact ⟨a, vs, rfl, by rw [hK]; exact hq, by rw [← DVs.length hd]; exact hl, gns_ok hd hl Ve k⟩
      · cases hp
    · cases hp
  · cases h

/-! ### list comprehensions -/
theorem wipe_in : ∀ {vs : List Nat} {i : Nat}, i ∈ vs → i < σ.length → (L2.wipe σ vs)[i]? = some none
  | v :: vs, i, h, hl => by
    unfold L2.wipe
    by_cases e : v = i
    · subst e
      exact List.getElem?_set_self (by rw [wipe_length]; exact hl)
    · rw [List.getElem?_set_ne e]
      rcases List.mem_cons.mp h with z | z
      · exact absurd z.symm e
      · exact wipe_in z hl
theorem wipe_same {own : List Nat} (hl : σ'.length = (L2.wipe σ own).length) (h : ∀ j : Nat, j ∉ own → σ'[j]? = (L2.wipe σ own)[j]?) : L2.wipe σ' own = L2.wipe σ own := by
  rw [wipe_length] at hl
  refine List.ext_getElem? fun i => ?_
  by_cases hi : i ∈ own
  · by_cases hn : i < σ.length
    · rw [wipe_in hi hn, wipe_in hi (by omega)]
    · rw [List.getElem?_eq_none (by rw [wipe_length]; omega), List.getElem?_eq_none (by rw [wipe_length]; omega)]
  · rw [wipe_out hi, h i hi]
/-- the turn of a comprehension -/
abbrev lcT (C : Cal) (elt : CE) (tg : Tg) (ifs : CEs) (own : List Nat) (e : En) : D → Sto → Option (Option D × Sto) := lcTn (tstEs C ifs) (evE C elt) tg (wipe e own)
theorem ev_lc {elt : CE} {tg : Tg} {src : Src} {it ifs : CEs} {own : List Nat} {d : D} (h : evE C (.lc elt tg src it ifs own) e S = some (d, S')) :
    ∃ as S1 xs st ys S3, evEs C it e S = some (as, S1) ∧ itD src as S1 = some (xs, st) ∧ lcLoop (lcT C elt tg ifs own e) xs (st.foldl froz S1) = some (ys, S3) ∧ ys.length < line ∧ new (.lst ys) (st.foldl (thaw S1) S3) = some (d, S') := by
  simp only [evE] at h
  obtain ⟨as, S1, e1, h⟩ := bnd_some h
  split at h
  · rename_i ys S2 hr
    split at h
    · rename_i hz
      unfold lcRun at hr
      split at hr
      · rename_i xs st hi
        split at hr
        · rename_i ys' S3 hl
          cases hr
          exact ⟨as, S1, xs, st, ys, S3, e1, hi, hl, hz, h⟩
        · cases hr
      · cases hr
    · cases h
  · cases h
theorem lc_ok {elt : CE} {tg : Tg} {src : Src} {it ifs : CEs} {own : List Nat} (hown : ∀ i ∈ tg.ixs, i ∈ own) (σ : L2.St) (H : Hp) (Q : VK) (h : rdE W C (.lc elt tg src it ifs own) σ H Q) :
    tLc (wiS W C src it) (rdG W tg) (rdTs W C ifs) (rdE W C elt) own σ H Q := by
  obtain ⟨ι0, S0, e, d, S', R0, Ve, ev, g⟩ := h
  obtain ⟨as, S1, xs, st, ys, S3, e1, hi, hlp, hz, hnew⟩ := ev_lc ev
  cases hnew
  refine ⟨ι0, S0, e, as, S1, xs, st, R0, Ve, e1, hi, fun ι1 H1 J E1 R1 w => ?_⟩
  obtain ⟨G, Y, wk, hY⟩ := w
  intro A hA
  have Rf : Rep W ι1 (st.foldl froz S1) H1 := R1.froz
  have hA1 : A ∉ ι1 := R1.fresh hA
  refine lc_it wk (fun i H => ∃ ι S acc vs rest, Ext ι1 (st.foldl froz S1) H1 ι S H ∧ Rep W ι S H ∧ A ∉ ι ∧ H A = some (.lst vs) ∧ DVs W ι H acc vs ∧ lcLoop (lcT C elt tg ifs own e) (xs.drop i) S = some (rest, S3) ∧ acc ++ rest = ys) ?_ ?_ ?_ ?_
  · obtain ⟨Rp, Ep⟩ := Rf.put hA (.lst [])
    exact ⟨ι1, _, [], [], ys, Ep, Rp, hA1, upd_same, rfl, hlp, rfl⟩
  · rintro i H hi ⟨ι, S, acc, vs, rest, E, R, hn, hq, hd, hl, he⟩
    exact (hY ι S H E R).1
  · rintro i x H H' hi ⟨ι, S, acc, vs, rest, E, R, hn, hq, hd, hl, he⟩ hy
    obtain ⟨R', E', dx, hx, hdx⟩ := (hY ι S H E R).2 i x H' hi hy
    have hq' : H' A = some (.lst vs) := E'.keep A _ hq (fun ps z => nomatch z) fun z => absurd z hn
    have hd' := DVs.mono E' R _ _ hd
    have e0 : xs.drop i = dx :: xs.drop (i + 1) := by
      rw [List.drop_eq_getElem_cons hi]
      rw [List.getElem?_eq_getElem hi] at hx
      cases hx
      rfl
    rw [e0] at hl
    simp only [lcLoop] at hl
    split at hl
    · rename_i o S4 ho
      split at hl
      · rename_i rest' S5 hl'
        cases hl
        unfold lcT lcTn at ho
        split at ho
        · rename_i e2 hp
          have Vw : EnV W ι H' (wipe e own) (L2.wipe σ own) := by
            have z1 := Ve.mono E1 R0
            have z2 := z1.mono (fr_refl (st := st)) R1
            have z3 := z2.mono E Rf
            exact (z3.mono E' R).wipe own
          refine ⟨ι, S, _, dx, e2, R', Vw, hdx, hp, fun σ2 V2 l2 o2 => ⟨wipe_same l2 fun j hj => o2 j fun z => hj (hown j z), ?_⟩⟩
          have Eb : Ext ι1 (st.foldl froz S1) H1 ι S H' := E.trans R E'
          split at ho
          · rename_i S6 ht
            split at ho
            · rename_i y S7 hv
              cases ho
              refine ⟨ι, S, e2, true, S6, R', V2, ht, fun ι3 H3 E3 R3 => ?_⟩
              simp only [if_true]
              have hq3 : H3 A = some (.lst vs) := E3.keep A _ hq' (fun ps z => nomatch z) fun z => absurd z hn
              have hn3 := not_in E3 hq' hn
              refine rdE_then R3 (V2.mono E3 R') hv fun ι4 H4 u E4 R4 hu V4 => ?_
              have hq4 : H4 A = some (.lst vs) := E4.keep A _ hq3 (fun ps z => nomatch z) fun z => absurd z hn3
              have hn4 := not_in E4 hq3 hn3
              have hd4 := DVs.mono E4 R3 _ _ (DVs.mono E3 R' _ _ hd')
              refine ⟨vs, hq4, ?_, ι4, _, acc ++ [y], vs ++ [u], rest', ?_, R4.beside hn4 hq4 trivial, hn4, upd_same, ?_, hl', ?_⟩
              · rw [← DVs.length hd]
                have : (acc ++ ([y] ++ rest')).length = ys.length := by rw [← he]; rfl
                simp only [List.length_append, List.length_singleton] at this
                have h2 : line = sizeLine := rfl
                omega
              · exact ((Eb.trans R' E3).trans R3 E4).beside hA
              · exact DVs.gen (fun _ _ h => h) (own_keep hq4 trivial) _ _ (DVs.append hd4 ⟨u, [], rfl, hu, rfl⟩)
              · rw [← he, List.append_assoc]
                rfl
            · cases ho
          · rename_i S6 ht
            cases ho
            refine ⟨ι, S, e2, false, S4, R', V2, ht, fun ι3 H3 E3 R3 => ?_⟩
            simp only [Bool.false_eq_true, if_false]
            have hq3 : H3 A = some (.lst vs) := E3.keep A _ hq' (fun ps z => nomatch z) fun z => absurd z hn
            exact ⟨ι3, _, acc, vs, rest', Eb.trans R' E3, R3, not_in E3 hq' hn, hq3, DVs.mono E3 R' _ _ hd', hl', he⟩
          · cases ho
        · cases ho
      · cases hl
    · cases hl
  · rintro H ⟨ι, S, acc, vs, rest, E, R, hn, hq, hd, hl, he⟩
    rw [List.drop_length] at hl
    simp only [lcLoop] at hl
    cases hl
    rw [List.append_nil] at he
    subst he
    obtain ⟨R2, E2⟩ := loop_end E R
    have eu : upd H A (.lst vs) = H := by
      funext b
      unfold upd
      split
      · rename_i hb
        rw [hb, hq]
      · rfl
    have hi : ∀ (n : Nat) a, ι[n]? = some a → (ι ++ [A])[n]? = some a := fun n a h => by
      rw [List.getElem?_append_left (List.getElem?_eq_some_iff.mp h).1]
      exact h
    have ho : OV W (ι ++ [A]) (upd H A (.lst vs)) A (.lst acc) := ⟨vs, upd_same, DVs.gen hi (own_keep hq trivial) _ _ hd⟩
    obtain ⟨R3, E3⟩ := adopt (u' := .lst vs) E2 R2 hA hn hq trivial ho
    rw [eu] at R3 E3
    refine g _ _ _ (E1.trans R1 E3) R3 ⟨A, rfl, ?_⟩
    rw [← R2.len, List.getElem?_append_right (Nat.le_refl _)]
    simp
theorem rdTs_nil {X : Cx} : PTs X [] (rdTs W C .nil) := pts_nil.w fun σ H Q ⟨ι, S, e, b, S', R, Ve, ev, g⟩ => by
  simp only [tstEs] at ev
  cases ev
  exact g.here R
theorem rdTs_one {X : Cx} (h : PT X a (rdT W C ca)) : PTs X [a] (rdTs W C (.cons ca .nil)) := (pts_one h).w fun σ H Q ⟨ι, S, e, b, S', R, Ve, ev, g⟩ => by
  simp only [tstEs] at ev
  obtain ⟨x, S1, e1, ev⟩ := bnd_some ev
  split at ev
  · rename_i ht
    cases ev
    exact ⟨ι, S, e, true, S', R, Ve, tst_of e1 ht, g⟩
  · rename_i ht
    cases ev
    exact ⟨ι, S, e, false, S', R, Ve, tst_of e1 ht, g⟩
  · cases ev
end
end PC
end
section
set_option Elab.async false
set_option linter.all false
set_option maxRecDepth 100000
set_option maxHeartbeats 1000000
/-! PC: lambdas handed on and called. -/
namespace PC
open PySem L2
/-! ### lent things put away -/
/-- without what stands at A -/
def dropA (A : List Addr) (H : Hp) : Hp := fun a => if a ∈ A then none else H a
/-- what H has at A put back -/
def putA (A : List Addr) (H H1 : Hp) : Hp := fun a => if a ∈ A then H a else H1 a
/-- lent: known by their objects, no code, no table -/
def Lent (H : Hp) (A : List Addr) : Prop := ∀ a ∈ A, ∃ o, H a = some (ObO a o) ∧ ∀ vs, o.data ≠ .fields vs
section
variable {W : Wd} {C : Cal} {ι ι' ι1 ι2 : List Addr} {S S' S0 S1 S2 : Sto} {H H' H1 H2 : Hp} {e e' : En} {σ σ' : L2.St} {X : Cx} {P : Program} {w : World} {h : Heap} {A : List Addr}
theorem drop_in {a : Addr} (h : a ∈ A) : dropA A H a = none := if_pos h
theorem drop_out {a : Addr} (h : a ∉ A) : dropA A H a = H a := if_neg h
theorem drop_some {a : Addr} {o : HO} (h : dropA A H a = some o) : a ∉ A ∧ H a = some o := by
  by_cases q : a ∈ A
  · rw [drop_in q] at h
    cases h
  · exact ⟨q, by rw [← h, drop_out q]⟩
theorem drop_none {a : Addr} (h : H a = none) : dropA A H a = none := by
  unfold dropA
  split
  · rfl
  · exact h
theorem back_in {a : Addr} (h : a ∈ A) : putA A H H1 a = H a := if_pos h
theorem back_out {a : Addr} (h : a ∉ A) : putA A H H1 a = H1 a := if_neg h
theorem obo_get (ok : HOk P w H h) {a : Addr} {o : Obj} (e : H a = some (ObO a o)) : h.get? a = some o := by
  obtain ⟨z, _, _⟩ := ok a _ e
  exact z
theorem Lent.not {a : Addr} {u : HO} (L : Lent H A) (e : H a = some u) (ne : ∀ φ, u ≠ .ext φ) : a ∉ A := fun z => by
  obtain ⟨o, q, _⟩ := L a z
  rw [e] at q
  exact ne _ (Option.some.inj q)
theorem Lent.tf (L : Lent H A) : ∀ a o, H a = some o → TF o → dropA A H a = some o := fun a o e t => by
  rw [drop_out]
  · exact e
  · exact L.not e fun φ z => by rw [z] at t; exact t
theorem Rep.drop (R : Rep W ι S H) (L : Lent H A) (ok : HOk P w H h) : Rep W ι S (dropA A H) := by
  refine ⟨R.len, R.nd, fun n a o h1 h2 => ?_, fun p hp => ?_⟩
  · have q := R.ob n a o h1 h2
    refine OV.gen (fun _ _ h => h) L.tf q ?_
    obtain ⟨u, e, own⟩ := OV.held q
    rw [drop_out (L.not e fun φ z => by rw [z] at own; exact own)]
  · obtain ⟨ps, h1, h2, h3⟩ := R.tab p hp
    refine ⟨ps, by rw [drop_out (L.not h1 fun φ z => by cases z)]; exact h1, h2, fun pos cv hc => ?_⟩
    obtain ⟨c, e1, e2⟩ := h3 pos cv hc
    refine ⟨c, e1, ?_⟩
    rw [drop_out]
    · exact e2
    · intro hm
      obtain ⟨o, q, nf⟩ := L c hm
      have g := obo_get ok q
      obtain ⟨⟨oc, vs, t, g1, g2, _⟩, _, _⟩ := ok c _ e2
      rw [g] at g1
      cases g1
      exact nf vs g2
theorem Ext.back' (L : Lent H A) (E : Ext ι S (dropA A H) ι' S' H1) (hn : ∀ a ∈ A, a ∉ ι') : Ext ι S H ι' S' (putA A H H1) := by
  obtain ⟨new, e, hnew⟩ := E.pre
  refine ⟨⟨new, e, fun a ha o ho => hnew a ha o ?_⟩, fun a o ho nt k => ?_, E.fr⟩
  · rw [drop_out]
    · exact ho
    · intro z
      exact hn a z (by rw [e]; exact List.mem_append_right _ ha)
  · by_cases ha : a ∈ A
    · rw [back_in ha]
      exact ho
    · rw [back_out ha]
      exact E.keep a o (by rw [drop_out ha]; exact ho) nt k
theorem Rep.back' (R : Rep W ι' S' H1) (hn : ∀ a ∈ A, H1 a = none) : Rep W ι' S' (putA A H H1) := by
  have out : ∀ {a o}, H1 a = some o → a ∉ A := fun {a o} e z => by
    rw [hn a z] at e
    cases e
  refine ⟨R.len, R.nd, fun n a o h1 h2 => ?_, fun p hp => ?_⟩
  · have q := R.ob n a o h1 h2
    obtain ⟨u, e, own⟩ := OV.held q
    exact OV.gen (fun _ _ h => h) (fun b v hb _ => by rw [back_out (out hb)]; exact hb) q (back_out (out e))
  · obtain ⟨ps, h1, h2, h3⟩ := R.tab p hp
    refine ⟨ps, by rw [back_out (out h1)]; exact h1, h2, fun pos cv hc => ?_⟩
    obtain ⟨c, e1, e2⟩ := h3 pos cv hc
    exact ⟨c, e1, by rw [back_out (out e2)]; exact e2⟩
theorem DV.back' (hn : ∀ a ∈ A, H1 a = none) {d : D} {v : V} (hd : DV W ι' H1 d v) : DV W ι' (putA A H H1) d v :=
  DV.gen (fun _ _ h => h) (fun b v hb _ => by
    rw [back_out]
    · exact hb
    · intro z
      rw [hn b z] at hb
      cases hb) _ _ hd
theorem HOk.drop' (ok : HOk P w H h) (L : Lent H A) : HOk P w (dropA A H) h := fun a o e => by
  obtain ⟨ha, e⟩ := drop_some e
  refine (ok a o e).stay (fun _ _ _ q => q) (fun b q => ?_) fun b xs q => ?_
  · rw [drop_out (L.not q fun φ z => by cases z)]
    exact q
  · rw [drop_out (L.not q fun φ z => by cases z)]
    exact q
theorem HOk.back' {h' : Heap} (ok : HOk P w H h) (L : Lent H A) (ok1 : HOk P w H1 h') (hn : ∀ a ∈ A, H1 a = none) (keep : ∀ a ∈ A, ∀ o, h.get? a = some o → h'.get? a = some o) : HOk P w (putA A H H1) h' := fun a o e => by
  by_cases ha : a ∈ A
  · rw [back_in ha] at e
    obtain ⟨ob, q, _⟩ := L a ha
    rw [q] at e
    cases e
    obtain ⟨z1, _, z3⟩ := ok a _ q
    have g := keep a ha _ z1
    exact ⟨g, ⟨_, g⟩, z3⟩
  · rw [back_out ha] at e
    have out : ∀ {a o}, H1 a = some o → a ∉ A := fun {a o} e z => by
      rw [hn a z] at e
      cases e
    refine (ok1 a o e).stay (fun _ _ _ q => q) (fun b q => ?_) fun b xs q => ?_
    · rw [back_out (out q)]
      exact q
    · rw [back_out (out q)]
      exact q
theorem Un.back' {fs : List Addr} {h h' : Heap} (L : Lent H A) (U : Un fs [] (dropA A H) H1 h h') : Un fs [] H (putA A H H1) h h' where
  keep := fun b o e n k x => U.keep b o e (drop_none n) k x
  slot := fun b o e n k x => U.slot b o e (drop_none n) k x
  free := fun b o e n x => by
    have hb : b ∉ A := fun z => by
      obtain ⟨o, q, _⟩ := L b z
      rw [n] at q
      cases q
    rw [back_out hb]
    exact U.free b o e (drop_none n) x
  there := U.there
  tups := fun b xs e => by
    have hb := L.not e fun φ z => by cases z
    rw [back_out hb]
    exact U.tups b xs (by rw [drop_out hb]; exact e)
  frzs := fun b o u e => by
    have hb := L.not e fun φ z => by cases z
    rw [back_out hb]
    exact U.frzs b o u (by rw [drop_out hb]; exact e)
  tbls := fun b ps e => by
    have hb := L.not e fun φ z => by cases z
    obtain ⟨more, q⟩ := U.tbls b ps (by rw [drop_out hb]; exact e)
    exact ⟨more, by rw [back_out hb]; exact q⟩
end
/-- arguments, each by itself -/
inductive PAs (W : Wd) (C : Cal) (X : Cx) : List Expr → CEs → Prop where
  | nil : PAs W C X [] .nil
  | cons {a : Expr} {ca : CE} {es : List Expr} {cs : CEs} (ha : PE X a (rdE W C ca)) (hs : notStar a = true) (t : PAs W C X es cs) : PAs W C X (a :: es) (.cons ca cs)
/-! ### a lambda's promise -/
def spL (W : Wd) (C : Cal) (l : Nat) (f : Addr) : List V → Hp → VK → Prop := fun vs H Q => ∃ ι S ds cs d S', Rep W ι S H ∧ LamV W ι H l cs f ∧ DVs W ι H ds vs ∧ C.lam l ds cs S = some (d, S') ∧ Gd W ι S H S' d Q
def LmG (P : Program) (w : World) (W : Wd) (C : Cal) (mg : Str → Option Value) (base : Heap) (k l : Nat) : Prop :=
  ∀ (A : Around) (outer : List Env) (s : Shared) (H : Hp) (f : Addr) (us : List Value) (vs : List V) (Q : VK), Room k A → A.guards = some [] → Env0 P w W.K mg base A outer s H → Vals vs us → spL W C l f vs H Q →
    codeAny (model P w) A (.call (.ref f) ⟨us, []⟩) (CR CX0 outer P w H s Q E0) s
section
variable {W : Wd} {C : Cal} {ι ι' ι1 ι2 : List Addr} {S S' S0 S1 S2 : Sto} {H H' H1 H2 : Hp} {e e' : En} {σ σ' : L2.St} {X : Cx} {a b c : Expr} {ca cb cc : CE} {pos p : Pos} {es : List Expr} {cs : CEs}
theorem LamV.fn {pins : List (Addr × Obj)} {s : Shared} {l : Nat} {ds : List D} {f : Addr} (I : L2.Inv X pins σ H s) (h : LamV W ι H l ds f) : PySem.W.FnAt f s.heap := by
  obtain ⟨Im, c, cl, pm, ct, vs, h1, h2, _⟩ := h
  exact ⟨_, _, _, _, obo_get I.hok h2⟩
/-- f(..), f a lambda that was handed in -/
theorem ok_app {k j : Nat} {x : Str} (hK : X.K = W.K) (hr : Room k X.A) (hgd : X.A.guards = some []) (hL : ∀ l, LmG X.prog X.w W C X.mg X.base k l) (hN : X.N[j]? = some x) (hv : Vis X.env.scope x) (h1 : x ≠ "__debug__") (h2 : x ≠ "__classdict__") (ha : PA X (a :: es) (rdA W C cs)) (hs : (a :: es).all notStar = true) :
    PE X (.Call (.Name x p) (a :: es) [] pos) (rdE W C (.app j cs)) := by
  refine ⟨fun pins s σ H Q I q => ?_⟩
  obtain ⟨ι, S, e, d, S', R, Ve, ev, g⟩ := q
  simp only [evE] at ev
  split at ev
  · rename_i l ls hj
    obtain ⟨v, hv1, hx⟩ := Ve.2 j _ hj
    rcases hx with hx | ⟨l', ls', f, e1, rfl, hx⟩
    · exact hx.elim
    · cases e1
      obtain ⟨xs, S1, e2, ev⟩ := bnd_some ev
      refine wpAny_Call_Name_kw (thn ((pe_var (pos := p) hN hv (beq_eq_false_iff_ne.mpr h1) (beq_eq_false_iff_ne.mpr h2)).run pins s σ H (fun v H1 => v = .ref f ∧ H1 = H) I ⟨.ref f, hv1, rfl, rfl⟩) fun u s1 ⟨v, H1, I1, r1, q1⟩ => ?_)
      obtain ⟨rfl, eH⟩ := q1
      rw [eH] at I1
      cases (show u = Value.ref f from r1)
      rw [List.all_cons, Bool.and_eq_true] at hs
      refine PySem.W.callWith_F (first := []) (hx.fn I1) (thn (ha.run pos pins s1 σ H (fun vs H2 => LamV W ι H2 l ls f ∧ spL W C l f vs H2 Q ∨ ∃ ι2, LamV W ι2 H2 l ls f ∧ spL W C l f vs H2 Q) I1 (rdA_then R Ve e2 fun ι2 H2 vs E2 R2 hv2 V2 => .inr ⟨ι2, hx.mono E2 R, ι2, S1, xs, ls, d, S', R2, hx.mono E2 R, hv2, ev, g.thru E2 R2⟩)) fun us s2 ⟨vs, H2, I2, r, q⟩ => ?_) (star_cons hs.1) (back_any hs.2)
      have q' : ∃ ι2, LamV W ι2 H2 l ls f ∧ spL W C l f vs H2 Q := by
        rcases q with q | q
        · exact ⟨ι, q⟩
        · exact q
      obtain ⟨ι2, q1, q2⟩ := q'
      refine ⟨q1.fn I2, ?_⟩
      show wpAny _ _ (PySem.call (.ref f) us) _ _ _
      refine wpAny_call (codeAny_mono (hL l X.A X.stack s2 H2 f us vs Q hr hgd (hK ▸ I2.env0) r q2) fun r s' hq => ?_)
      obtain ⟨u, rfl, q⟩ := back_fn I2 hq
      exact q
  · cases ev
/-- arguments, the last one a slot with a lambda -/
theorem pa_lam {j : Nat} {x : Str} {px : Pos} (hN : X.N[j]? = some x) (hv : Vis X.env.scope x) (h1 : x ≠ "__debug__") (h2 : x ≠ "__classdict__") : ∀ {es : List Expr} {cs : CEs}, PAs W C X es cs → PA X (es ++ [.Name x px]) (fun σ H Q => ∃ ι S e ds S' l ls, Rep W ι S H ∧ EnV W ι H e σ ∧ e[j]? = some (some (.lam l ls)) ∧ evEs C cs e S = some (ds, S') ∧
      ∀ ι' H' vs, Ext ι S H ι' S' H' → Rep W ι' S' H' → DXs W ι' H' (ds ++ [.lam l ls]) vs → Q vs H')
  | _, _, .nil => (pa_cons (pe_var hN hv (beq_eq_false_iff_ne.mpr h1) (beq_eq_false_iff_ne.mpr h2)) pa_nil rfl).w fun σ H Q ⟨ι, S, e, ds, S', l, ls, R, Ve, hj, ev, g⟩ => by
    simp only [evEs] at ev
    cases ev
    obtain ⟨v, hv1, hx⟩ := Ve.2 j _ hj
    exact ⟨v, hv1, g ι H [v] .refl R ⟨v, [], rfl, hx, rfl⟩⟩
  | _, _, .cons (es := es) ha hs t => (pa_cons ha (pa_lam hN hv h1 h2 t) (star_cons hs)).w fun σ H Q ⟨ι, S, e, ds, S', l, ls, R, Ve, hj, ev, g⟩ => by
    simp only [evEs] at ev
    obtain ⟨x, S1, e1, ev⟩ := bnd_some ev
    obtain ⟨xs, S2, e2, ev⟩ := bnd_some ev
    cases ev
    exact rdE_then R Ve e1 fun ι1 H1 v E1 R1 hv V1 => ⟨ι1, S1, e, xs, _, l, ls, R1, V1, hj, e2, fun ι2 H2 vs E2 R2 hx => g ι2 H2 (v :: vs) (E1.trans R1 E2) R2 ⟨v, vs, rfl, .inl (DV.mono E2 R1 _ _ hv), hx⟩⟩
theorem ok_callV {f : Addr} {fd : FuncData} {ps : List Str} {k id j : Nat} {x y : Str} {py : Pos} (F : FnG X.prog X.w X.K X.mg X.base k f fd ps (spF W C id)) (hr : Room k X.A) (hgd : X.A.guards = some []) (hg : Gl X x) (hm : X.mg x = some (.ref f)) (hk : PySem.W.keepIn X.K (.ref f) = true) (hb : Binds X.K fd ps [])
    (hdb : x ≠ "__debug__") (ha : PA X (es ++ [.Name y py]) (fun σ H Q => ∃ ι S e ds S' l ls, Rep W ι S H ∧ EnV W ι H e σ ∧ e[j]? = some (some (.lam l ls)) ∧ evEs C cs e S = some (ds, S') ∧
      ∀ ι' H' vs, Ext ι S H ι' S' H' → Rep W ι' S' H' → DXs W ι' H' (ds ++ [.lam l ls]) vs → Q vs H')) (hs : es.all notStar = true) :
    PE X (.Call (.Name x p) (es ++ [.Name y py]) [] pos) (rdE W C (.callV id cs j)) := by
  have key : ∀ σ H Q, rdE W C (.callV id cs j) σ H Q → (fun σ H (Q : List V → Hp → Prop) => ∃ ι S e ds S' l ls, Rep W ι S H ∧ EnV W ι H e σ ∧ e[j]? = some (some (.lam l ls)) ∧ evEs C cs e S = some (ds, S') ∧
      ∀ ι' H' vs, Ext ι S H ι' S' H' → Rep W ι' S' H' → DXs W ι' H' (ds ++ [.lam l ls]) vs → Q vs H') σ H fun vs H1 => spF W C id vs H1 Q := fun σ H Q ⟨ι, S, e, d, S', R, Ve, ev, g⟩ => by
    simp only [evE] at ev
    split at ev
    · rename_i l ls hj
      obtain ⟨xs, S1, e1, ev⟩ := bnd_some ev
      exact ⟨ι, S, e, xs, S1, l, ls, R, Ve, hj, e1, fun ι1 H1 vs E1 R1 hv => ⟨ι1, S1, _, d, S', R1, hv, ev, g.thru E1 R1⟩⟩
    · cases ev
  have hdb' := beq_eq_false_iff_ne.mpr hdb
  have hs' : (es ++ [Expr.Name y py]).all notStar = true := by rw [List.all_append, hs]; rfl
  cases es with
  | nil => exact (pe_callG F hr hgd hg hm hk hb ha hs' hdb').w key
  | cons a r => exact (pe_callG F hr hgd hg hm hk hb ha hs' hdb').w key
end
end PC
end
section
set_option Elab.async false
set_option linter.all false
set_option maxRecDepth 100000
set_option maxHeartbeats 1000000
/-! PC: what compiles is shown. -/
namespace PC
open PySem L2
/-- the built-in names that are asked -/
def bltNs : List Str := biOf.map Prod.fst ++ tyNm.map Prod.fst ++ (["isinstance", "list", "range", "enumerate", "zip"] : List Str)
/-- what holds where an expression of Γ, N, sc stands -/
structure CxS (W : Wd) (Γ : Gam) (N : List Str) (C : Cal) (sc : Scope) (X : Cx) : Prop where
  hN : X.N = N
  nd : N.Nodup
  hsc : X.env.scope = sc
  calm : X.calm = true
  hK : X.K = W.K
  hgd : X.A.guards = some []
  hu : X.A.units + 200 < cLine
  con : ∀ x g, Γ.con.lookup x = some g → ∃ d v u, C.P.glos[g]? = some d ∧ X.mg x = some u ∧ RelV v u ∧ ∀ ι H, DV W ι H d v
  fns : ∀ x F, Γ.fns.lookup x = some F → ∃ (f : Addr) (fd : FuncData) (k : Nat), X.mg x = some (.ref f) ∧ PySem.W.keepIn X.K (.ref f) = true ∧ Room k X.A ∧ FnG X.prog X.w X.K X.mg X.base k f fd F.ps (spF W C F.id) ∧ Binds X.K fd F.ps [] ∧
    ∀ many ns ix, (F.id, many, ns) ∈ Γ.kws → oMap (argIx F many ns) F.ps.zipIdx = some ix → KB X.K fd F.ps many ns ix ((F.dfl.map (·.2)).map litV)
  free : ∀ x ∈ bltNs, freeB Γ x = true → X.mg x = none
  lam : ∃ k, Room k X.A ∧ ∀ l, LmG X.prog X.w W C X.mg X.base k l
section
variable {W : Wd} {Γ : Gam} {N : List Str} {C : Cal} {sc : Scope} {X : Cx}
theorem CxS.gl (cx : CxS W Γ N C sc X) {x : Str} (h : gloB sc x = true) : Gl X x := by
  unfold gloB at h
  split at h
  · rename_i e
    show X.env.scope.names.lookup x = _
    rw [cx.hsc]
    exact e
  · cases h
theorem CxS.vis (cx : CxS W Γ N C sc X) {x : Str} (h : visB sc x = true) : Vis X.env.scope x := by
  unfold visB at h
  rw [cx.hsc]
  split at h
  · exact .inl (by assumption)
  · exact .inr (.inl (by assumption))
  · exact .inr (.inr (by assumption))
  · cases h
theorem loc_of {x : Str} (h : locB sc x = true) : Loc sc x := by
  unfold locB at h
  split at h
  · exact .inl (by assumption)
  · exact .inr (by assumption)
  · cases h
theorem CxS.blk (cx : CxS W Γ N C sc X) (s : Shared) (H : Hp) (scope : Scope) (A : Addr) (cl : List (Str × Addr)) (fp : List Addr) : CxS W Γ N C (relS scope sc) (X.blk s H scope (compEnvC scope cl A X.env) fp) where
  hN := cx.hN
  nd := cx.nd
  hsc := by
    rw [← cx.hsc]
    rfl
  calm := cx.calm
  hK := cx.hK
  hgd := cx.hgd
  hu := cx.hu
  con := cx.con
  fns := cx.fns
  free := cx.free
  lam := cx.lam
theorem CxS.u64 (cx : CxS W Γ N C sc X) : X.A.units + 64 < cLine := by
  have := cx.hu
  omega

def Snd (W : Wd) (C : Cal) (X : Cx) (e : Expr) (c : CE) : Prop := PE X e (rdE W C c) ∧ PT X e (rdT W C c) ∧ ∀ op vs p, e = .BoolOp op vs p → PW X e (rdT W C c)
theorem snd_of {e : Expr} {c : CE} (hK : X.K = W.K) (h : PE X e (rdE W C c)) (hb : ∀ op vs p, e ≠ .BoolOp op vs p) (he : ∀ whole, PySem.isTrue e X.env whole = (do let v ← whole; standAt e.pos; holding [v] (truthy v))) : Snd W C X e c :=
  ⟨h, ok_truth hK h he, fun op vs p e => absurd e (hb op vs p)⟩
/-- r is right wherever this holds -/
def RcOk (W : Wd) (Γ : Gam) (N : List Str) (C : Cal) (r : Scope → Expr → Option CE) : Prop := ∀ sc X e c, CxS W Γ N C sc X → r sc e = some c → Snd W C X e c
variable {r : Scope → Expr → Option CE} {c : CE} {pos : Pos}
theorem cEs_ok (hr : RcOk W Γ N C r) (cx : CxS W Γ N C sc X) : ∀ {es : List Expr} {cs : CEs}, cEs (r sc) es = some cs → PA X es (rdA W C cs) ∧ es.all notStar = true ∧ (es = [] → cs = .nil) ∧ cs.len = es.length
  | [], _, h => by cases h; exact ⟨ok_nil, rfl, fun _ => rfl, rfl⟩
  | e :: es, _, h => by
    unfold cEs at h
    split at h
    · rename_i hs
      split at h
      · rename_i a b ha hb
        cases h
        obtain ⟨h1, h2, _, h4⟩ := cEs_ok hr cx hb
        exact ⟨ok_cons (hr _ _ _ _ cx ha).1 h1 hs, by rw [List.all_cons, hs, h2]; rfl, fun z => by (cases z), by rw [List.length_cons, ← h4]; rfl⟩
      · cases h
    · cases h
theorem cO_ok (hr : RcOk W Γ N C r) (cx : CxS W Γ N C sc X) {o : Option Expr} {co : CO} (h : cO (r sc) o = some co) : PO X o (rdO W C co) := by
  cases o with
  | none => cases h; exact ok_no
  | some e =>
    obtain ⟨c, h1, rfl⟩ := Option.map_eq_some_iff.mp (show (r sc e).map CO.so = some co from h)
    exact ok_so (hr _ _ _ _ cx h1).1
theorem cCst_ok (cx : CxS W Γ N C sc X) {v : Const} {k : Nat} (h : cCst v = some c) : Snd W C X (.Constant v k pos) c := by
  unfold cCst at h
  split at h
  · cases h; exact snd_of cx.hK ok_non (fun _ _ _ z => by cases z) fun _ => rfl
  · cases h; exact snd_of cx.hK ok_bl (fun _ _ _ z => by cases z) fun _ => rfl
  · cases h; exact snd_of cx.hK ok_int (fun _ _ _ z => by cases z) fun _ => rfl
  · cases h; exact snd_of cx.hK ok_str (fun _ _ _ z => by cases z) fun _ => rfl
  · cases h
theorem cNm_ok (cx : CxS W Γ N C sc X) {x : Str} (h : cNm Γ N sc x = some c) : Snd W C X (.Name x pos) c := by
  unfold cNm at h
  split at h
  · cases h
  · rename_i hd
    have h1 : x ≠ "__debug__" := fun z => hd (.inl z)
    have h2 : x ≠ "__classdict__" := fun z => hd (.inr z)
    refine snd_of cx.hK ?_ (fun _ _ _ z => by cases z) fun _ => rfl
    split at h
    · rename_i hv
      obtain ⟨i, hi, rfl⟩ := Option.map_eq_some_iff.mp h
      exact ok_var (by rw [cx.hN]; exact ixOf_at hi) (cx.vis hv) h1 h2
    · split at h
      · rename_i hg
        obtain ⟨g, hi, rfl⟩ := Option.map_eq_some_iff.mp h
        obtain ⟨d, v, u, q1, q2, q3, q4⟩ := cx.con x g hi
        exact ok_glo (cx.gl hg) q2 q3 h1 q1 q4
      · cases h
theorem cUn_ok (hr : RcOk W Γ N C r) (cx : CxS W Γ N C sc X) {op : UnaryOp} {a : Expr} (h : cUn (r sc) op a = some c) : Snd W C X (.UnaryOp op a pos) c := by
  unfold cUn at h
  split at h
  · obtain ⟨ca, h1, rfl⟩ := Option.map_eq_some_iff.mp h
    exact snd_of cx.hK (ok_neg (hr _ _ _ _ cx h1).1) (fun _ _ _ z => by cases z) fun _ => rfl
  · obtain ⟨ca, h1, rfl⟩ := Option.map_eq_some_iff.mp h
    have q := hr _ _ _ _ cx h1
    exact ⟨ok_not cx.hK q.1, ok_notT q.2.1, fun _ _ _ z => by cases z⟩
  · cases h
theorem cBool_ok (hr : RcOk W Γ N C r) (cx : CxS W Γ N C sc X) {op : BoolOp} {vs : List Expr} (h : cBool (r sc) op vs pos = some c) : Snd W C X (.BoolOp op vs pos) c := by
  unfold cBool at h
  split at h
  · cases h
  · rename_i a
    have q := hr _ _ _ _ cx h
    have w : PW X (.BoolOp op [a] pos) (rdT W C c) := by
      cases op
      · exact pw_and1 q.2.1
      · exact pw_or1 q.2.1
    exact ⟨pe_one q.1, w.pt, fun _ _ _ z => w⟩
  · rename_i a b rest
    split at h
    · rename_i x y hx hy
      have qa := hr _ _ _ _ cx hx
      have qb := hr _ _ _ _ cx hy
      have wb := qb.2.2 _ _ _ rfl
      cases op with
      | And =>
        cases h
        have w := ok_andW qa.2.1 wb
        exact ⟨ok_and cx.hK qa.1 qb.1, w.pt, fun _ _ _ z => w⟩
      | Or =>
        cases h
        have w := ok_orW qa.2.1 wb
        exact ⟨ok_or cx.hK qa.1 qb.1, w.pt, fun _ _ _ z => w⟩
    · cases h
theorem marks_of {op : CmpOp} {b : Expr} (h : (!isLc b || noIn op) = true) : behindInMarks op b = false := by
  cases b <;> first
    | rfl
    | skip
  rename_i es k p
  have h2 : noIn op = true := by simpa [isLc] using h
  cases op <;> first
    | cases h2
    | skip
  all_goals exact nobehind _ (by decide) (by decide)
theorem cCmp_ok (hr : RcOk W Γ N C r) (cx : CxS W Γ N C sc X) {a : Expr} {ops : List CmpOp} {es : List Expr} (h : cCmp (r sc) a ops es = some c) : Snd W C X (.Compare a ops es pos) c := by
  unfold cCmp at h
  split at h
  · split at h
    · rename_i x y hx hy
      split at h
      · rename_i hm
        cases h
        have qa := hr _ _ _ _ cx hx
        have qb := hr _ _ _ _ cx hy
        exact ⟨ok_cmp cx.hK cx.u64 qa.1 qb.1 (marks_of hm), ok_cmpT cx.hK cx.u64 qa.1 qb.1 (marks_of hm), fun _ _ _ z => by cases z⟩
      · cases h
    · cases h
  · split at h
    · rename_i x y z hx hy hz
      split at h
      · rename_i hm
        cases h
        have qa := hr _ _ _ _ cx hx
        have qb := hr _ _ _ _ cx hy
        have qc := hr _ _ _ _ cx hz
        exact ⟨ok_chain cx.hK cx.u64 qa.1 qb.1 qc.1 (marks_of hm), ok_chainT cx.hK cx.u64 qa.1 qb.1 qc.1 (marks_of hm), fun _ _ _ z => by cases z⟩
      · cases h
    · cases h
  · cases h
theorem pps_ok (hr : RcOk W Γ N C r) (cx : CxS W Γ N C sc X) : ∀ {ks : List (Option Expr)} {vs : List Expr} {ys : List Ky} {cs : CEs}, Paired (fun k (y : Ky) => ∃ ex, k = some ex ∧ ∀ X : Cx, PE X ex (tC (kV y))) ks ys → cEs (r sc) vs = some cs → ks.length = vs.length → PPs X pos ks vs (trsOf W C ys cs)
  | [], [], _, _, .nil, h, _ => by cases h; exact pps_nil
  | [], _ :: _, _, _, _, _, hl => by cases hl
  | k :: ks, [], _, _, _, _, hl => by cases hl
  | k :: ks, v :: vs, _, _, .cons ⟨ex, e, hk⟩ t, h, hl => by
    unfold cEs at h
    split at h
    · split at h
      · rename_i a b ha hb
        cases h
        subst e
        exact pps_cons (hk X) (hr _ _ _ _ cx ha).1 (pps_ok hr cx t hb (by simpa using hl))
      · cases h
    · cases h
theorem cDic_ok (hr : RcOk W Γ N C r) (cx : CxS W Γ N C sc X) {ks : List (Option Expr)} {vs : List Expr} (h : cDic (r sc) ks vs = some c) : Snd W C X (.Dict ks vs pos) c := by
  unfold cDic at h
  split at h
  · rename_i ks' vs' hk hv
    split at h
    · rename_i hl
      cases h
      obtain ⟨ys, rfl, h2, h3⟩ := keys_of hk
      exact snd_of cx.hK (ok_dic h3 h2 hl.1 hl.2 fun trs ht => ht ▸ pps_ok hr cx h3 hv hl.1) (fun _ _ _ z => by cases z) fun _ => rfl
    · cases h
  · cases h
theorem m1_of {e : Expr} (h : isM1 e = true) : ∃ k p1 p2, e = .UnaryOp .USub (.Constant (.int 1) k p1) p2 := by
  unfold isM1 at h
  split at h
  · rw [of_decide_eq_true h]
    exact ⟨_, _, _, rfl⟩
  · cases h
theorem cSub_ok (hr : RcOk W Γ N C r) (cx : CxS W Γ N C sc X) {a i : Expr} (h : cSub (r sc) a i = some c) : Snd W C X (.Subscript a i pos) c := by
  refine snd_of cx.hK ?_ (fun _ _ _ z => by cases z) fun _ => rfl
  unfold cSub at h
  split at h
  · rename_i lo hi st p2
    split at h
    · split at h
      · rename_i x l u hx hl hh
        cases h
        exact ok_slc cx.hK (hr _ _ _ _ cx hx).1 (cO_ok hr cx hl) (cO_ok hr cx hh)
      · cases h
    · split at h
      · rename_i e hm
        obtain ⟨ca, h1, rfl⟩ := Option.map_eq_some_iff.mp h
        simp only [Bool.and_eq_true, Option.isNone_iff_eq_none] at hm
        obtain ⟨⟨hm, rfl⟩, rfl⟩ := hm
        obtain ⟨k, p1, p2, rfl⟩ := m1_of hm
        exact ok_rev cx.hK (hr _ _ _ _ cx h1).1
      · cases h
  · rename_i hns
    split at h
    · rename_i x y hx hy
      cases h
      refine ok_ix cx.hK cx.u64 (hr _ _ _ _ cx hx).1 (hr _ _ _ _ cx hy).1 fun o i' => ?_
      cases i <;> first
        | rfl
        | exact absurd rfl (hns _ _ _ _)
    · cases h
theorem oMap_len {α β : Type} {f : α → Option β} : ∀ {xs : List α} {ys : List β}, oMap f xs = some ys → ys.length = xs.length
  | [], _, h => by cases h; rfl
  | x :: xs, _, h => by
    simp only [oMap] at h
    split at h
    · rename_i y ys hy hys
      cases h
      rw [List.length_cons, List.length_cons, oMap_len hys]
    · cases h
theorem cCall_ok (hr : RcOk W Γ N C r) (cx : CxS W Γ N C sc X) {x : Str} {F : FnI} {as : List Expr} {ks : List Keyword} {p : Pos} (hF : Γ.fns.lookup x = some F) (hg : gloB sc x = true) (hd : x ≠ "__debug__") (h : cCall Γ (r sc) F as ks = some c) : PE X (.Call (.Name x p) as ks pos) (rdE W C c) := by
  obtain ⟨f, fd, k, h1, h2, h3, h4, h5, h6⟩ := cx.fns x F hF
  unfold cCall at h
  split at h
  · rename_i as' ks' ns ha hk hn
    obtain ⟨q1, q2, q3, q4⟩ := cEs_ok hr cx ha
    split at h
    · rename_i hl
      cases h
      simp only [Bool.and_eq_true, List.isEmpty_iff] at hl
      rw [hl.1]
      exact ok_call h4 h3 cx.hgd (cx.gl hg) h1 h2 h5 q1 q2 q3 hd
    · split at h
      · rename_i ix hix
        split at h
        · rename_i hw
          cases h
          simp only [Bool.and_eq_true, decide_eq_true_eq, Bool.not_eq_true', List.isEmpty_eq_false_iff] at hw
          have e0 : (F.dfl.map fun d => litD d.2) = (F.dfl.map (·.2)).map litD := by rw [List.map_map]; rfl
          rw [e0]
          have q5 := cEs_ok hr cx hk
          have hnl : ns.length = ks.length := oMap_len hn
          exact ok_callK h4 h3 cx.hgd (cx.gl hg) h1 h2 (h6 _ _ _ hw.1 hix) q1 q2 q3 q4 (ok_pk (fun a ca ha => (hr _ _ _ _ cx ha).1) hk) (by rw [q5.2.2.2, List.length_map, hnl]) hn hw.2 hd
        · cases h
      · cases h
  · cases h
theorem last_of : ∀ {as bs : List Expr} {e : Expr}, lastOf as = some (bs, e) → as = bs ++ [e]
  | [], _, _, h => by cases h
  | [a], _, _, h => by cases h; rfl
  | a :: b :: r, _, _, h => by
    obtain ⟨q, h1, h2⟩ := Option.map_eq_some_iff.mp (show (lastOf (b :: r)).map _ = some _ from h)
    cases h2
    have z := last_of (bs := q.1) (e := q.2) h1
    rw [z]
    rfl
theorem pas_of (hr : RcOk W Γ N C r) (cx : CxS W Γ N C sc X) : ∀ {es : List Expr} {cs : CEs}, cEs (r sc) es = some cs → PAs W C X es cs
  | [], _, h => by cases h; exact .nil
  | e :: es, _, h => by
    unfold cEs at h
    split at h
    · rename_i hs
      split at h
      · rename_i a b ha hb
        cases h
        exact .cons (hr _ _ _ _ cx ha).1 hs (pas_of hr cx hb)
      · cases h
    · cases h
theorem cCallV_ok (hr : RcOk W Γ N C r) (cx : CxS W Γ N C sc X) {x : Str} {F : FnI} {as : List Expr} {p : Pos} (hF : Γ.fns.lookup x = some F) (hg : gloB sc x = true) (hd : x ≠ "__debug__") (h : cCallV N sc (r sc) F as = some c) : PE X (.Call (.Name x p) as [] pos) (rdE W C c) := by
  obtain ⟨f, fd, k, h1, h2, h3, h4, h5, h6⟩ := cx.fns x F hF
  unfold cCallV at h
  split at h
  · rename_i bs y py hl
    split at h
    · cases h
    · rename_i hdd
      split at h
      · rename_i hv
        rw [Bool.and_eq_true] at hv
        split at h
        · rename_i cs j hc hj
          cases h
          rw [last_of hl]
          exact ok_callV h4 h3 cx.hgd (cx.gl hg) h1 h2 h5 hd (pa_lam (by rw [cx.hN]; exact ixOf_at hj) (cx.vis hv.1) (fun z => hdd (.inl z)) (fun z => hdd (.inr z)) (pas_of hr cx hc)) (cEs_ok hr cx hc).2.1
        · cases h
      · cases h
  · cases h
theorem free_val (cx : CxS W Γ N C sc X) {y : Str} (h : (gloB sc y && freeB Γ y) = true) (hb : y ∈ bltNs := by decide) : Gl X y ∧ X.mg y = none := by
  rw [Bool.and_eq_true] at h
  exact ⟨cx.gl h.1, cx.free _ hb h.2⟩
theorem bi_blt {x : Str} {b : Bi} (h : biOf.lookup x = some b) : x ∈ bltNs := List.mem_append_left _ (List.mem_append_left _ (List.mem_map.mpr ⟨(_, _), mem_of_lookup h, rfl⟩))
theorem ty_blt {x : Str} {b : Ty} (h : tyNm.lookup x = some b) : x ∈ bltNs := List.mem_append_left _ (List.mem_append_right _ (List.mem_map.mpr ⟨(_, _), mem_of_lookup h, rfl⟩))
theorem cIsi_ok (hr : RcOk W Γ N C r) (cx : CxS W Γ N C sc X) {as : List Expr} {p : Pos} (hg : Gl X "isinstance") (hm : X.mg "isinstance" = none) (h : cIsi Γ sc (r sc) as = some c) : PE X (.Call (.Name "isinstance" p) as [] pos) (rdE W C c) := by
  unfold cIsi at h
  split at h
  · rename_i x y p2
    split at h
    · rename_i x' t hx ht
      split at h
      · rename_i hs
        cases h
        split at ht
        · rename_i hf
          obtain ⟨g1, g2⟩ := free_val cx hf (ty_blt ht)
          exact ok_isi cx.hK hg hm g1 g2 ht (hr _ _ _ _ cx hx).1 hs
        · cases ht
      · cases h
    · cases h
  · cases h
theorem one_cEs {f : Expr → Option CE} {a : Expr} {cs : CEs} (h : cEs f [a] = some cs) : ∃ ca, f a = some ca ∧ cs = .cons ca .nil ∧ notStar a = true := by
  unfold cEs at h
  split at h
  · rename_i hs
    split at h
    · rename_i x y hx hy
      cases h
      cases hy
      exact ⟨_, hx, rfl, hs⟩
    · cases h
  · cases h
theorem two_cEs {f : Expr → Option CE} {a b : Expr} {cs : CEs} (h : cEs f [a, b] = some cs) : ∃ ca cb, f a = some ca ∧ f b = some cb ∧ cs = .cons ca (.cons cb .nil) ∧ notStar a = true ∧ notStar b = true := by
  unfold cEs at h
  split at h
  · rename_i hs
    split at h
    · rename_i x y hx hy
      cases h
      obtain ⟨cb, h1, rfl, h2⟩ := one_cEs hy
      exact ⟨_, _, hx, h1, rfl, hs, h2⟩
    · cases h
  · cases h
/-- what srcOf says of an iterable -/
inductive SrcI (Γ : Gam) (sc : Scope) : Expr → Src → List Expr → Prop where
  | val (e : Expr) : SrcI Γ sc e .val [e]
  | r1 (p q : Pos) (a : Expr) (h : (gloB sc "range" && freeB Γ "range") = true) : SrcI Γ sc (.Call (.Name "range" p) [a] [] q) .range [a]
  | r2 (p q : Pos) (a b : Expr) (h : (gloB sc "range" && freeB Γ "range") = true) : SrcI Γ sc (.Call (.Name "range" p) [a, b] [] q) .range [a, b]
  | en (p q : Pos) (a : Expr) (h : (gloB sc "enumerate" && freeB Γ "enumerate") = true) : SrcI Γ sc (.Call (.Name "enumerate" p) [a] [] q) .enum [a]
  | zp (p q : Pos) (a b : Expr) (h : (gloB sc "zip" && freeB Γ "zip") = true) : SrcI Γ sc (.Call (.Name "zip" p) [a, b] [] q) .zip [a, b]
theorem one_len {es : List Expr} (h : es.length = 1) : ∃ a, es = [a] := by
  rcases es with _ | ⟨a, _ | ⟨b, r⟩⟩
  · cases h
  · exact ⟨a, rfl⟩
  · simp at h
theorem two_len {es : List Expr} (h : es.length = 2) : ∃ a b, es = [a, b] := by
  rcases es with _ | ⟨a, _ | ⟨b, _ | ⟨c, r⟩⟩⟩
  · cases h
  · simp at h
  · exact ⟨a, b, rfl⟩
  · simp at h
theorem src_of (e : Expr) : SrcI Γ sc e (srcOf Γ sc e).1 (srcOf Γ sc e).2 := by
  unfold srcOf
  split
  · rename_i f p as q
    split
    · rename_i h
      simp only [Bool.and_eq_true, Bool.or_eq_true, decide_eq_true_eq, beq_iff_eq] at h
      obtain ⟨⟨⟨h1, h2⟩, rfl⟩, h4⟩ := h
      rcases h4 with h4 | h4
      · obtain ⟨a, rfl⟩ := one_len h4
        exact .r1 _ _ _ (by rw [h1, h2]; rfl)
      · obtain ⟨a, b, rfl⟩ := two_len h4
        exact .r2 _ _ _ _ (by rw [h1, h2]; rfl)
    · split
      · rename_i h
        simp only [Bool.and_eq_true, Bool.or_eq_true, decide_eq_true_eq, beq_iff_eq] at h
        obtain ⟨⟨⟨h1, h2⟩, rfl⟩, h4⟩ := h
        obtain ⟨a, rfl⟩ := one_len h4
        exact .en _ _ _ (by rw [h1, h2]; rfl)
      · split
        · rename_i h
          simp only [Bool.and_eq_true, Bool.or_eq_true, decide_eq_true_eq, beq_iff_eq] at h
          obtain ⟨⟨⟨h1, h2⟩, rfl⟩, h4⟩ := h
          obtain ⟨a, b, rfl⟩ := two_len h4
          exact .zp _ _ _ _ (by rw [h1, h2]; rfl)
        · exact .val _
  · exact .val _
theorem cCol_ok (hr : RcOk W Γ N C r) (cx : CxS W Γ N C sc X) {as : List Expr} {p : Pos} (hg : Gl X "list") (hm : X.mg "list" = none) (h : cCol Γ sc (r sc) as = some c) : PE X (.Call (.Name "list" p) as [] pos) (rdE W C c) := by
  unfold cCol at h
  split at h
  · rename_i a
    split at h
    · rename_i hs
      split at h
      · rename_i es he
        have q := src_of (Γ := Γ) (sc := sc) a
        generalize (srcOf Γ sc a).1 = s1 at *
        generalize (srcOf Γ sc a).2 = s2 at *
        cases q with
        | val =>
          cases h
          obtain ⟨ca, h1, rfl, h2⟩ := one_cEs he
          exact ok_colV cx.calm cx.hK hg hm (hr _ _ _ _ cx h1).1 h2
        | r1 p q a hf =>
          cases h
          obtain ⟨ca, h1, rfl, h2⟩ := one_cEs he
          obtain ⟨g1, g2⟩ := free_val cx hf
          exact ok_colR1 cx.calm hg hm g1 g2 (hr _ _ _ _ cx h1).1 h2
        | r2 p q a b hf =>
          cases h
          obtain ⟨ca, cb, h1, h2, rfl, h3, h4⟩ := two_cEs he
          obtain ⟨g1, g2⟩ := free_val cx hf
          exact ok_colR2 cx.calm hg hm g1 g2 (hr _ _ _ _ cx h1).1 (hr _ _ _ _ cx h2).1 h3 h4
        | en p q a hf => cases h
        | zp p q a b hf => cases h
      · cases h
    · cases h
  · cases h
theorem cFn_ok (hr : RcOk W Γ N C r) (cx : CxS W Γ N C sc X) {x : Str} {as : List Expr} {ks : List Keyword} {p : Pos} (h : cFn Γ N sc (r sc) x as ks = some c) : PE X (.Call (.Name x p) as ks pos) (rdE W C c) := by
  unfold cFn at h
  split at h
  · cases h
  · rename_i hd
    split at h
    · rename_i hvis
      split at h
      · cases h
      · rename_i hn
        split at h
        · rename_i j cs hj hc
          cases h
          obtain ⟨k, hk1, hk2⟩ := cx.lam
          simp only [not_or, Bool.not_eq_true, Bool.not_eq_true', Bool.not_eq_false', Bool.not_eq_eq_eq_not, Bool.not_true, Bool.not_false, List.isEmpty_iff] at hn
          obtain ⟨n1, n2, n3⟩ := hn
          have n3 : ks = [] := by
            cases ks with
            | nil => rfl
            | cons _ _ => exact absurd rfl n3
          subst n3
          obtain ⟨q1, q2, _, _⟩ := cEs_ok hr cx hc
          cases as with
          | nil => exact absurd rfl n2
          | cons a es => exact ok_app cx.hK hk1 cx.hgd hk2 (by rw [cx.hN]; exact ixOf_at hj) (cx.vis hvis) hd n1 q1 q2
        · cases h
    · rename_i hnv
      split at h
      · rename_i hg
        split at h
        · rename_i F hF
          split at h
          · split at h
            · rename_i hks
              rw [List.isEmpty_iff.mp hks]
              exact cCallV_ok hr cx hF hg hd h
            · cases h
          · exact cCall_ok hr cx hF hg hd h
        · split at h
          · rename_i hf
            rw [Bool.and_eq_true, List.isEmpty_iff] at hf
            obtain ⟨hf, rfl⟩ := hf
            split at h
            · rename_i e
              subst e
              exact cIsi_ok hr cx (cx.gl hg) (cx.free _ (by decide) hf) h
            · split at h
              · rename_i e
                subst e
                exact cCol_ok hr cx (cx.gl hg) (cx.free _ (by decide) hf) h
              · unfold cBi at h
                split at h
                · rename_i b as' hb ha
                  obtain ⟨q1, q2, q3, q4⟩ := cEs_ok hr cx ha
                  split at h
                  · cases h
                  · rename_i hne
                    cases h
                    cases as with
                    | nil => exact absurd rfl hne
                    | cons a es => exact ok_bi cx.hgd cx.calm cx.hK cx.hu (cx.gl hg) (cx.free _ (bi_blt hb) hf) hb hd q1 q2
                · cases h
          · cases h
      · cases h
theorem cMet_ok (hr : RcOk W Γ N C r) (cx : CxS W Γ N C sc X) {o : Expr} {m : Str} {ap : Pos} {as : List Expr} {ks : List Keyword} (h : cMet (r sc) o m ap pos as ks = some c) : PE X (.Call (.Attribute o m ap) as ks pos) (rdE W C c) := by
  unfold cMet at h
  split at h
  · cases h
  · rename_i hn
    simp only [Bool.or_eq_true, Bool.not_eq_true', not_or, Bool.not_eq_true, Bool.not_eq_false, List.isEmpty_iff] at hn
    obtain ⟨⟨h1, h2⟩, rfl⟩ := hn
    split at h
    · obtain ⟨co, h3, rfl⟩ := Option.map_eq_some_iff.mp h
      exact ok_met0 cx.hK (hr _ _ _ _ cx h3).1 h1 h2
    · split at h
      · rename_i hs
        split at h
        · rename_i co ca h3 h4
          cases h
          exact ok_met1 cx.hK (hr _ _ _ _ cx h3).1 (hr _ _ _ _ cx h4).1 hs h1 h2
        · cases h
      · cases h
    · cases h
theorem src_ok (hr : RcOk W Γ N C r) (cx : CxS W Γ N C sc X) {it tg : Expr} {cs : CEs} (h : cEs (r sc) (srcOf Γ sc it).2 = some cs) (ht : srcTg (srcOf Γ sc it).1 tg = true) : PI X tg it (wiS W C (srcOf Γ sc it).1 cs) := by
  have q := src_of (Γ := Γ) (sc := sc) it
  generalize (srcOf Γ sc it).1 = s1 at *
  generalize (srcOf Γ sc it).2 = s2 at *
  cases q with
  | val =>
    obtain ⟨ca, h1, rfl, h2⟩ := one_cEs h
    exact ok_srcV cx.hK (hr _ _ _ _ cx h1).1
  | r1 p q a hf =>
    obtain ⟨ca, h1, rfl, h2⟩ := one_cEs h
    obtain ⟨g1, g2⟩ := free_val cx hf
    exact ok_srcR1 g1 g2 (hr _ _ _ _ cx h1).1 h2
  | r2 p q a b hf =>
    obtain ⟨ca, cb, h1, h2, rfl, h3, h4⟩ := two_cEs h
    obtain ⟨g1, g2⟩ := free_val cx hf
    exact ok_srcR2 g1 g2 (hr _ _ _ _ cx h1).1 h3 (hr _ _ _ _ cx h2).1 h4
  | en p q a hf =>
    obtain ⟨ca, h1, rfl, h2⟩ := one_cEs h
    obtain ⟨g1, g2⟩ := free_val cx hf
    cases tg <;> first
      | exact ok_srcE cx.hK g1 g2 (hr _ _ _ _ cx h1).1 h2
      | cases ht
  | zp p q a b hf =>
    obtain ⟨ca, cb, h1, h2, rfl, h3, h4⟩ := two_cEs h
    obtain ⟨g1, g2⟩ := free_val cx hf
    cases tg <;> first
      | exact ok_srcZ cx.hK g1 g2 (hr _ _ _ _ cx h1).1 h3 (hr _ _ _ _ cx h2).1 h4
      | cases ht
theorem fold_of {it : Expr} {env : Env} (h : isLc it = false) (x : Value) : foldedSetIterable it env x = pure x := by
  cases it <;> first
    | rfl
    | cases h
theorem cLc_ok (hr : RcOk W Γ N C r) (cx : CxS W Γ N C sc X) {elt : Expr} {gs : List Comprehension} {scope : Scope} (h : cLc Γ N sc (r sc) (r (relS scope sc)) elt gs scope = some c) : PE X (.ListComp elt gs scope pos) (rdE W C c) := by
  unfold cLc at h
  split at h
  · rename_i tg it ifs k
    split at h
    · rename_i t as elt' ifs' h1 h2 h3 h4
      split at h
      · rename_i hw
        cases h
        simp only [Bool.and_eq_true, Bool.not_eq_true', decide_eq_true_eq, List.all_eq_true] at hw
        obtain ⟨⟨⟨⟨⟨⟨rfl, w1⟩, w2⟩, w3⟩, w4⟩, w5⟩, w6⟩ := hw
        have ok := blkOk_by w1
        refine (pe_lc cx.calm (by rw [cx.hN]; exact cx.nd) (src_ok hr cx h2 w4) (by rw [cx.hN, cx.hsc]; exact ok) (fun s H A cl fp => ?_) (fun s H A cl fp => ?_) (fun s H A cl fp => ?_) (fold_of w3)).w (lc_ok (own := (ownOf N scope).map (·.2)) (fun i hi => w5 i hi))
        · refine ok_tg (sc := scope) cx.hN cx.nd cx.calm cx.hK h1 fun x hx => ?_
          have hx' := w6
          unfold tgRel at hx'
          rw [List.all_eq_true] at hx'
          have q := hx' x hx
          have cb := cx.blk s H scope A cl fp
          simp only [Bool.or_eq_true, Bool.and_eq_true, decide_eq_true_eq] at q
          rcases q with q | ⟨q, q2⟩
          · exact ⟨.inl (by rw [cb.hsc]; exact q), .inr (by rw [cb.hsc]; exact q)⟩
          · exact ⟨.inr (by rw [cb.hsc]; exact q), .inl (by show (scope.names.lookup x == some .cell) = true; rw [q2]; rfl)⟩
        · rcases ifs with _ | ⟨i1, _ | ⟨i2, ir⟩⟩
          · cases h4
            exact rdTs_nil
          · obtain ⟨ci, h5, rfl, h6⟩ := one_cEs h4
            exact rdTs_one (hr _ _ _ _ (cx.blk s H scope A cl fp) h5).2.1
          · simp at w2
        · exact (hr _ _ _ _ (cx.blk s H scope A cl fp) h3).1
      · cases h
    · cases h
  · cases h
theorem stE_ok (hr : RcOk W Γ N C r) : RcOk W Γ N C (stE Γ N r) := by
  intro sc X e c cx h
  unfold stE at h
  split at h
  · exact cCst_ok cx h
  · exact cNm_ok cx h
  · split at h
    · rename_i x y hx hy
      cases h
      exact snd_of cx.hK (ok_bin cx.hK (hr _ _ _ _ cx hx).1 (hr _ _ _ _ cx hy).1) (fun _ _ _ z => by cases z) fun _ => rfl
    · cases h
  · exact cUn_ok hr cx h
  · exact cBool_ok hr cx h
  · split at h
    · rename_i x y z hx hy hz
      cases h
      have q1 := hr _ _ _ _ cx hx
      have q2 := hr _ _ _ _ cx hy
      have q3 := hr _ _ _ _ cx hz
      exact ⟨ok_if q1.2.1 q2.1 q3.1, ok_ifT q1.2.1 q2.2.1 q3.2.1, fun _ _ _ z => by cases z⟩
    · cases h
  · exact cCmp_ok hr cx h
  · obtain ⟨cs, h1, rfl⟩ := Option.map_eq_some_iff.mp h
    exact snd_of cx.hK (ok_tup (cEs_ok hr cx h1).1) (fun _ _ _ z => by cases z) fun _ => rfl
  · obtain ⟨cs, h1, rfl⟩ := Option.map_eq_some_iff.mp h
    exact snd_of cx.hK (ok_lst (cEs_ok hr cx h1).1) (fun _ _ _ z => by cases z) fun _ => rfl
  · exact cDic_ok hr cx h
  · exact cSub_ok hr cx h
  · split at h
    · exact snd_of cx.hK (cFn_ok hr cx h) (fun _ _ _ z => by cases z) fun _ => rfl
    · exact snd_of cx.hK (cMet_ok hr cx h) (fun _ _ _ z => by cases z) fun _ => rfl
    · cases h
  · exact snd_of cx.hK (cLc_ok hr cx h) (fun _ _ _ z => by cases z) fun _ => rfl
  · cases h
theorem cmE_ok : ∀ n : Nat, RcOk W Γ N C (cmE Γ N n)
  | 0 => fun sc X e c cx h => by cases h
  | n + 1 => stE_ok (cmE_ok n)
end
end PC
end
section
set_option Elab.async false
set_option linter.all false
set_option maxRecDepth 100000
set_option maxHeartbeats 1000000
/-! PC: statements. -/
namespace PC
open PySem L2
def GdS (W : Wd) (ι : List Addr) (S : Sto) (H : Hp) (S' : Sto) (e' : En) (f : Fl) (D : Ends) : Prop := ∀ ι' H' σ', Ext ι S H ι' S' H' → Rep W ι' S' H' → EnV W ι' H' e' σ' → match f with
  | .nx => D.nx σ' H'
  | .bk => D.bk σ' H'
  | .ct => D.ct σ' H'
  | .rt d => ∀ v, DV W ι' H' d v → D.rt v H'
section
variable (W : Wd) (C : Cal)
def rdS (c : CS) : TS := fun D σ H => ∃ ι S e f e' S', Rep W ι S H ∧ EnV W ι H e σ ∧ exS C c e S = some (f, e', S') ∧ GdS W ι S H S' e' f D
def rdSs (c : CSs) : TS := fun D σ H => ∃ ι S e f e' S', Rep W ι S H ∧ EnV W ι H e σ ∧ exSs C c e S = some (f, e', S') ∧ GdS W ι S H S' e' f D
end
theorem bnS_some {α : Type} {m : Re α} {k : α → Sto → Rs} {r : Fl × En × Sto} (h : bnS m k = some r) : ∃ a S, m = some (a, S) ∧ k a S = some r := by
  unfold bnS at h
  split at h
  · exact ⟨_, _, rfl, h⟩
  · cases h
section
variable {W : Wd} {C : Cal} {ι ι' ι1 ι2 : List Addr} {S S' S0 S1 S2 : Sto} {H H' H1 H2 : Hp} {e e' : En} {σ σ' : L2.St} {X : Cx} {a b c : Expr} {ca cb cc : CE} {pos p : Pos} {es : List Expr} {cs : CEs}
theorem GdS.thru {f : Fl} {D : Ends} (g : GdS W ι S H S2 e' f D) (E : Ext ι S H ι1 S1 H1) (R : Rep W ι1 S1 H1) : GdS W ι1 S1 H1 S2 e' f D := fun ι' H' σ' E' R' V' => g ι' H' σ' (E.trans R E') R' V'
theorem _root_.L2.PS.w {st : Stmt} {t t' : TS} (h : PS X st t) (k : ∀ D σ H, t' D σ H → t D σ H) : PS X st t' := ⟨fun pins s σ H D I q => h.run pins s σ H D I (k D σ H q)⟩
theorem _root_.L2.PSs.w {st : List Stmt} {t t' : TS} (h : PSs X st t) (k : ∀ D σ H, t' D σ H → t D σ H) : PSs X st t' := ⟨fun pins s σ H D I q => h.run pins s σ H D I (k D σ H q)⟩
variable {st : Stmt} {sts : List Stmt} {c1 : CS} {c2 : CSs}
theorem os_nil : PSs X [] (rdSs W C .nil) := pss_nil.w fun D σ H ⟨ι, S, e, f, e', S', R, Ve, ev, g⟩ => by
  simp only [exSs] at ev
  cases ev
  exact g ι H σ .refl R Ve
theorem os_cons (h1 : PS X st (rdS W C c1)) (h2 : PSs X sts (rdSs W C c2)) : PSs X (st :: sts) (rdSs W C (.cons c1 c2)) := (pss_cons h1 h2).w fun D σ H ⟨ι, S, e, f, e', S', R, Ve, ev, g⟩ => by
  simp only [exSs] at ev
  split at ev
  · rename_i e1 S1 h
    exact ⟨ι, S, e, .nx, e1, S1, R, Ve, h, fun ι' H' σ' E R' V' => ⟨ι', S1, e1, f, e', S', R', V', ev, g.thru E R'⟩⟩
  · rename_i hne
    refine ⟨ι, S, e, f, e', S', R, Ve, ev, fun ι' H' σ' E R' V' => ?_⟩
    have q := g ι' H' σ' E R' V'
    cases f with
    | nx => exact absurd ev (hne _ _)
    | bk => exact q
    | ct => exact q
    | rt d => exact q
theorem os_pass : PS X (.Pass pos) (rdS W C .pass) := ps_pass.w fun D σ H ⟨ι, S, e, f, e', S', R, Ve, ev, g⟩ => by
  simp only [exS] at ev
  cases ev
  exact g ι H σ .refl R Ve
theorem os_brk : PS X (.Break pos) (rdS W C .brk) := ps_break.w fun D σ H ⟨ι, S, e, f, e', S', R, Ve, ev, g⟩ => by
  simp only [exS] at ev
  cases ev
  exact g ι H σ .refl R Ve
theorem os_cnt : PS X (.Continue pos) (rdS W C .cnt) := ps_continue.w fun D σ H ⟨ι, S, e, f, e', S', R, Ve, ev, g⟩ => by
  simp only [exS] at ev
  cases ev
  exact g ι H σ .refl R Ve
theorem os_retN : PS X (.Return none pos) (rdS W C .retN) := ps_retN.w fun D σ H ⟨ι, S, e, f, e', S', R, Ve, ev, g⟩ => by
  simp only [exS] at ev
  cases ev
  exact g ι H σ .refl R Ve .non rfl
theorem os_ret (ha : PE X a (rdE W C ca)) : PS X (.Return (some a) pos) (rdS W C (.ret ca)) := (ps_ret ha).w fun D σ H ⟨ι, S, e, f, e', S', R, Ve, ev, g⟩ => by
  simp only [exS] at ev
  obtain ⟨d, S1, e1, ev⟩ := bnS_some ev
  cases ev
  exact rdE_then R Ve e1 fun ι1 H1 v E1 R1 hv V1 => g ι1 H1 σ E1 R1 V1 v hv
theorem os_expr (ha : PE X a (rdE W C ca)) (hs : swapsWith a none pos.line X.env = pure false) : PS X (.Expr a pos) (rdS W C (.exp ca)) := (ps_expr ha hs).w fun D σ H ⟨ι, S, e, f, e', S', R, Ve, ev, g⟩ => by
  simp only [exS] at ev
  obtain ⟨d, S1, e1, ev⟩ := bnS_some ev
  cases ev
  exact rdE_then R Ve e1 fun ι1 H1 v E1 R1 hv V1 => g ι1 H1 σ E1 R1 V1
theorem os_if {A B : List Stmt} {cA cB : CSs} (hc : PT X c (rdT W C cc)) (ha : PSs X A (rdSs W C cA)) (hb : PSs X B (rdSs W C cB)) : PS X (.If c A B pos) (rdS W C (.ifS cc cA cB)) := (ps_if hc ha hb).w fun D σ H ⟨ι, S, e, f, e', S', R, Ve, ev, g⟩ => by
  simp only [exS] at ev
  obtain ⟨k, S1, e1, ev⟩ := bnS_some ev
  refine rdT_then R Ve e1 fun ι1 H1 E1 R1 V1 => ?_
  cases k with
  | true => exact ⟨ι1, S1, e, f, e', S', R1, V1, ev, g.thru E1 R1⟩
  | false => exact ⟨ι1, S1, e, f, e', S', R1, V1, ev, g.thru E1 R1⟩
/-- x = e, and any one target -/
theorem rd_asg {t : Tg} {D : Ends} {σ : L2.St} {H : Hp} (h : rdS W C (.set t ca) D σ H) : tAsg (rdE W C ca) (rdG W t) D σ H := by
  obtain ⟨ι, S, e, f, e', S', R, Ve, ev, g⟩ := h
  simp only [exS] at ev
  obtain ⟨d, S1, e1, ev⟩ := bnS_some ev
  obtain ⟨e2, h1, h2⟩ := Option.map_eq_some_iff.mp ev
  cases h2
  exact rdE_then R Ve e1 fun ι1 H1 v E1 R1 hv V1 => ⟨ι1, _, e, d, e', R1, V1, hv, h1, fun σ' V' _ _ => g ι1 H1 σ' E1 R1 V'⟩
theorem os_while {B : List Stmt} {cB : CSs} (hp : PassesOwn (model X.prog X.w) X.A X.env X.xe) (hc : PT X c (rdT W C cc)) (hb : PSs X B (rdSs W C cB)) : PS X (.While c B [] pos) (rdS W C (.whl cc cB)) := (ps_while hp hc hb).w fun D σ H ⟨ι, S, e, f, e', S', R, Ve, ev, g⟩ => by
  simp only [exS] at ev
  refine ⟨fun m σ1 H1 => ∃ ι1 S1 e1, Ext ι S H ι1 S1 H1 ∧ Rep W ι1 S1 H1 ∧ EnV W ι1 H1 e1 σ1 ∧ whlLoop (tstE C cc) (exSs C cB) m e1 S1 = some (f, e', S'), ⟨turns, ι, S, e, .refl, R, Ve, ev⟩, ?_⟩
  rintro m σ1 H1 ⟨ι1, S1, e1, E1, R1, V1, hl⟩
  cases m with
  | zero => cases hl
  | succ k =>
    simp only [whlLoop] at hl
    split at hl
    · rename_i S2 ht
      refine rdT_then R1 V1 ht fun ι2 H2 E2 R2 V2 => ?_
      simp only [if_true]
      refine ⟨fun σ3 H3 => ∃ ι3 S3 e3, Ext ι S H ι3 S3 H3 ∧ Rep W ι3 S3 H3 ∧ EnV W ι3 H3 e3 σ3 ∧ whlLoop (tstE C cc) (exSs C cB) k e3 S3 = some (f, e', S'), fun σ3 H3 q => ⟨k, Nat.lt_succ_self k, q⟩, ?_⟩
      have E12 := E1.trans R1 E2
      split at hl
      · rename_i e3 S3 hx
        exact ⟨ι2, S2, e1, .nx, e3, S3, R2, V2, hx, fun ι' H' σ' E R' V' => ⟨ι', S3, e3, E12.trans R2 E, R', V', hl⟩⟩
      · rename_i e3 S3 hx
        exact ⟨ι2, S2, e1, .ct, e3, S3, R2, V2, hx, fun ι' H' σ' E R' V' => ⟨ι', S3, e3, E12.trans R2 E, R', V', hl⟩⟩
      · rename_i e3 S3 hx
        cases hl
        exact ⟨ι2, S2, e1, .bk, e', S', R2, V2, hx, fun ι' H' σ' E R' V' => g ι' H' σ' (E12.trans R2 E) R' V'⟩
      · rename_i d e3 S3 hx
        cases hl
        exact ⟨ι2, S2, e1, .rt d, e', S', R2, V2, hx, fun ι' H' σ' E R' V' => g ι' H' σ' (E12.trans R2 E) R' V'⟩
      · cases hl
    · rename_i S2 ht
      cases hl
      refine rdT_then R1 V1 ht fun ι2 H2 E2 R2 V2 => ?_
      simp only [Bool.false_eq_true, if_false]
      exact g ι2 H2 σ1 (E1.trans R1 E2) R2 V2
    · cases hl
theorem os_for {B : List Stmt} {cB : CSs} {tg iter : Expr} {t : Tg} {src : Src} {it : CEs} (hp : PassesOwn (model X.prog X.w) X.A X.env X.xe) (hc : X.calm = true) (hi : PI X tg iter (wiS W C src it)) (hg : PG X tg (rdG W t)) (hb : PSs X B (rdSs W C cB))
    (hs : ∀ x, foldedSetIterable iter X.env x = pure x) : PS X (.For tg iter B [] pos) (rdS W C (.for_ t src it cB)) := (ps_for hp hc hi hg hb hs).w fun D σ H ⟨ι0, S0, e0, f, e', S', R0, Ve, ev, g⟩ => by
  simp only [exS] at ev
  obtain ⟨as, S1, e1, ev⟩ := bnS_some ev
  split at ev
  · rename_i xs st hit
    split at ev
    · rename_i fl e2 S2 hl
      cases ev
      refine ⟨ι0, S0, e0, as, S1, xs, st, R0, Ve, e1, hit, fun ι1 H1 J E1 R1 w => ?_⟩
      obtain ⟨G, Y, wk, hY⟩ := w
      have Rf : Rep W ι1 (st.foldl froz S1) H1 := R1.froz
      have V1 := (Ve.mono E1 R0).mono (fr_refl (st := st)) R1
      have fin : ∀ ι H σ, Ext ι1 (st.foldl froz S1) H1 ι S2 H → Rep W ι S2 H → EnV W ι H e' σ → Ext ι0 S0 _ ι (st.foldl (thaw S1) S2) H ∧ Rep W ι (st.foldl (thaw S1) S2) H := fun ι H σ E R V => by
        obtain ⟨R2, E2⟩ := loop_end E R
        exact ⟨E1.trans R1 E2, R2⟩
      refine for_it wk (fun i σ H => ∃ ι S e, Ext ι1 (st.foldl froz S1) H1 ι S H ∧ Rep W ι S H ∧ EnV W ι H e σ ∧ forLoop (forB (exSs C cB) t) (xs.drop i) e S = some (f, e', S2)) ⟨ι1, _, e0, .refl, Rf, V1, hl⟩ ?_ ?_ ?_
      · rintro i σ H hi ⟨ι, S, e, E, R, V, hl⟩
        exact (hY ι S H E R).1
      · rintro i x σ H H' hi ⟨ι, S, e, E, R, V, hl⟩ hy
        obtain ⟨R', E', dx, hx, hdx⟩ := (hY ι S H E R).2 i x H' hi hy
        have ed : xs.drop i = dx :: xs.drop (i + 1) := by
          rw [List.drop_eq_getElem_cons hi]
          rw [List.getElem?_eq_getElem hi] at hx
          cases hx
          rfl
        rw [ed] at hl
        have Eb : Ext ι1 (st.foldl froz S1) H1 ι S H' := E.trans R E'
        simp only [forLoop, forB] at hl
        cases hp : putT t dx e with
        | none => rw [hp] at hl; cases hl
        | some e3 =>
          rw [hp] at hl
          simp only at hl
          refine ⟨ι, S, e, dx, e3, R', V.mono E' R, hdx, hp, fun σ2 V2 _ _ => ?_⟩
          split at hl
          · rename_i e4 S4 hx
            exact ⟨ι, S, e3, .nx, e4, S4, R', V2, hx, fun ι' H' σ' E R2 V' => ⟨ι', S4, e4, Eb.trans R' E, R2, V', hl⟩⟩
          · rename_i e4 S4 hx
            exact ⟨ι, S, e3, .ct, e4, S4, R', V2, hx, fun ι' H' σ' E R2 V' => ⟨ι', S4, e4, Eb.trans R' E, R2, V', hl⟩⟩
          · rename_i e4 S4 hx
            cases hl
            refine ⟨ι, S, e3, .bk, e', S2, R', V2, hx, fun ι' H' σ' E R2 V' => ?_⟩
            obtain ⟨E3, R3⟩ := fin ι' H' σ' (Eb.trans R' E) R2 V'
            exact g ι' H' σ' E3 R3 V'
          · rename_i d e4 S4 hx
            cases hl
            refine ⟨ι, S, e3, .rt d, e', S2, R', V2, hx, fun ι' H' σ' E R2 V' => ?_⟩
            obtain ⟨E3, R3⟩ := fin ι' H' σ' (Eb.trans R' E) R2 V'
            exact g ι' H' σ' E3 R3 V'
          · cases hl
      · rintro σ H ⟨ι, S, e, E, R, V, hl⟩
        rw [List.drop_length] at hl
        simp only [forLoop] at hl
        cases hl
        obtain ⟨E3, R3⟩ := fin ι H σ E R V
        exact g ι H σ E3 R3 V
    · cases ev
  · cases ev
/-! ### o[i] = v -/
def rSet (W : Wd) : TSet := fun o i v H Q => ∃ ι S d1 d2 d3 S', Rep W ι S H ∧ DV W ι H d1 o ∧ DV W ι H d2 i ∧ DV W ι H d3 v ∧ setD d1 d2 d3 S = some S' ∧ ∀ H', Ext ι S H ι S' H' → Rep W ι S' H' → Q H'
theorem write_E (R : Rep W ι S H) {n : Nat} {a : Addr} {o : Ob} {u : HO} (hn : ι[n]? = some a) (hz : ¬ Fz S[n]?) (ho : Own u) (h : OV W ι (upd H a u) a o) : Rep W ι (S.set n o) (upd H a u) ∧ Ext ι S H ι (S.set n o) (upd H a u) := R.write hn hz h
theorem set_ok (hu : X.A.units + 1 < cLine) : PSet X (rSet W) := by
  intro pins s σ H o i v ov iv u Q I ro ri rv h
  obtain ⟨ι, S, d1, d2, d3, S', R, h1, h2, h3, e, k⟩ := h
  unfold setD at e
  split at e
  · rename_i n
    obtain ⟨a, rfl, hn⟩ := h1
    split at e
    · rename_i xs hs
      obtain ⟨vs, q, r⟩ := R.ob n a _ hn hs
      split at e
      · rename_i j
        obtain ⟨kk, hk, rfl⟩ := Option.map_eq_some_iff.mp e
        cases (show i = .int _ from h2)
        refine set_list pins s σ H _ _ v ov iv u Q I ro ri rv ⟨a, vs, j, kk, rfl, rfl, q, by rw [← DVs.length r]; exact hk, ?_⟩
        obtain ⟨R', E'⟩ := R.write (u := .lst (vs.set kk v)) (o := .lst (xs.set kk d3)) hn (fz_lst hs) ⟨_, upd_same, DVs.set (DV.gen (fun _ _ h => h) (own_keep q trivial) _ _ h3) kk (DVs.gen (fun _ _ h => h) (own_keep q trivial) _ _ r)⟩
        exact k _ E' R'
      · cases e
    · rename_i kvs hs
      obtain ⟨vs, q, r⟩ := R.ob n a _ hn hs
      split at e
      · rename_i key hkey
        split at e
        · rename_i hl
          cases e
          have hv := key_v (W := W) (ι := ι) (H := H) hkey h2
          refine set_dict hu pins s σ H _ _ v ov iv u Q I ro ri rv ⟨a, _, rfl, .inl ⟨vs, key, q, hv.symm, by rw [← KVr.length r]; exact hl, rfl⟩, ?_⟩
          obtain ⟨R', E'⟩ := R.write (u := .dK (L2.putK vs key v)) (o := .dk (putK key d3 kvs)) hn (by rw [hs]; exact id) ⟨_, upd_same, put_kv (DV.gen (fun _ _ h => h) (own_keep q trivial) _ _ h3) (KVr.gen (fun _ _ h => h) (own_keep q trivial) r)⟩
          exact k _ E' R'
        · cases e
      · cases e
    · cases e
  · cases e
theorem os_setI {o i : Expr} {co ci : CE} {p2 : Pos} (hu : X.A.units + 1 < cLine) (ho : PE X o (rdE W C co)) (hi : PE X i (rdE W C ci)) (ha : PE X a (rdE W C ca)) (hl : isLc a = false) (hsl : isSlc i = false) : PS X (.Assign [.Subscript o i p2] a pos) (rdS W C (.setI co ci ca)) := by
  have h1 : swapsWithSole [.Subscript o i p2] a pos.line X.env = pure false := by
    cases a <;> first
      | rfl
      | cases hl
  have h2 : swappedStores [.Subscript o i p2] a X.env = pure none := by
    cases a <;> first
      | rfl
      | cases hl
  have h3 : ∀ v, assign (.Subscript o i p2) X.env v = (do
      let ov ← holding [v] (eval o X.env)
      let iv ← holding [v, ov] (eval i X.env)
      standAt p2
      holding [v, ov, iv] (setItem ov iv v)
      release [v, ov, iv] []) := by
    intro v
    cases i <;> first
      | rfl
      | cases hsl
  refine (ps_asg ha (pg_sub ho hi (set_ok (W := W) hu) h3) h1 h2).w fun D σ H ⟨ι, S, e, f, e', S', R, Ve, ev, g⟩ => ?_
  simp only [exS] at ev
  obtain ⟨d, S1, e1, ev⟩ := bnS_some ev
  obtain ⟨q, S2, e2, ev⟩ := bnS_some ev
  obtain ⟨j, S3, e3, ev⟩ := bnS_some ev
  obtain ⟨S4, h4, h5⟩ := Option.map_eq_some_iff.mp ev
  cases h5
  exact rdE_then R Ve e1 fun ι1 H1 v E1 R1 hv V1 => rdE_then R1 V1 e2 fun ι2 H2 w E2 R2 hw V2 => rdE_then R2 V2 e3 fun ι3 H3 u E3 R3 hu V3 =>
    ⟨ι3, S3, q, j, d, _, R3, DV.mono E3 R2 _ _ hw, hu, DV.mono E3 R2 _ _ (DV.mono E2 R1 _ _ hv), h4, fun H4 E4 R4 =>
      g ι3 H4 σ (((E1.trans R1 E2).trans R2 E3).trans R3 E4) R4 (V3.mono E4 R3)⟩
/-! ### x += v -/
def rAug (W : Wd) (op : Operator) : TIp := fun x y H Q => ∃ ι S d1 d2 d, Rep W ι S H ∧ DV W ι H d1 x ∧ DV W ι H d2 y ∧ augD op d1 d2 = some d ∧ ∀ v, DV W ι H d v → Q v H
theorem aug_ok (op : Operator) : PIp X op (rAug W op) := by
  intro pins s σ H x y v u Q I rx ry h
  obtain ⟨ι, S, d1, d2, d, R, h1, h2, e, k⟩ := h
  unfold augD at e
  split at e
  · cases e
    cases (show x = .int _ from h1)
    cases (show y = .int _ from h2)
    exact iop_add pins s σ H _ _ v u Q I rx ry ⟨_, _, rfl, rfl, k _ rfl⟩
  · split at e
    · rename_i hz
      cases e
      cases (show x = .str _ from h1)
      cases (show y = .str _ from h2)
      exact iop_add_str pins s σ H _ _ v u Q I rx ry ⟨_, _, rfl, rfl, hz, k _ rfl⟩
    · cases e
  · cases e
    cases (show x = .int _ from h1)
    cases (show y = .int _ from h2)
    exact iop_sub pins s σ H _ _ v u Q I rx ry ⟨_, _, rfl, rfl, k _ rfl⟩
  · cases e
theorem os_aug {i : Nat} {x : Str} {op : Operator} {p2 : Pos} (hN : X.N.Nodup) (hi : X.N[i]? = some x) (hs : StB X x) (ha : PE X a (rdE W C ca)) : PS X (.AugAssign (.Name x p2) op a pos) (rdS W C (.aug i op ca)) :=
  (ps_aug hN hi hs.loc ha (aug_ok (W := W) op) hs.fn).w fun D σ H ⟨ι, S, e, f, e', S', R, Ve, ev, g⟩ => by
    simp only [exS] at ev
    split at ev
    · rename_i d hd
      obtain ⟨y, S1, e1, ev⟩ := bnS_some ev
      split at ev
      · rename_i z hz
        cases ev
        obtain ⟨v, h1, h2⟩ := Ve.2 i d hd
        replace h2 := h2.dv (by
          cases d <;> first
            | rfl
            | (unfold augD at hz; cases op <;> cases hz))
        exact ⟨v, h1, rdE_then R Ve e1 fun ι1 H1 w E1 R1 hw V1 => ⟨ι1, _, d, y, z, R1, DV.mono E1 R _ _ h2, hw, hz, fun u hu => g ι1 H1 _ E1 R1 (V1.set hu)⟩⟩
      · cases ev
    · cases ev
end
end PC
end
section
set_option Elab.async false
set_option linter.all false
set_option maxRecDepth 100000
set_option maxHeartbeats 1000000
/-! PC: assignments, bodies. -/
namespace PC
open PySem L2
/-- what holds where a statement of a def stands -/
structure CxF (W : Wd) (Γ : Gam) (N : List Str) (C : Cal) (sc : Scope) (X : Cx) : Prop extends CxS W Γ N C sc X where
  hp : PassesOwn (model X.prog X.w) X.A X.env X.xe
  st : ∀ x, locB sc x = true → StB X x
section
variable {W : Wd} {Γ : Gam} {N : List Str} {C : Cal} {sc : Scope} {X : Cx} {e : Expr} {c : CE} {pos : Pos} {m : Nat}
theorem ok_e (cx : CxF W Γ N C sc X) (h : cmE Γ N m sc e = some c) : PE X e (rdE W C c) := (cmE_ok m _ _ _ _ cx.toCxS h).1
theorem sw_none {a : Expr} {t : Option Expr} {l : Nat} {env : Env} (h : isLc a = false) : swapsWith a t l env = pure false := by
  cases a <;> first
    | rfl
    | cases h
theorem os_lc {x : Str} {px lp : Pos} {i : Nat} {elt : Expr} {gs : List Comprehension} {scope : Scope} (cx : CxF W Γ N C sc X) (hi : N[i]? = some x) (hx : sc.names.lookup x = some .local) (hl : (px.line == lp.line) = true) (ha : (scope.names.any fun (n, k) => n == x && (k == .local || k == .cell)) = false)
    (h : cmE Γ N m sc (.ListComp elt gs scope lp) = some c) : PS X (.Assign [.Name x px] (.ListComp elt gs scope lp) pos) (rdS W C (.set (.name i) c)) := by
  cases m with
  | zero => cases h
  | succ m =>
    have hr := cmE_ok (W := W) (C := C) (Γ := Γ) (N := N) m
    have h' : cLc Γ N sc (cmE Γ N m sc) (cmE Γ N m (relS scope sc)) elt gs scope = some c := h
    unfold cLc at h'
    split at h'
    · rename_i tg it ifs k
      split at h'
      · rename_i t as elt' ifs' h1 h2 h3 h4
        split at h'
        · rename_i hw
          cases h'
          simp only [Bool.and_eq_true, Bool.not_eq_true', decide_eq_true_eq, List.all_eq_true] at hw
          obtain ⟨⟨⟨⟨⟨⟨rfl, w1⟩, w2⟩, w3⟩, w4⟩, w5⟩, w6⟩ := hw
          have ok := blkOk_by w1
          refine ⟨fun pins s σ H D I q => ?_⟩
          have key := (ps_setLc (spos := pos) (py := px) (pos := lp) (i := i) (y := x) cx.calm (by rw [cx.hN]; exact cx.nd) (by rw [cx.hN]; exact hi) (by rw [cx.hsc]; exact hx) (sw_true I.ok.kind (by rw [cx.hsc]; exact hx) hl ha) (src_ok (tg := tg) hr cx.toCxS h2 w4) (by rw [cx.hN, cx.hsc]; exact ok) (g := rdG W t) (tt := rdTs W C ifs') (te := rdE W C elt') (ifs := ifs) (elt := elt)
            (fun s H A cl fp => by
              refine ok_tg (sc := scope) cx.hN cx.nd cx.calm cx.hK h1 fun x hx => ?_
              have hx' := w6
              unfold tgRel at hx'
              rw [List.all_eq_true] at hx'
              have q := hx' x hx
              have cb := cx.toCxS.blk s H scope A cl fp
              simp only [Bool.or_eq_true, Bool.and_eq_true, decide_eq_true_eq] at q
              rcases q with q | ⟨q, q2⟩
              · exact ⟨.inl (by rw [cb.hsc]; exact q), .inr (by rw [cb.hsc]; exact q)⟩
              · exact ⟨.inr (by rw [cb.hsc]; exact q), .inl (by show (scope.names.lookup x == some .cell) = true; rw [q2]; rfl)⟩)
            (fun s H A cl fp => by
              rcases ifs with _ | ⟨i1, _ | ⟨i2, ir⟩⟩
              · cases h4
                exact rdTs_nil
              · obtain ⟨ci, h5, rfl, h6⟩ := one_cEs h4
                exact rdTs_one (hr _ _ _ _ (cx.toCxS.blk s H scope A cl fp) h5).2.1
              · simp at w2)
            (fun s H A cl fp => (hr _ _ _ _ (cx.toCxS.blk s H scope A cl fp) h3).1) (fold_of w3))
          refine key.run pins s σ H D I ?_
          have z := rd_asg q
          refine lc_ok (own := (ownOf N scope).map (·.2)) (fun i hi => w5 i hi) σ H _ ?_
          obtain ⟨ι, S, e0, d, S', R, Ve, ev, g⟩ := z
          refine ⟨ι, S, e0, d, S', R, Ve, ev, fun ι' H' v E R' hv => ?_⟩
          obtain ⟨ι2, S2, e2, d2, e3, R2, V2, hv2, hp, k⟩ := g ι' H' v E R' hv
          cases hp
          exact k _ (V2.set hv2) (List.length_set ..) fun j hj => List.getElem?_set_ne (by rintro rfl; exact hj List.mem_cons_self)
        · cases h'
      · cases h'
    · cases h'
theorem cAsN_ok {x : Str} {px : Pos} {cs : CS} (cx : CxF W Γ N C sc X) (h : cAsN N sc (cmE Γ N m sc) x px e pos = some cs) : PS X (.Assign [.Name x px] e pos) (rdS W C cs) := by
  unfold cAsN at h
  split at h
  · rename_i i e' hi he
    obtain ⟨x', p', ex, hx, hn⟩ := nm_at hi
    cases ex
    split at h
    · rename_i scope lp
      split at h
      · rename_i hw
        cases h
        simp only [Bool.and_eq_true, decide_eq_true_eq, Bool.not_eq_true'] at hw
        exact os_lc cx hn hw.1.1 hw.1.2 hw.2 he
      · cases h
    · split at h
      · cases h
      · rename_i hl
        cases h
        have hl : isLc e = false := by simpa using hl
        have hs := cx.st _ hx
        refine (ps_set (by rw [cx.hN]; exact cx.nd) (by rw [cx.hN]; exact hn) hs.loc (ok_e cx he) (sw_none hl) hs.fn).w fun D σ H q => ?_
        obtain ⟨ι, S, e0, d, S', R, Ve, ev, g⟩ := rd_asg q
        refine ⟨ι, S, e0, d, S', R, Ve, ev, fun ι' H' v E R' hv => ?_⟩
        obtain ⟨ι2, S2, e2, d2, e3, R2, V2, hv2, hp, k⟩ := g ι' H' v E R' hv
        cases hp
        exact k _ (V2.set hv2) (List.length_set ..) fun j hj => List.getElem?_set_ne (by rintro rfl; exact hj List.mem_cons_self)
  · cases h
theorem tupE_of {vs : List Expr} {k : Nat} {p : Pos} (cx : CxF W Γ N C sc X) (h : cmE Γ N m sc (.Tuple vs k p) = some c) : ∃ cs, c = .tupE cs ∧ PA X vs (rdA W C cs) := by
  cases m with
  | zero => cases h
  | succ m =>
    have h' : (cEs (cmE Γ N m sc) vs).map CE.tupE = some c := h
    obtain ⟨cs, h1, rfl⟩ := Option.map_eq_some_iff.mp h'
    exact ⟨cs, rfl, (cEs_ok (cmE_ok m) cx.toCxS h1).1⟩
theorem names_of {N : List Str} {sc : Scope} : ∀ {es : List Expr} {is : List Nat}, oMap (nmOf N sc) es = some is → ∃ xs : List (Str × Pos), es = xs.map (fun q => .Name q.1 q.2) ∧ (∀ q ∈ xs, locB sc q.1 = true) ∧ xs.length = is.length ∧ ∀ (j : Nat) (q : Str × Pos) (i : Nat), xs[j]? = some q → is[j]? = some i → N[i]? = some q.1
  | [], _, h => by cases h; exact ⟨[], rfl, fun _ z => (by cases z), rfl, fun j q i z => by simp at z⟩
  | ex :: es, _, h => by
    simp only [oMap] at h
    split at h
    · rename_i i is hi his
      cases h
      obtain ⟨x, p, rfl, hx, hn⟩ := nm_at hi
      obtain ⟨xs, rfl, h1, h2, h3⟩ := names_of his
      refine ⟨(x, p) :: xs, rfl, fun q hq => ?_, by rw [List.length_cons, List.length_cons, h2], fun j q i' z1 z2 => ?_⟩
      · rcases List.mem_cons.mp hq with rfl | hq
        · exact hx
        · exact h1 q hq
      · cases j with
        | zero =>
          simp at z1 z2
          subst z1 z2
          exact hn
        | succ j => exact h3 j q i' (by simpa using z1) (by simpa using z2)
    · cases h
/-- stores that are not swapped -/
theorem sw_no {ts vs : List Expr} {kt k2 : Nat} {pt p2 : Pos} {env : Env} (h : (ts.all fun e => match e with | .Name x _ => decide (env.scope.names.lookup x = some .local) | _ => false) = false ∨ (¬ ts.length = 2 ∧ ¬ ts.length = 3)) : swappedStores [.Tuple ts kt pt] (.Tuple vs k2 p2) env = pure none := by
  unfold swappedStores
  simp only
  split
  · rfl
  · rename_i h1
    split
    · rfl
    · rcases h with h | h
      · have : ∀ (l : Nat) (ts : List Expr), (ts.all fun e => match e with | .Name x _ => decide (env.scope.names.lookup x = some .local) | _ => false) = false → (ts.filterMap fun | .Name id pos => if env.kindOf id == some .local && pos.line == l then some id else none | _ => none).length < ts.length := by
          intro l ts
          induction ts with
          | nil => intro h; cases h
          | cons a r ih =>
            intro h
            rw [List.all_cons, Bool.and_eq_false_iff] at h
            have le : ∀ r : List Expr, (r.filterMap fun | .Name id pos => if env.kindOf id == some .local && pos.line == l then some id else none | _ => none).length ≤ r.length := fun r => List.length_filterMap_le _ _
            rw [List.filterMap_cons]
            rcases h with h | h
            · have e0 : (match a with | .Name id pos => if env.kindOf id == some .local && pos.line == l then some id else none | _ => none) = none := by
                cases a with
                | Name id p =>
                  simp only [decide_eq_false_iff_not] at h
                  simp only
                  rw [if_neg]
                  simp only [Bool.and_eq_true, beq_iff_eq, not_and]
                  intro z
                  exact absurd z h
                | _ => rfl
              rw [e0]
              exact Nat.lt_succ_of_le (le r)
            · split
              · exact Nat.lt_succ_of_lt (ih h)
              · exact Nat.succ_lt_succ (ih h)
        have q := this ((ts.head?.map (·.pos.line)).getD 0) ts h
        rw [if_pos]
        simp only [Bool.or_eq_true, bne_iff_ne, ne_eq]
        exact .inl (Nat.ne_of_lt q)
      · simp only [Bool.or_eq_true, Bool.not_eq_true', Bool.or_eq_false_iff, beq_eq_false_iff_ne] at h1
        exact absurd (.inl (.inl ⟨h.1, h.2⟩)) h1
theorem nms_map : ∀ xs : List (Str × Pos), nmsOf (xs.map fun q => .Name q.1 q.2) = xs.map (·.1)
  | [] => rfl
  | q :: xs => by
    show q.1 :: nmsOf (xs.map fun q => .Name q.1 q.2) = _
    rw [nms_map xs]
    rfl
theorem sw_yes {xs : List (Str × Pos)} {vs : List Expr} {kt k2 : Nat} {pt p2 : Pos} {env : Env} (hl : xs.length = 2 ∨ xs.length = 3) (hv : vs.length = xs.length) (hk : env.blockKind = .function) (hloc : ∀ q ∈ xs, env.kindOf q.1 = some .local)
    (hline : ∀ q ∈ xs, q.2.line = (((xs.map fun q => Expr.Name q.1 q.2).head?.map (·.pos.line)).getD 0)) (hnd : (xs.map (·.1)).eraseDups.length = xs.length) (hstar : vs.all notStar = true) (h1 : vs.all (foldedForSure 8) = false) (h2 : vs.all (constantsAlone 8) = false) :
    swappedStores [.Tuple (xs.map fun q => .Name q.1 q.2) kt pt] (.Tuple vs k2 p2) env = pure (some (xs.map (·.1))) := by
  have hf : ∀ (l : Nat) (ys : List (Str × Pos)), (∀ q ∈ ys, env.kindOf q.1 = some .local) → (∀ q ∈ ys, q.2.line = l) → ((ys.map fun q => Expr.Name q.1 q.2).filterMap fun | .Name id pos => if env.kindOf id == some .local && pos.line == l then some id else none | _ => none) = ys.map (·.1) := by
    intro l ys
    induction ys with
    | nil => intro _ _; rfl
    | cons q ys ih =>
      intro a b
      rw [List.map_cons, List.filterMap_cons]
      simp only [a q List.mem_cons_self, b q List.mem_cons_self, beq_self_eq_true, Bool.and_self, if_true]
      rw [ih (fun q hq => a q (List.mem_cons_of_mem _ hq)) fun q hq => b q (List.mem_cons_of_mem _ hq)]
      rfl
  have hs : (vs.any fun | .Starred .. => true | _ => false) = false := by
    rw [List.any_eq_false]
    intro v hv
    have := List.all_eq_true.mp hstar v hv
    cases v <;> first
      | (cases this; done)
      | simp
  unfold swappedStores
  simp only
  rw [if_neg (fun z => by
    rw [List.length_map, hk, hv] at z
    rcases hl with h | h <;> rw [h] at z <;> exact absurd z (by decide)), if_neg (fun z => by
    have z' : (vs.any fun | .Starred .. => true | _ => false) = true := z
    rw [hs] at z'
    cases z')]
  generalize hnm : List.filterMap _ _ = names
  have e : names = xs.map (·.1) := hnm.symm.trans (hf _ xs hloc hline)
  subst e
  rw [if_neg (by rw [List.length_map, List.length_map, hnd]; simp), h1, h2]
  simp
theorem lcl_of {ts : List Expr} {env : Env} (h : ts.all (lcl env.scope) = false) : (ts.all fun e => match e with | .Name x _ => decide (env.scope.names.lookup x = some .local) | _ => false) = false := by
  have e : (fun e : Expr => match e with | .Name x _ => decide (env.scope.names.lookup x = some .local) | _ => false) = lcl env.scope := by
    funext e
    cases e <;> rfl
  rw [e]
  exact h
theorem cAsT_ok {ts : List Expr} {kt : Nat} {pt : Pos} {cs : CS} (cx : CxF W Γ N C sc X) (h : cAsT N sc (cmE Γ N m sc) ts e = some cs) : PS X (.Assign [.Tuple ts kt pt] e pos) (rdS W C cs) := by
  unfold cAsT at h
  split at h
  · rename_i is e' hi he
    have htg : tgOf N sc (.Tuple ts kt pt) = some (.tup is) := by
      show (oMap (nmOf N sc) ts).map Tg.tup = _
      rw [hi]
      rfl
    have hst : ∀ x ∈ tgNms (.Tuple ts kt pt), StB X x := fun x hx => by
      obtain ⟨xs, rfl, q1, _⟩ := names_of hi
      have hx' : x ∈ nmsOf (xs.map fun q => .Name q.1 q.2) := hx
      rw [nms_map] at hx'
      obtain ⟨q, hq, rfl⟩ := List.mem_map.mp hx'
      exact cx.st _ (q1 q hq)
    have plain : swappedStores [.Tuple ts kt pt] e X.env = pure none → isLc e = false → PS X (.Assign [.Tuple ts kt pt] e pos) (rdS W C (.set (.tup is) e')) := fun hw hl =>
      (ps_asg (ok_e cx he) (ok_tg cx.hN cx.nd cx.calm cx.hK htg hst) (sw_none (t := some (.Tuple ts kt pt)) (l := pos.line) (env := X.env) hl) hw).w fun D σ H q => rd_asg q
    split at h
    · rename_i vs k2 p2
      obtain ⟨cs', rfl, hpa⟩ := tupE_of cx he
      split at h
      · rename_i hw
        cases h
        simp only [Bool.and_eq_true, Bool.or_eq_true, decide_eq_true_eq, Bool.not_eq_true', List.all_eq_true] at hw
        obtain ⟨⟨⟨⟨⟨⟨⟨⟨w1, w2⟩, w3⟩, w4⟩, w5⟩, w6⟩, w7⟩, w8⟩, w9⟩ := hw
        obtain ⟨xs, rfl, q1, q2, q3⟩ := names_of hi
        rw [nms_map, List.length_map] at w9
        rw [List.length_map] at w2
        have hlocal : ∀ q ∈ xs, sc.names.lookup q.1 = some .local := fun q hq => by
          have := w3 (.Name q.1 q.2) (List.mem_map.mpr ⟨q, hq, rfl⟩)
          exact of_decide_eq_true this
        have hline : ∀ q ∈ xs, q.2.line = (((xs.map fun q => Expr.Name q.1 q.2).head?.map (·.pos.line)).getD 0) := fun q hq => by
          have := w5 (.Name q.1 q.2) (List.mem_map.mpr ⟨q, hq, rfl⟩)
          exact beq_iff_eq.mp this
        have hw1 : vs.all (foldedForSure 8) = false := by
          cases hh : vs.all (foldedForSure 8) with
          | false => rfl
          | true => exact absurd (List.all_eq_true.mp hh) (by simpa using w6)
        have hw2 : vs.all (constantsAlone 8) = false := by
          cases hh : vs.all (constantsAlone 8) with
          | false => rfl
          | true => exact absurd (List.all_eq_true.mp hh) (by simpa using w7)
        have hsw : ∀ (env : Env), env.scope = sc → env.scope.kind = .function → swappedStores [.Tuple (xs.map fun q => .Name q.1 q.2) kt pt] (.Tuple vs k2 p2) env = pure (some (xs.map (·.1))) := fun env e1 e2 =>
          sw_yes (by rw [← w2]; exact w1) w2 (by unfold Env.blockKind; rw [e2]; rfl) (fun q hq => by show env.scope.names.lookup q.1 = _; rw [e1]; exact hlocal q hq) hline w9 (List.all_eq_true.mpr w4) hw1 hw2
        refine ⟨fun pins s σ H D I q => ?_⟩
        obtain ⟨ι, S, e0, f, e3, S', R, Ve, ev, g⟩ := q
        simp only [exS] at ev
        obtain ⟨d, S1, ev1, ev⟩ := bnS_some ev
        obtain ⟨e2, hp, hz⟩ := Option.map_eq_some_iff.mp ev
        cases hz
        simp only [evE] at ev1
        obtain ⟨ds, S2, ev1, ev2⟩ := bnd_some ev1
        split at ev2
        · cases ev2
          unfold putT at hp
          simp only at hp
          split at hp
          · rename_i hln
            cases hp
            have sw := hsw X.env cx.hsc I.ok.kind
            have hN : X.N.Nodup := by rw [cx.hN]; exact cx.nd
            rcases (by rw [← w2]; exact w1 : xs.length = 2 ∨ xs.length = 3) with hl | hl
            · rcases xs with _ | ⟨a, _ | ⟨b, _ | ⟨b2, xr⟩⟩⟩ <;> simp at hl
              rcases is with _ | ⟨i, _ | ⟨j, _ | ⟨j2, ir⟩⟩⟩ <;> simp at q2
              rcases vs with _ | ⟨v1, _ | ⟨v2, _ | ⟨v3, vr⟩⟩⟩ <;> simp at w2
              rcases ds with _ | ⟨d1, _ | ⟨d2, _ | ⟨d3, dr⟩⟩⟩ <;> simp at hln
              have hij : i ≠ j := by
                simp at w8
                exact w8
              refine (ps_par cx.calm hN (by rw [cx.hN]; exact q3 0 a i rfl rfl) (by rw [cx.hN]; exact q3 1 b j rfl rfl) hij (by rw [cx.hsc]; exact hlocal a (by simp)) (by rw [cx.hsc]; exact hlocal b (by simp)) hpa sw).run pins s σ H D I ?_
              refine rdA_then R Ve ev1 fun ι1 H1 vs E1 R1 hv V1 => ?_
              obtain ⟨x1, x2, rfl, h1, h2⟩ := two_of hv
              exact ⟨x1, x2, rfl, g ι1 H1 _ E1 R1 ((V1.set h1).set h2)⟩
            · rcases xs with _ | ⟨a, _ | ⟨b, _ | ⟨b2, _ | ⟨b3, xr⟩⟩⟩⟩ <;> simp at hl
              rcases is with _ | ⟨i, _ | ⟨j, _ | ⟨l, _ | ⟨j2, ir⟩⟩⟩⟩ <;> simp at q2
              rcases vs with _ | ⟨v1, _ | ⟨v2, _ | ⟨v3, _ | ⟨v4, vr⟩⟩⟩⟩ <;> simp at w2
              rcases ds with _ | ⟨d1, _ | ⟨d2, _ | ⟨d3, _ | ⟨d4, dr⟩⟩⟩⟩ <;> simp at hln
              simp at w8
              refine (ps_par3 cx.calm hN (by rw [cx.hN]; exact q3 0 a i rfl rfl) (by rw [cx.hN]; exact q3 1 b j rfl rfl) (by rw [cx.hN]; exact q3 2 b2 l rfl rfl) w8.1.1 w8.1.2 w8.2 (by rw [cx.hsc]; exact hlocal a (by simp)) (by rw [cx.hsc]; exact hlocal b (by simp)) (by rw [cx.hsc]; exact hlocal b2 (by simp)) hpa sw).run pins s σ H D I ?_
              refine rdA_then R Ve ev1 fun ι1 H1 vs E1 R1 hv V1 => ?_
              obtain ⟨x1, r1, rfl, h1, hv⟩ := hv
              obtain ⟨x2, x3, rfl, h2, h3⟩ := two_of hv
              exact ⟨x1, x2, x3, rfl, g ι1 H1 _ E1 R1 (((V1.set h1).set h2).set h3)⟩
          · cases hp
        · cases ev2
      · split at h
        · rename_i hw
          cases h
          refine plain (sw_no ?_) rfl
          simp only [Bool.or_eq_true, Bool.not_eq_true', Bool.or_eq_false_iff, decide_eq_false_iff_not] at hw
          rcases hw with hw | hw
          · exact .inl (lcl_of (by rw [cx.hsc]; exact hw))
          · exact .inr hw
        · cases h
    · rename_i hne
      split at h
      · cases h
      · rename_i hl
        cases h
        refine plain ?_ (by simpa using hl)
        cases e <;> first
          | rfl
          | exact absurd rfl (hne _ _ _)
  · cases h
theorem cAs_ok {ts : List Expr} {cs : CS} (cx : CxF W Γ N C sc X) (h : cAs N sc (cmE Γ N m sc) ts e pos = some cs) : PS X (.Assign ts e pos) (rdS W C cs) := by
  unfold cAs at h
  split at h
  · split at h
    · exact cAsN_ok cx h
    · exact cAsT_ok cx h
    · split at h
      · cases h
      · rename_i hn
        simp only [Bool.or_eq_true, not_or, Bool.not_eq_true] at hn
        split at h
        · rename_i e' o' i' he ho hi
          cases h
          exact os_setI (by have := cx.hu; omega) (ok_e cx ho) (ok_e cx hi) (ok_e cx he) hn.1 hn.2
        · cases h
    · cases h
  · cases h
theorem cAug_ok {t : Expr} {op : Operator} {cs : CS} (cx : CxF W Γ N C sc X) (h : cAug N sc (cmE Γ N m sc) t op e = some cs) : PS X (.AugAssign t op e pos) (rdS W C cs) := by
  have hN : X.N.Nodup := by rw [cx.hN]; exact cx.nd
  unfold cAug at h
  split at h
  · split at h
    · rename_i i e' hi he
      cases h
      obtain ⟨x', p', ex, hx, hn⟩ := nm_at hi
      cases ex
      exact os_aug hN (by rw [cx.hN]; exact hn) (cx.st _ hx) (ok_e cx he)
    · cases h
  · split at h
    · rename_i i e' hi he
      cases h
      obtain ⟨x', p', ex, hx, hn⟩ := nm_at hi
      cases ex
      exact os_aug hN (by rw [cx.hN]; exact hn) (cx.st _ hx) (ok_e cx he)
    · cases h
  · cases h
theorem cSs_ok {rs : Stmt → Option CS} (hr : ∀ st cs, rs st = some cs → PS X st (rdS W C cs)) : ∀ {b : List Stmt} {cs : CSs}, cSs rs b = some cs → PSs X b (rdSs W C cs)
  | [], _, h => by cases h; exact os_nil
  | st :: b, _, h => by
    unfold cSs at h
    split at h
    · rename_i x y hx hy
      cases h
      exact os_cons (hr _ _ hx) (cSs_ok hr hy)
    · cases h
theorem stS_ok {rs : Stmt → Option CS} (cx : CxF W Γ N C sc X) (hr : ∀ st cs, rs st = some cs → PS X st (rdS W C cs)) {st : Stmt} {cs : CS} (h : stS Γ N sc (cmE Γ N m sc) rs st = some cs) : PS X st (rdS W C cs) := by
  have ee : ∀ {e c}, cmE Γ N m sc e = some c → PE X e (rdE W C c) := fun h => ok_e cx h
  have et : ∀ {e c}, cmE Γ N m sc e = some c → PT X e (rdT W C c) := fun h => (cmE_ok m _ _ _ _ cx.toCxS h).2.1
  unfold stS at h
  split at h
  · exact cAs_ok cx h
  · exact cAug_ok cx h
  · split at h
    · rename_i x y z hx hy hz
      cases h
      exact os_if (et hx) (cSs_ok hr hy) (cSs_ok hr hz)
    · cases h
  · split at h
    · rename_i ho
      split at h
      · rename_i x y hx hy
        cases h
        rw [List.isEmpty_iff.mp ho]
        exact os_while cx.hp (et hx) (cSs_ok hr hy)
      · cases h
    · cases h
  · split at h
    · rename_i ho
      simp only [Bool.and_eq_true, Bool.not_eq_true', List.isEmpty_iff] at ho
      obtain ⟨⟨rfl, ho⟩, ht⟩ := ho
      split at h
      · rename_i t as b h1 h2 h3
        cases h
        refine os_for cx.hp cx.calm (src_ok (cmE_ok m) cx.toCxS h2 ht) (ok_tg cx.hN cx.nd cx.calm cx.hK h1 fun x hx => cx.st x ?_) (cSs_ok hr h3) (fold_of ho)
        unfold tgOf at h1
        split at h1
        · obtain ⟨i, hi, _⟩ := Option.map_eq_some_iff.mp h1
          obtain ⟨x', p', ex, hx', hn⟩ := nm_at hi
          cases ex
          have : x = _ := List.mem_singleton.mp hx
          rw [this]
          exact hx'
        · obtain ⟨is, hi, _⟩ := Option.map_eq_some_iff.mp h1
          obtain ⟨xs, rfl, q1, _⟩ := names_of hi
          have hx' : x ∈ nmsOf (xs.map fun q => .Name q.1 q.2) := hx
          rw [nms_map] at hx'
          obtain ⟨q, hq, rfl⟩ := List.mem_map.mp hx'
          exact q1 q hq
        · cases h1
      · cases h
    · cases h
  · obtain ⟨c, h1, rfl⟩ := Option.map_eq_some_iff.mp h
    exact os_ret (ee h1)
  · cases h; exact os_retN
  · split at h
    · cases h
    · rename_i hl
      obtain ⟨c, h1, rfl⟩ := Option.map_eq_some_iff.mp h
      exact os_expr (ee h1) (sw_none (by simpa using hl))
  · cases h; exact os_pass
  · cases h; exact os_brk
  · cases h; exact os_cnt
  · cases h
theorem cmS_ok (cx : CxF W Γ N C sc X) : ∀ (n : Nat) (st : Stmt) (cs : CS), cmS Γ N m sc n st = some cs → PS X st (rdS W C cs)
  | 0, _, _, h => by cases h
  | n + 1, st, cs, h => stS_ok cx (cmS_ok cx n) h
theorem cmSs_ok (cx : CxF W Γ N C sc X) {n : Nat} {b : List Stmt} {cs : CSs} (h : cmSs Γ N m n sc b = some cs) : PSs X b (rdSs W C cs) := cSs_ok (cmS_ok cx n) h
end
end PC
end
section
set_option Elab.async false
set_option linter.all false
set_option maxRecDepth 100000
set_option maxHeartbeats 1000000
/-! PC: defs. -/
namespace PC
open PySem L2
/-- a def of the top: its object, its words, what they compile to -/
structure DefOk (W : Wd) (Γ : Gam) (P : Prog) (mg : Str → Option Value) (base : Heap) (x : Str) (F : FnI) where
  f : Addr
  fd : FuncData
  nm : Str
  qual : Str
  params : Arguments
  body : List Stmt
  scope : Scope
  N : List Str
  dvs : List V
  kws : List (Str × V)
  c : CSs
  hm : mg x = some (.ref f)
  D : FunD W.K nm qual params body scope dvs kws f fd
  S : FnScope N F.ps scope
  cm : ∀ (L : Nat) (X : Cx), CxF W Γ N (calL P L) scope X → X.mg = mg → X.base = base → (∀ y, X.fn y = true) → (∃ (h : Addr), X.env = PyProof.Rows.envOfC qual scope h f fd.code) → PSs X body (rdSs W (calL P L) c)
  pf : P.fns[F.id]? = some ⟨F.ps.length, N.length, c⟩
  bd : Binds W.K fd F.ps []
  kb : ∀ many ns ix, (F.id, many, ns) ∈ Γ.kws → oMap (argIx F many ns) F.ps.zipIdx = some ix → KB W.K fd F.ps many ns ix ((F.dfl.map (·.2)).map litV)
/-- a lambda of the text -/
structure LmOk (W : Wd) (Γ : Gam) (P : Prog) (l : Nat) (I : LmI) : Prop where
  S : NdefX.NScope I.N I.ps I.fr I.scope
  bd : ∀ (cl : List (Str × Addr)) (pm cd ct : Value) (us : List Value), us.length = I.ps.length → bindArgs (PySem.W.kla_fn "<lambda>" I.qual I.params I.body I.scope cl pm cd ct) ⟨us, []⟩ = pure (I.ps.zip us)
  cm : ∃ m c, cmE Γ I.N m I.scope I.body = some c ∧ P.lms[l]? = some ⟨I.ps.length, I.N.length, c⟩
structure Glo (W : Wd) (Γ : Gam) (P : Prog) (mg : Str → Option Value) (base : Heap) : Prop where
  con : ∀ x g, Γ.con.lookup x = some g → ∃ d v u, P.glos[g]? = some d ∧ mg x = some u ∧ RelV v u ∧ ∀ ι H, DV W ι H d v
  fns : ∀ x F, Γ.fns.lookup x = some F → Nonempty (DefOk W Γ P mg base x F)
  free : ∀ x ∈ bltNs, freeB Γ x = true → mg x = none
  lms : ∀ l I, W.lm l = some I → LmOk W Γ P l I
section
variable {W : Wd} {Γ : Gam} {P : Prog} {mg : Str → Option Value} {prog : Program} {w : World} {base : Heap}
theorem env_start {ι : List Addr} {H : Hp} {ds : List D} {vs : List V} {N : List Str} {n : Nat} (h : DXs W ι H ds vs) (hn : ds.length = n) : EnV W ι H (ds.map some ++ List.replicate (N.length - n) none) (L2.start N vs) := by
  unfold L2.start
  have hl := DXs.length h
  refine ⟨by simp only [List.length_append, List.length_map, List.length_replicate]; omega, fun i d q => ?_⟩
  by_cases hi : i < ds.length
  · rw [List.getElem?_append_left (by simpa using hi), List.getElem?_map] at q
    obtain ⟨z, e1, e2⟩ := Option.map_eq_some_iff.mp q
    cases e2
    obtain ⟨v, e3, e4⟩ := DXs.get h e1
    refine ⟨v, ?_, e4⟩
    rw [List.getElem?_append_left (by simp; omega), List.getElem?_map, e3]
    rfl
  · rw [List.getElem?_append_right (by simpa using hi), List.getElem?_replicate] at q
    split at q <;> cases q
theorem fn_len {L id : Nat} {F : Fn} (hf : P.fns[id]? = some F) {vs : List V} {H : Hp} {Q : VK} (h : spF W (calL P L) id vs H Q) : vs.length = F.ps := by
  obtain ⟨ι, S, ds, d, S', R, hd, ev, g⟩ := h
  cases L with
  | zero => cases ev
  | succ L =>
    have ev' : oneF (calL P L) id ds S = some (d, S') := ev
    unfold oneF at ev'
    have hp : (calL P L).P = P := by cases L <;> rfl
    rw [hp, hf] at ev'
    simp only at ev'
    split at ev'
    · rename_i hl
      rw [← DXs.length hd]
      exact hl
    · cases ev'
theorem cal_P (L : Nat) : (calL P L).P = P := by cases L <;> rfl
/-- what is known at a level -/
structure Lvl (W : Wd) (Γ : Gam) (P : Prog) (prog : Program) (w : World) (mg : Str → Option Value) (base : Heap) (L : Nat) : Prop where
  fn : ∀ (x : Str) (F : FnI) (d : DefOk W Γ P mg base x F), FnG prog w W.K mg base L d.f d.fd F.ps (spF W (calL P L) F.id)
  lm : ∀ l, LmG prog w W (calL P L) mg base L l
theorem Lvl.cx (G : Glo W Γ P mg base) {L : Nat} (V : Lvl W Γ P prog w mg base L) {N : List Str} {sc : Scope} {X : Cx} (e1 : X.prog = prog) (e2 : X.w = w) (e3 : X.K = W.K) (e4 : X.mg = mg) (e5 : X.base = base) (hN : X.N = N) (nd : N.Nodup) (hsc : X.env.scope = sc) (hc : X.calm = true) (hg : X.A.guards = some []) (hr : Room L X.A) : CxS W Γ N (calL P L) sc X := by
  subst e1 e2 e4 e5
  refine ⟨hN, nd, hsc, hc, e3, hg, ?_, ?_, fun y F' hy => ?_, G.free, ⟨L, hr, V.lm⟩⟩
  · have := hr.un
    omega
  · rw [cal_P]
    exact G.con
  · obtain ⟨d'⟩ := G.fns y F' hy
    have := V.fn y F' d'
    rw [← e3] at this
    exact ⟨d'.f, d'.fd, L, d'.hm, by rw [e3]; exact d'.D.kp, hr, this, by rw [e3]; exact d'.bd, by rw [e3]; exact d'.kb⟩
theorem fn_step (G : Glo W Γ P mg base) {L : Nat} (V : Lvl W Γ P prog w mg base L) (x : Str) (F : FnI) (d : DefOk W Γ P mg base x F) : FnG prog w W.K mg base (L + 1) d.f d.fd F.ps (spF W (calL P (L + 1)) F.id) := by
  refine ⟨fun vs H Q h => fn_len d.pf h, fun A outer s H args us vs Q hr hg e0 hb r h => ?_⟩
  obtain ⟨oc, od, dV, kV, doc, pm, an, cdv, ct, osl, hfd, lk, hcd, _, _⟩ := d.D.ex
  have hcode : d.fd.code = cdv := by rw [hfd]
  rw [hfd] at lk hb
  refine LamX.run_ofS lk hcd d.S hr e0 hb r (fn_len d.pf h) fun hr' => ?_
  obtain ⟨ι, S, ds, dd, S', R, hd, ev, g⟩ := h
  have ev' : oneF (calL P L) F.id ds S = some (dd, S') := ev
  unfold oneF at ev'
  rw [cal_P, d.pf] at ev'
  simp only at ev'
  split at ev'
  · rename_i hl
    refine ⟨rdSs W (calL P L) d.c, PSs.nox (d.cm L _ ⟨V.cx G rfl rfl rfl rfl rfl rfl d.S.nd rfl rfl hg hr', PassesOwn.never, fun y hy => ⟨loc_of hy, .inl rfl⟩⟩ rfl rfl (fun _ => rfl) ⟨_, by rw [hcode]; rfl⟩), ?_⟩
    unfold endD at ev'
    split at ev'
    · rename_i e1 S1 hx
      cases ev'
      exact ⟨ι, S, _, .nx, e1, S', R, env_start hd hl, hx, fun ι' H' σ' E R' V' => g ι' H' .non E R' rfl⟩
    · rename_i dx e1 S1 hx
      cases ev'
      exact ⟨ι, S, _, .rt dd, e1, S', R, env_start hd hl, hx, fun ι' H' σ' E R' V' v hv => g ι' H' v E R' hv⟩
    · cases ev'
  · cases ev'
/-- the cells that a closure names -/
def celsOf (cl : List (Str × Addr)) : List Addr := cl.filterMap fun p => cl.lookup p.1
theorem cels_mem {cl : List (Str × Addr)} {a : Addr} : a ∈ celsOf cl ↔ ∃ y, cl.lookup y = some a := by
  unfold celsOf
  rw [List.mem_filterMap]
  constructor
  · rintro ⟨p, _, h⟩
    exact ⟨p.1, h⟩
  · rintro ⟨y, h⟩
    exact ⟨(y, a), mem_of_lookup h, h⟩
theorem lent_cells {H : Hp} {cl : List (Str × Addr)} {fr : List Str} {vs : List V} (h : CellsV H cl fr vs) : Lent H (celsOf cl) := fun a ha => by
  obtain ⟨y, hy⟩ := cels_mem.mp ha
  obtain ⟨o, v, h1, h2⟩ := h.all y a hy
  exact ⟨o, h1, fun us z => by rw [h2] at z; cases z⟩
theorem env_lam {ι : List Addr} {H : Hp} {ds cs : List D} {vs ws : List V} {N : List Str} (h : DVs W ι H ds vs) (h2 : DVs W ι H cs ws) : EnV W ι H (ds.map some ++ (cs.map some ++ List.replicate (N.length - ds.length - cs.length) none)) (NdefX.startF N vs (ws.map some)) := by
  unfold NdefX.startF
  have hl := DVs.length h
  have hl2 := DVs.length h2
  refine ⟨by simp only [List.length_append, List.length_map, List.length_replicate]; omega, fun i d q => ?_⟩
  by_cases hi : i < ds.length
  · rw [List.getElem?_append_left (by simpa using hi), List.getElem?_map] at q
    obtain ⟨z, e1, e2⟩ := Option.map_eq_some_iff.mp q
    cases e2
    obtain ⟨v, e3, e4⟩ := DVs.get h e1
    refine ⟨v, ?_, .inl e4⟩
    rw [List.getElem?_append_left (by simp; omega), List.getElem?_map, e3]
    rfl
  · rw [List.getElem?_append_right (by simpa using hi)] at q
    rw [List.getElem?_append_right (by simp; omega)]
    simp only [List.length_map] at q ⊢
    by_cases hj : i - ds.length < cs.length
    · rw [List.getElem?_append_left (by simpa using hj), List.getElem?_map] at q
      obtain ⟨z, e1, e2⟩ := Option.map_eq_some_iff.mp q
      cases e2
      obtain ⟨v, e3, e4⟩ := DVs.get h2 e1
      refine ⟨v, ?_, .inl e4⟩
      rw [← hl, List.getElem?_append_left (by simp; omega), List.getElem?_map, e3]
      rfl
    · rw [List.getElem?_append_right (by simpa using hj), List.getElem?_replicate] at q
      split at q <;> cases q
theorem lm_step (G : Glo W Γ P mg base) {L : Nat} (V : Lvl W Γ P prog w mg base L) (l : Nat) : LmG prog w W (calL P (L + 1)) mg base (L + 1) l := by
  intro A outer s H f us vs Q hr hg e0 r h
  obtain ⟨ι, S, ds, cs, d, S', R, hv, hd, ev, g⟩ := h
  obtain ⟨I, c, cl, pm, ct, ws, h1, h2, h3, h4, h5, h6⟩ := hv
  have O := G.lms l I h1
  obtain ⟨m, c0, hc0, hp⟩ := O.cm
  have ev' : oneL (calL P L) l ds cs S = some (d, S') := ev
  unfold oneL at ev'
  rw [cal_P, hp] at ev'
  simp only at ev'
  split at ev'
  · rename_i hl
    have Lt := lent_cells h6
    have of1 := obo_get e0.hok h2
    obtain ⟨⟨oc, cvs, t, hoc, hdc, hvc⟩, _, _⟩ := e0.hok c _ h3
    have hlv : vs.length = I.ps.length := by rw [← DVs.length hd]; exact hl
    have lim : s.heap.NoLimit := e0.mod.nolimit.keeps fun b o e => (e0.bs b o e).1
    refine PySem.W.kla_callFunE hr.depth of1 rfl O.S.co O.S.gen rfl ⟨c, oc, cvs, t, rfl, hoc, hdc, hvc⟩ ?_
    rw [O.bd _ _ _ _ us (by rw [← r.length]; exact hlv)]
    refine wpAny_pure (wpAny_newFunctionEnv O.S.nocell (fun ⟨n, _⟩ hy => O.S.par n (List.of_mem_zip hy).1) (fun h₁ hns hsb => ⟨lim.fresh _ hsb, ?_⟩) O.S.kind)
    have kp : ∀ b o, s.heap.get? b = some o → h₁.get? b = some o := fun b o e => hsb.extBut b o (Nat.ne_of_lt (Heap.lt_size e)) (Heap.get?_push_of_some _ e)
    have e0' : Env0 prog w W.K mg base A outer s (dropA (celsOf cl) H) := ⟨e0.frames, e0.mod, fun b o e => ⟨(e0.bs b o e).1, drop_none (e0.bs b o e).2⟩, e0.bsz, e0.funs, fun b hb => drop_none (e0.frf b hb), HOk.drop' e0.hok Lt, e0.bare⟩
    have cells : NdefX.CellsAt cl I.fr (ws.map some) s.heap (dropA (celsOf cl) H) := by
      refine ⟨by rw [List.length_map]; exact h6.len, fun y a hy => ⟨drop_in (cels_mem.mpr ⟨y, hy⟩), ?_⟩, h6.inj, fun i y hy => ?_⟩
      · obtain ⟨o, v, q1, q2⟩ := h6.all y a hy
        exact ⟨v, o, obo_get e0.hok q1, q2⟩
      · have hi : i < ws.length := by
          rw [h6.len]
          exact (List.getElem?_eq_some_iff.mp hy).1
        obtain ⟨a, o, u, q1, q2, q3, q4⟩ := h6.at_ i y ws[i] hy (List.getElem?_eq_getElem hi)
        refine ⟨a, q1, fun v hv => ?_⟩
        rw [List.getElem?_map, List.getElem?_eq_getElem hi] at hv
        cases hv
        exact ⟨u, q4, o, obo_get e0.hok q2, q3⟩
    have J := NdefX.inv_startN (CX := CX0) (P := prog) (w := w) (K := W.K) (mg := mg) (base := base) (N := I.N) (ps := I.ps) (fr := I.fr) (F := ⟨"<lambda>", I.qual, I.params, [], I.scope, cl, c⟩) (f := f) (E := E0) (tk := s.toks + (I.ps.zip us).length) O.S hr.hd e0' hlv r cells hns kp
    have hpe := PE.nox ((cmE_ok m _ (NdefX.ncx CX0 prog w W.K mg base I.N ⟨"<lambda>", I.qual, I.params, [], I.scope, cl, c⟩ f A outer s (dropA (celsOf cl) H) E0).nox _ _ (V.cx G rfl rfl rfl rfl rfl rfl O.S.nd rfl rfl hg (hr.deeper _)) hc0).1)
    have hrd : rdE W (calL P L) c0 (NdefX.startF I.N vs (ws.map some)) (dropA (celsOf cl) H) fun v H1 => (∀ a ∈ celsOf cl, H1 a = none) → Q v (putA (celsOf cl) H H1) := by
      have dk := DVs.gen (W := W) (ι := ι) (ι' := ι) (fun _ _ h => h) Lt.tf
      refine ⟨ι, S, _, d, S', R.drop Lt e0.hok, env_lam (dk _ _ hd) (dk _ _ h5), ev', fun ι' H1 v E R' hv hn => ?_⟩
      refine g ι' _ v (Ext.back' Lt E fun a ha hm => ?_) (R'.back' hn) (DV.back' hn hv)
      obtain ⟨u, q, _⟩ := R'.mem hm
      rw [hn a ha] at q
      cases q
    refine PySem.W.kla_codeExpr (wpAny_mono (hpe.run [] _ _ _ _ J hrd) (fun v s' hq => ?_) fun e s' hq => hq)
    obtain ⟨x, H1, J', rv, q⟩ := hq
    have U : Un (frs outer) [] (dropA (celsOf cl) H) H1 s.heap s'.heap := J'.base
    have hn : ∀ a ∈ celsOf cl, H1 a = none := fun a ha => by
      obtain ⟨o, q, _⟩ := Lt a ha
      exact U.free a o (obo_get e0.hok q) (drop_in ha) (by simp)
    refine ⟨x, _, J'.os, J'.bare, Un.back' Lt U, HOk.back' e0.hok Lt J'.hok hn fun a ha o e => ?_, rv, q hn⟩
    refine U.keep a o e (drop_in ha) (fun z => ?_) (by simp)
    obtain ⟨ob, q, _⟩ := Lt a ha
    rw [e0.frf a z] at q
    cases q
  · cases ev'
theorem lvl_all (G : Glo W Γ P mg base) : ∀ L : Nat, Lvl W Γ P prog w mg base L
  | 0 => ⟨fun x F d => ⟨fun vs H Q h => fn_len d.pf h, fun A outer s H args us vs Q hr hg e0 hb r h => by
      obtain ⟨ι, S, ds, dd, S', R, hd, ev, g⟩ := h
      cases ev⟩, fun l A outer s H f us vs Q hr hg e0 r h => by
      obtain ⟨ι, S, ds, cs, dd, S', R, hv, hd, ev, g⟩ := h
      cases ev⟩
  | L + 1 => ⟨fn_step G (lvl_all G L), lm_step G (lvl_all G L)⟩
end
end PC
end
section
set_option Elab.async false
set_option linter.all false
set_option maxRecDepth 100000
set_option maxHeartbeats 1000000
/-! PC: a lambda made as the last argument of a call. -/
namespace PC
open PySem L2 LamX
section
variable {W : Wd} {C : Cal} {ι ι' ι1 ι2 : List Addr} {S S' S0 S1 S2 : Sto} {H H' H1 H2 : Hp} {e e' : En} {σ σ' : L2.St} {X : Cx} {pos p : Pos} {es : List Expr} {cs : CEs} {pins : List (Addr × Obj)} {s : Shared}
/-- what is known where the lambda has just been made -/
structure Made (X : Cx) (pins : List (Addr × Obj)) (σ : L2.St) (T : List (Addr × Str)) (H : Hp) (s : Shared) (I : LmI) (cl : List (Str × Addr)) (f c : Addr) (pm ct : Value) (H1 : Hp) (s1 : Shared) : Prop where
  inv : L2.Inv X pins σ H1 s1
  ext : ExtN H H1
  tab : Tabs T H1
  at_ : s1.heap.get? f = some (lamObj I cl pm c ct)
  none : H1 f = none
  new : X.base.objs.size ≤ f
  nofr : f ∉ frs X.stack
  code : H1 c = some (CodeO c I.qual)
theorem made_new (I : L2.Inv X pins σ H s) {f : Addr} (h : s.heap.objs.size ≤ f) : X.base.objs.size ≤ f ∧ f ∉ frs X.stack := by
  refine ⟨Nat.le_trans (Nat.le_trans I.ok.bsz I.sz) h, fun z => ?_⟩
  rcases List.mem_cons.mp (I.stkSub _ z) with e | e
  · have h1 := I.lt
    rw [← e] at h1
    exact Nat.lt_irrefl _ (Nat.lt_of_lt_of_le h1 h)
  · exact I.nofs h e
theorem lam_made {T : List (Addr × Str)} {Im : LmI} {c0 P0 : Addr} {lp : Pos} {E : Value → Shared → Prop} {Q : Value → Shared → Prop} (I : L2.Inv X pins σ H s) (hq : Im.qual = X.env.qual ++ "<lambda>") (TB : TabB X.base X.mg c0 P0) (hcode : X.env.code = .ref c0) (hm : (P0, Im.qual) ∈ T) (hu : ∀ q ∈ T, q.1 = P0 → q.2 = Im.qual)
    (hT : Tabs T H) (hdef : defaultsOf Im.params X.env = ([], [])) (hfree : ∀ y ∈ Im.scope.names, y.2 = .free → ∃ c, X.env.cells.lookup y.1 = some c)
    (k : ∀ f c pm ct H1 s1, Made X pins σ T H s Im (cloFrom X.env.cells Im.scope.names []) f c pm ct H1 s1 → Q (.ref f) s1) : wpAny (model X.prog X.w) X.A (eval (.Lambda Im.params Im.body Im.scope lp) X.env) Q E s := by
  refine PySem.W.kla_eval hdef ?_
  rw [← hq]
  obtain ⟨tb, tb1, tb2, tb3⟩ := hT _ hm
  have got := I.hok P0 _ tb1
  have clo := closure_ok (scope := Im.scope) (env := X.env) hfree
  have glo := I.mod.glob.keeps I.bk
  have cod := TB.code.keeps I.bk
  have bui := TB.bm.keeps I.bk
  cases found : codeAmong lp tb.toList with
  | some cv =>
    obtain ⟨c1, rfl, isc⟩ := tb3 lp cv found
    refine PySem.W.kla_makeFunctionHit clo I.ok.glob glo hcode cod got tb2 found bui fun ct h1 tk old big => ?_
    refine k h1.objs.size c1 _ ct H _ ⟨I.kept fun b o q => Heap.get?_push_of_some _ (old b o q), ExtN.refl H, hT, Heap.get?_push_size _ rfl, I.hok.fresh big, (made_new I big).1, (made_new I big).2, isc⟩
  | none =>
    refine PySem.W.kla_makeFunction clo I.ok.glob glo hcode cod got tb2 found TB.gP bui fun c1 ct h1 tk old ge lt rec now => ?_
    obtain ⟨c2, oc, us, t, q0, q1, q2, q3⟩ := rec
    cases q0
    have big : s.heap.objs.size ≤ h1.objs.size := by omega
    have n1 : H c1 = none := I.hok.fresh ge
    let more : Array Value := #[rawInt lp.line, rawInt lp.col, .ref c1]
    have I1 := inv_table (t' := tk) (more := more) (h' := h1.push (lamObj Im (cloFrom X.env.cells Im.scope.names []) ((X.mg "__name__").getD .none) c1 ct)) I tb1 (fun b o hb q => Heap.get?_push_of_some _ (old b o hb q)) (Heap.get?_push_of_some _ now) ge ⟨oc, us, t, Heap.get?_push_of_some _ q1, q2, q3⟩
    have grow : ExtN H (upd (upd H P0 (.tbl (tb ++ more))) c1 (CodeO c1 Im.qual)) := fun b o q nt => by
      have z1 : b ≠ c1 := ne_of_none q n1
      have z2 : b ≠ P0 := fun z => by
        rw [z, tb1] at q
        exact nt tb (Option.some.inj q).symm
      rw [upd_ne z1, upd_ne z2]
      exact q
    have e1 : (tb ++ more).toList = tb.toList ++ [rawInt lp.line, rawInt lp.col, .ref c1] := by simp [more]
    refine k h1.objs.size c1 _ ct _ _ ⟨I1, grow, fun q hq1 => ?_, Heap.get?_push_size _ rfl, ?_, (made_new I big).1, (made_new I big).2, upd_same⟩
    · by_cases z : q.1 = P0
      · rw [hu q hq1 z, z]
        refine ⟨tb ++ more, by rw [upd_ne (ne_of_none tb1 n1), upd_same], by rw [e1]; exact PySem.TriplesOk_snoc _ _ _ _ tb2, fun pp cv hcv => ?_⟩
        rw [e1] at hcv
        rcases among_app _ tb2 hcv with y | y
        · obtain ⟨c3, y1, y2⟩ := tb3 pp cv y
          exact ⟨c3, y1, grow _ _ y2 codeO_ne⟩
        · exact ⟨c1, y, upd_same⟩
      · obtain ⟨ps, y1, y2, y3⟩ := hT q hq1
        refine ⟨ps, by rw [upd_ne (ne_of_none y1 n1), upd_ne z]; exact y1, y2, fun pp cv hcv => ?_⟩
        obtain ⟨c3, x1, x2⟩ := y3 pp cv hcv
        exact ⟨c3, x1, grow _ _ x2 codeO_ne⟩
    · have lt0 := Heap.lt_size got
      rw [upd_ne (Nat.ne_of_gt lt), upd_ne (Nat.ne_of_gt (Nat.lt_of_lt_of_le lt0 big))]
      exact I.hok.fresh big
/-- the store's relation where only tables grew -/
theorem ext_tables (R : Rep W ι S H) (x : ExtN H H1) (t : Tabs W.T H1) : Ext ι S H ι S H1 ∧ Rep W ι S H1 := by
  have E : Ext ι S H ι S H1 := ⟨⟨[], by simp, by simp⟩, fun a o h nt _ => x a o h nt, fun _ _ => rfl⟩
  refine ⟨E, R.len, R.nd, fun n a o h1 h2 => ?_, t⟩
  have q := R.ob n a o h1 h2
  obtain ⟨u, e, own⟩ := OV.held q
  exact OV.mono E R q ((x a u e fun ps z => by rw [z] at own; exact own).trans e.symm)
/-- what stands at the addresses A of the heap h, lent -/
def lendA (A : List Addr) (h : Heap) (H : Hp) : Hp := fun a => if a ∈ A then (h.get? a).map (ObO a) else H a
theorem lend_in {A : List Addr} {h : Heap} {a : Addr} {o : Obj} (ha : a ∈ A) (e : h.get? a = some o) : lendA A h H a = some (ObO a o) := by
  unfold lendA
  rw [if_pos ha, e]
  rfl
theorem lend_out {A : List Addr} {h : Heap} {a : Addr} (ha : a ∉ A) : lendA A h H a = H a := if_neg ha
theorem lend_ok {P : Program} {w : World} {A : List Addr} {h : Heap} (ok : HOk P w H h) (hn : ∀ a ∈ A, H a = none) : HOk P w (lendA A h H) h := fun a u e => by
  by_cases ha : a ∈ A
  · unfold lendA at e
    rw [if_pos ha] at e
    obtain ⟨o, q, rfl⟩ := Option.map_eq_some_iff.mp e
    exact ⟨q, ⟨o, q⟩, fun h1 h2 z st => st _ z⟩
  · rw [lend_out ha] at e
    have out : ∀ {b v}, H b = some v → b ∉ A := fun {b v} q z => by
      rw [hn b z] at q
      cases q
    exact (ok a u e).stay (fun _ _ _ q => q) (fun b q => by rw [lend_out (out q)]; exact q) fun b xs q => by rw [lend_out (out q)]; exact q
theorem pas_star : ∀ {es : List Expr} {cs : CEs}, PAs W C X es cs → es.all notStar = true
  | _, _, .nil => rfl
  | _, _, .cons _ hs t => by rw [List.all_cons, hs, pas_star t]; rfl
theorem ok_callL {f : Addr} {fd : FuncData} {ps : List Str} {k id l : Nat} {x : Str} {caps : List Nat} {Im : LmI} {c0 P0 : Addr} {lp : Pos} (F : FnG X.prog X.w X.K X.mg X.base k f fd ps (spF W C id)) (hr : Room k X.A) (hgd : X.A.guards = some []) (hg : Gl X x) (hm : X.mg x = some (.ref f)) (hk : PySem.W.keepIn X.K (.ref f) = true) (hb : Binds X.K fd ps [])
    (hdb : x ≠ "__debug__") (hfn : ∀ y, X.fn y = true) (hl : W.lm l = some Im) (hq : Im.qual = X.env.qual ++ "<lambda>") (TB : TabB X.base X.mg c0 P0) (hcode : X.env.code = .ref c0) (hmT : (P0, Im.qual) ∈ W.T) (hu : ∀ q ∈ W.T, q.1 = P0 → q.2 = Im.qual) (hdef : defaultsOf Im.params X.env = ([], []))
    (hfree : ∀ y ∈ Im.scope.names, y.2 = .free → X.env.scope.names.lookup y.1 = some .cell ∨ X.env.scope.names.lookup y.1 = some .free) (hfr : ∀ y ∈ Im.fr, (y, NameKind.free) ∈ Im.scope.names) (hcl : caps.length = Im.fr.length) (hcap : ∀ (i : Nat) y j, Im.fr[i]? = some y → caps[i]? = some j → X.N[j]? = some y)
    (hp : PAs W C X es cs) : PE X (.Call (.Name x p) (es ++ [.Lambda Im.params Im.body Im.scope lp]) [] pos) (rdE W C (.callL id cs l caps)) := by
  refine ⟨fun pins s σ H Q I h => ?_⟩
  obtain ⟨ι, S, e, d, S', R, Ve, ev, g⟩ := h
  simp only [evE] at ev
  obtain ⟨xs, S1, ev1, ev⟩ := bnd_some ev
  split at ev
  · rename_i ls hls
    let cl := cloFrom X.env.cells Im.scope.names []
    have has : ∀ y ∈ Im.scope.names, y.2 = .free → ∃ c, X.env.cells.lookup y.1 = some c := fun y hy hy2 => I.ok.has y.1 (hfree y hy hy2)
    -- the arguments
    have args : ∀ {es : List Expr} {cs : CEs} {ι : List Addr} {S S1 : Sto} {H : Hp} {xs : List D} {s : Shared}, PAs W C X es cs → L2.Inv X pins σ H s → Rep W ι S H → EnV W ι H e σ → evEs C cs e S = some (xs, S1) →
        wpAny (model X.prog X.w) X.A (spliced (backTo pos (starEach (es ++ [.Lambda Im.params Im.body Im.scope lp]) X.env))) (fun us s1 => ∃ f c pm ct H0 s0 H1 ι1 vs us0, us = us0 ++ [.ref f] ∧ Made X pins σ W.T H0 s0 Im cl f c pm ct H1 s1 ∧ Ext ι S H ι1 S1 H1 ∧ Rep W ι1 S1 H1 ∧ DVs W ι1 H1 xs vs ∧ Vals vs us0 ∧ EnV W ι1 H1 e σ) X.xe s := by
      intro es cs
      induction es generalizing cs with
      | nil =>
        intro ι S S1 H xs s hp I R Ve ev
        cases hp
        simp only [evEs] at ev
        cases ev
        refine PyProof.Rows.args_cons (lam_made I hq TB hcode hmT hu R.tab hdef has fun f c pm ct H1 s1 M => PyProof.Rows.args_nil ?_) rfl
        obtain ⟨E, R1⟩ := ext_tables R M.ext M.tab
        exact ⟨f, c, pm, ct, H, s, H1, ι, [], [], rfl, M, E, R1, rfl, .nil, Ve.mono E R⟩
      | cons a es ih =>
        intro ι S S1 H xs s hp I R Ve ev
        cases hp with
        | cons ha hs t =>
          simp only [evEs] at ev
          obtain ⟨x, S2, e1, ev⟩ := bnd_some ev
          obtain ⟨ys, S3, e2, ev⟩ := bnd_some ev
          cases ev
          refine PyProof.Rows.args_cons (thn (ha.run pins s σ H (fun v H2 => ∃ ι2, Ext ι S H ι2 S2 H2 ∧ Rep W ι2 S2 H2 ∧ DV W ι2 H2 x v) I (rdE_then R Ve e1 fun ι2 H2 v E2 R2 hv V2 => ⟨ι2, E2, R2, hv⟩)) fun u s2 ⟨v, H2, I2, rv, ι2, E2, R2, hv⟩ => ?_) (star_cons hs)
          refine thn (ih t I2 R2 (Ve.mono E2 R) e2) fun us s3 ⟨f, c, pm, ct, H0, s0, H1, ι1, vs, us0, q1, M, E1, R1, q3, q4, q5⟩ => ?_
          exact ⟨f, c, pm, ct, H0, s0, H1, ι1, v :: vs, u :: us0, by rw [q1]; rfl, M, E2.trans R2 E1, R1, ⟨v, vs, rfl, DV.mono E1 R2 _ _ hv, q3⟩, .cons rv q4, q5⟩
    have hs : es.all notStar = true := pas_star hp
    have hs' : (es ++ [Expr.Lambda Im.params Im.body Im.scope lp]).all notStar = true := by rw [List.all_append, hs]; rfl
    have body : ∀ us s1, (∃ f c pm ct H0 s0 H1 ι1 vs us0, us = us0 ++ [.ref f] ∧ Made X pins σ W.T H0 s0 Im cl f c pm ct H1 s1 ∧ Ext ι S H ι1 S1 H1 ∧ Rep W ι1 S1 H1 ∧ DVs W ι1 H1 xs vs ∧ Vals vs us0 ∧ EnV W ι1 H1 e σ) → X.K.In s1.heap ∧ wpAny (model X.prog X.w) X.A (PySem.call (.ref f) ([] ++ us)) (EP X pins σ Q) X.xe s1 := by
      rintro us s1 ⟨g0, c, pm, ct, H0, s0, H1, ι1, vs, us0, rfl, M, E1, R1, hxs, hvs, V1⟩
      have I1 := M.inv
      refine ⟨I1.kIn, ?_⟩
      let A : List Addr := g0 :: celsOf cl
      have cm : ∀ {y a}, cl.lookup y = some a → X.env.cells.lookup y = some a := fun {y a} q => NdefX.clo_cm has q
      -- the lent things stand apart
      have apart : ∀ a ∈ A, H1 a = none ∧ X.base.objs.size ≤ a ∧ a ∉ frs X.stack ∧ ∃ o, s1.heap.get? a = some o ∧ ∀ us, o.data ≠ .fields us := fun a ha => by
        rcases List.mem_cons.mp ha with rfl | ha
        · exact ⟨M.none, M.new, M.nofr, _, M.at_, fun us z => by cases z⟩
        · obtain ⟨y, hy⟩ := cels_mem.mp ha
          obtain ⟨v, o, ho, hd⟩ := I1.cell y a (cm hy)
          refine ⟨I1.freeC y a (cm hy), Nat.le_trans I1.ok.bsz (I1.ok.cab y a (hfn y) (cm hy)), fun z => ?_, o, ho, fun us z => by rw [hd] at z; cases z⟩
          rcases List.mem_cons.mp (I1.stkSub _ z) with e | e
          · exact I1.cne y a (cm hy) e
          · obtain ⟨_, o', ho', _⟩ := I1.ok.funs.mem e
            exact absurd (Nat.lt_of_lt_of_le (Heap.lt_size ho') (I1.ok.cab y a (hfn y) (cm hy))) (Nat.lt_irrefl _)
      let H3 := lendA A s1.heap H1
      have hn : ∀ a ∈ A, H1 a = none := fun a ha => (apart a ha).1
      have out : ∀ {b v}, H1 b = some v → b ∉ A := fun {b v} q z => by
        rw [hn b z] at q
        cases q
      have up : ∀ b v, H1 b = some v → H3 b = some v := fun b v q => by
        show lendA A s1.heap H1 b = _
        rw [lend_out (out q)]
        exact q
      have ok3 : HOk X.prog X.w H3 s1.heap := lend_ok I1.hok hn
      have z0 := I1.env0
      have env3 : Env0 X.prog X.w X.K X.mg X.base X.A X.stack s1 H3 := ⟨z0.frames, z0.mod, fun b o q => ⟨(z0.bs b o q).1, by
          show lendA A s1.heap H1 b = _
          rw [lend_out fun hb => absurd (Heap.lt_size q) (Nat.not_lt_of_le (apart b hb).2.1)]
          exact (z0.bs b o q).2⟩, z0.bsz, z0.funs, fun b hb => by
          show lendA A s1.heap H1 b = _
          rw [lend_out fun ha => (apart b ha).2.2.1 hb]
          exact z0.frf b hb, ok3, z0.bare⟩
      have E3 : Ext ι1 S1 H1 ι1 S1 H3 := ⟨⟨[], by simp, by simp⟩, fun a o h _ _ => up a o h, fun _ _ => rfl⟩
      have R3 : Rep W ι1 S1 H3 := by
        refine ⟨R1.len, R1.nd, fun n a o h1 h2 => ?_, R1.tab.ext up⟩
        have q := R1.ob n a o h1 h2
        obtain ⟨u, q1, own⟩ := OV.held q
        exact OV.mono E3 R1 q ((up a u q1).trans q1.symm)
      -- the captured names
      obtain ⟨vls, hvl, hdl⟩ : ∃ vls, DVs W ι1 H3 ls vls ∧ ∀ (i : Nat) y x, Im.fr[i]? = some y → vls[i]? = some x → ∃ a o u, cl.lookup y = some a ∧ H3 a = some (ObO a o) ∧ o.data = .cell (some u) ∧ RelV x u := by
        have one : ∀ (j : Nat) y dd, X.N[j]? = some y → (y, NameKind.free) ∈ Im.scope.names → capD e j = some dd → ∃ x, DV W ι1 H3 dd x ∧ ∃ a o u, cl.lookup y = some a ∧ H3 a = some (ObO a o) ∧ o.data = .cell (some u) ∧ RelV x u := fun j y dd q1 q2 q3 => by
          unfold capD at q3
          split at q3
          · rename_i d0 hd0
            split at q3
            · cases q3
            · rename_i nl
              cases q3
              obtain ⟨x, w1, w2⟩ := V1.2 j _ hd0
              obtain ⟨m, hm, hloc⟩ := I1.loc
              have kind := hfree _ q2 rfl
              obtain ⟨u, ru, look⟩ := hloc j y x q1 w1 (kind.elim (fun k => .inr (.inl k)) fun k => .inr (.inr k))
              refine ⟨x, DV.mono E3 R1 _ _ (w2.dv (by simpa using nl)), ?_⟩
              rcases look with ⟨k1, _⟩ | ⟨_, a, k1, o, k2, k3⟩
              · have k1' : X.env.scope.names.lookup y = some .local := k1
                rcases kind with k | k <;> rw [show X.env.scope.names.lookup y = _ from k] at k1' <;> cases k1'
              · have hc := NdefX.clo_has has q2 k1
                refine ⟨a, o, u, hc, lend_in (List.mem_cons_of_mem _ (cels_mem.mpr ⟨y, hc⟩)) k2, k3, ru⟩
          · cases q3
        have go : ∀ (fr : List Str) (caps : List Nat) (ls : List D), (∀ y ∈ fr, (y, NameKind.free) ∈ Im.scope.names) → (∀ (i : Nat) y j, fr[i]? = some y → caps[i]? = some j → X.N[j]? = some y) → optMap (capD e) caps = some ls → fr.length = caps.length →
            ∃ vls, DVs W ι1 H3 ls vls ∧ ∀ (i : Nat) y x, fr[i]? = some y → vls[i]? = some x → ∃ a o u, cl.lookup y = some a ∧ H3 a = some (ObO a o) ∧ o.data = .cell (some u) ∧ RelV x u := by
          intro fr
          induction fr with
          | nil =>
            intro caps ls _ _ q3 q4
            have : caps = [] := List.eq_nil_of_length_eq_zero q4.symm
            subst this
            cases q3
            exact ⟨[], rfl, fun i y x z => by simp at z⟩
          | cons y fr ih =>
            intro caps ls q1 q2 q3 q4
            cases caps with
            | nil => cases q4
            | cons j caps =>
              obtain ⟨d0, ds, rfl, w1, w2⟩ := optMap_cons q3
              obtain ⟨x, w3, w4⟩ := one j y d0 (q2 0 y j rfl rfl) (q1 y List.mem_cons_self) w1
              obtain ⟨vls, w5, w6⟩ := ih caps ds (fun z hz => q1 z (List.mem_cons_of_mem _ hz)) (fun i z jj h1 h2 => q2 (i + 1) z jj (by simpa using h1) (by simpa using h2)) w2 (by simpa using q4)
              refine ⟨x :: vls, ⟨x, vls, rfl, w3, w5⟩, fun i z xx h1 h2 => ?_⟩
              cases i with
              | zero =>
                simp at h1 h2
                subst h1 h2
                exact w4
              | succ i => exact w6 i z xx (by simpa using h1) (by simpa using h2)
        exact go Im.fr caps ls hfr hcap hls hcl.symm
      have hlen : vls.length = Im.fr.length := by
        rw [← DVs.length hvl]
        have := optMap_len hls
        omega
      have lv : LamV W ι1 H3 l ls g0 := by
        refine ⟨Im, c, cl, pm, ct, vls, hl, lend_in List.mem_cons_self M.at_, up _ _ M.code, fun y a hy => ⟨?_, ?_⟩, hvl, hlen, fun y z a h1 h2 => I1.ok.inj y z a (cm h1) (cm h2), fun y a hy => ?_, hdl⟩
        · rintro rfl
          obtain ⟨v, o, ho, hd⟩ := I1.cell y _ (cm hy)
          rw [M.at_] at ho
          cases ho
          cases hd
        · rintro rfl
          have := I1.freeC y _ (cm hy)
          rw [M.code] at this
          cases this
        · obtain ⟨v, o, ho, hd⟩ := I1.cell y a (cm hy)
          exact ⟨o, v, lend_in (List.mem_cons_of_mem _ (cels_mem.mpr ⟨y, hy⟩)) ho, hd⟩
      have lnt : ∀ {ι' S' H'}, Ext ι1 S1 H3 ι' S' H' → Lent H' A := fun {ι' S' H'} E a ha => by
        obtain ⟨_, _, _, o, ho, nf⟩ := apart a ha
        exact ⟨o, E.ext R3 (lend_in ha ho), nf⟩
      have hargs : DXs W ι1 H3 (xs ++ [.lam l ls]) (vs ++ [.ref g0]) := DXs.snoc (.inr ⟨l, ls, g0, rfl, rfl, lv⟩) (DVs.mono E3 R1 _ _ hxs)
      have run := F.run X.A X.stack s1 H3 ⟨us0 ++ [.ref g0], []⟩ (us0 ++ [.ref g0]) (vs ++ [.ref g0]) (fun v H' => ∃ ι', Ext ι1 S1 H3 ι' S' H' ∧ Rep W ι' S' H' ∧ DV W ι' H' d v) hr hgd env3 (by
        have hlb : (us0 ++ [Value.ref g0] ++ []).length = ps.length := by
          have q := F.len (vs ++ [.ref g0]) H3 (fun _ _ => True) ⟨ι1, S1, _, d, S', R3, hargs, ev, fun _ _ _ _ _ _ => trivial⟩
          rw [List.append_nil, ← q, List.length_append, List.length_append, hvs.length]
          rfl
        have b := hb s1 (us0 ++ [.ref g0]) I1.kIn hlb
        rw [List.append_nil] at b
        exact b) (hvs.append (show Vals [V.ref g0] [Value.ref g0] from .cons rfl .nil)) ⟨ι1, S1, _, d, S', R3, hargs, ev, fun ι' H' v E R' hv => ⟨ι', E, R', hv⟩⟩
      refine wpAny_call (codeAny_mono run fun r s' hq => ?_)
      rcases r with e | (_ | _ | _ | u)
      · exact hq.elim
      · exact hq.elim
      · exact hq.elim
      · exact hq.elim
      · obtain ⟨v, H', os, bare, un, ok', rv, ι', E4, R4, hv4⟩ := hq
        have Lt := lnt E4
        have same : ∀ a ∈ A, ∀ o, s1.heap.get? a = some o → s'.heap.get? a = some o := fun a ha o ho => obo_get ok' (E4.ext R3 (lend_in ha ho))
        have off : ∀ b, H1 b = none → b ∉ A → H3 b = none := fun b q hb => by
          show lendA A s1.heap H1 b = _
          rw [lend_out hb]
          exact q
        have un4 : Un (frs X.stack) [] H1 (dropA A H') s1.heap s'.heap := by
          refine ⟨fun b o q n h1 h2 => ?_, fun b o q n h1 h2 => ?_, fun b o q n h2 => ?_, un.there, fun b ys q => ?_, fun b o u q => ?_, fun b ys q => ?_⟩
          · by_cases hb : b ∈ A
            · exact same b hb o q
            · exact un.keep b o q (off b n hb) h1 h2
          · by_cases hb : b ∈ A
            · exact ⟨o.slots, same b hb o q⟩
            · exact un.slot b o q (off b n hb) h1 h2
          · by_cases hb : b ∈ A
            · exact drop_in hb
            · exact drop_none (un.free b o q (off b n hb) h2)
          · rw [drop_out (out q)]
            exact un.tups b ys (up _ _ q)
          · rw [drop_out (out q)]
            exact un.frzs b o u (up _ _ q)
          · rw [drop_out (out q)]
            exact un.tbls b ys (up _ _ q)
        have I4 := I1.call' os un4 (HOk.drop' ok' Lt) bare (fun b z => by cases z)
        have R5 := R4.drop Lt ok'
        have E5 : Ext ι1 S1 H1 ι' S' (dropA A H') := by
          obtain ⟨new, e1, hnew⟩ := E4.pre
          refine ⟨⟨new, e1, fun a ha o q => hnew a ha o (up _ _ q)⟩, fun a o q nt kk => ?_, E4.fr⟩
          rw [drop_out (out q)]
          exact E4.keep a o (up _ _ q) nt kk
        exact ⟨v, _, I4, rv, g ι' _ v (E1.trans R1 E5) R5 (DV.gen (fun _ _ h => h) Lt.tf _ _ hv4)⟩
    refine wpAny_Call_Name_kw (ld_glob I hg hm ?_ (beq_eq_false_iff_ne.mpr hdb))
    have go := args hp I R Ve ev1
    cases es with
    | nil => exact PySem.W.callWith_K (h₀ := X.base) I.ok.mod.kin hk (thn go body) rfl rfl
    | cons a r =>
      rw [List.all_cons, Bool.and_eq_true] at hs
      exact PySem.W.callWith_K (h₀ := X.base) I.ok.mod.kin hk (thn go body) (star_cons hs.1) (back_any (es := r ++ [Expr.Lambda Im.params Im.body Im.scope lp]) (by rw [List.all_append, hs.2]; rfl))
  · cases ev
end
end PC
end
section
set_option Elab.async false
set_option linter.all false
set_option maxRecDepth 100000
set_option maxHeartbeats 2000000
/-! PC: the law's call at its end, by FnG. -/
namespace PC
open PySem PySem.Spec PyProof.Rows L2
/-- the tables among the addresses -/
abbrev tbs (cs : List (Addr × Addr)) : List Addr := cs.map Prod.snd
/-- what is tracked as the law is called: the script (unless it is the program's own list), the empty tables -/
def Hp0 (K : PySem.W.Frag) (a : Addr) (vs : List Value) (ns : List Int) (cs : List (Addr × Addr)) : Hp := fun b =>
  if b ∈ tbs cs then some (.tbl #[]) else if b = a ∧ K.lookup a = none then some (.frz { cls := .type "list", data := .seq vs.toArray } (.lst (ns.map V.int))) else none
section
variable {P : Program} {w : World} {K : PySem.W.Frag} {mg mb : Str → Option Value} {k : Nat} {fa a : Addr} {cs : List (Addr × Addr)} {fd : FuncData} {x : Str} {sp : List V → Hp → VK → Prop} {s : Shared} {vs : List Value} {ns : List Int}
theorem hp0_tbl {p : Addr × Addr} (hp : p ∈ cs) : Hp0 K a vs ns cs p.2 = some (.tbl #[]) := by
  unfold Hp0
  exact if_pos (List.mem_map.mpr ⟨p, hp, rfl⟩)
/-- an object that is neither a list nor an empty table is not tracked -/
theorem hp0_none (ha : s.heap.get? a = some { cls := .type "list", data := .seq vs.toArray }) (hT : ∀ p ∈ cs, s.heap.get? p.2 = some { cls := .none, data := .fields #[] })
    {b : Addr} {o : Obj} (e : s.heap.get? b = some o) (n1 : ∀ us n, o.data ≠ .seq us n) (n2 : o.data ≠ .fields #[]) : Hp0 K a vs ns cs b = none := by
  unfold Hp0
  split
  · rename_i hb
    obtain ⟨p, hp, rfl⟩ := List.mem_map.mp hb
    rw [hT p hp] at e
    cases e
    exact absurd rfl n2
  · split
    · rename_i hb
      rw [hb.1, ha] at e
      cases e
      exact absurd rfl (n1 _ _)
    · rfl
theorem hp0_ok (ha : s.heap.get? a = some { cls := .type "list", data := .seq vs.toArray }) (hT : ∀ p ∈ cs, s.heap.get? p.2 = some { cls := .none, data := .fields #[] }) (hi : IntsAre vs ns) (hl : ns.length ≤ sizeLine) : HOk P w (Hp0 K a vs ns cs) s.heap := by
  intro b u hu
  unfold Hp0 at hu
  split at hu
  · rename_i hb
    cases hu
    obtain ⟨p, hp, rfl⟩ := List.mem_map.mp hb
    exact hT p hp
  · split at hu
    · rename_i hb
      cases hu
      rw [hb.1]
      exact ⟨ha, by rw [List.length_map]; exact hl, vs, _, vals_ints hi, ha⟩
    · cases hu
theorem hp0_sql (KX : K.In s.heap) (ha : s.heap.get? a = some { cls := .type "list", data := .seq vs.toArray }) (hT : ∀ p ∈ cs, s.heap.get? p.2 = some { cls := .none, data := .fields #[] }) (hi : IntsAre vs ns) (hl : ns.length ≤ sizeLine) :
    (∃ o, Hp0 K a vs ns cs a = some (.frz o (.lst (ns.map V.int)))) ∨ (∃ (o : Obj) (its : Array Value) (n : Nat), K.lookup a = some o ∧ o.cls = .type "list" ∧ o.dict = none ∧ o.data = .seq its n ∧ its.size ≤ sizeLine ∧ Vals (ns.map V.int) its.toList) := by
  cases hk : K.lookup a with
  | some o =>
    have e := KX a o hk
    rw [ha] at e
    cases e
    refine .inr ⟨_, vs.toArray, _, rfl, rfl, rfl, rfl, ?_, by simpa using vals_ints hi⟩
    rw [List.size_toArray, hi.length]
    exact hl
  | none =>
    refine .inl ⟨{ cls := .type "list", data := .seq vs.toArray }, ?_⟩
    unfold Hp0
    rw [if_neg, if_pos ⟨rfl, hk⟩]
    intro hb
    obtain ⟨p, hp, e⟩ := List.mem_map.mp hb
    have q := hT p hp
    rw [show p.2 = a from e, ha] at q
    have z : Data.seq vs.toArray _ = Data.fields #[] := congrArg Obj.data (Option.some.inj q)
    cases z
theorem law_callG (KX : K.In s.heap) (hns : s.heap.Ns mainGlobals mg) (hb : s.heap.Ns builtinsNs mb) (hbb : ∀ y : Str, y ≠ "__name__" → mb y = bootBuiltins y) (lim : s.heap.NoLimit) (hg : s.gens = #[])
    (hT : ∀ p ∈ cs, s.heap.get? p.2 = some { cls := .none, data := .fields #[] }) (nT : ∀ p ∈ cs, K.lookup p.2 = none) (hC : ∀ p ∈ cs, PySem.W.CodeHd s.heap p.1 p.2)
    (hbm : ∃ (bm : Addr) (ob : Obj), mg "__builtins__" = some (.ref bm) ∧ bm ≠ builtinsNs ∧ s.heap.get? bm = some ob ∧ ob.cls = .type "module" ∧ ob.dict = some builtinsNs ∧ ob.data = .plain)
    (ha : s.heap.get? a = some { cls := .type "list", data := .seq vs.toArray }) (hi : IntsAre vs ns) (hl : ns.length ≤ sizeLine) (hr : Room k callerA)
    (F : ∀ base : Heap, K.In base → base.Ns mainGlobals mg → (∀ p ∈ cs, LamX.TabB base mg p.1 p.2) → FnG P w K mg base k fa fd [x] sp) (hbind : ∀ (s : Shared) (u : Value), BindsTo s fd ⟨[u], []⟩ [(x, u)])
    (hsp : sp [.ref a] (Hp0 K a vs ns cs) fun v _ => v = .bl true) :
    codeAny (model P w) callerA (.call (.ref fa) ⟨[.ref a], []⟩) (fun r s' => r = .ok (.ret (.bool true)) ∧ OldK s.heap s'.heap ∧ s'.os = s.os ∧ AllBare s'.gens) s := by
  have hok : HOk P w (Hp0 K a vs ns cs) s.heap := hp0_ok ha hT hi hl
  have left : ∀ {b : Addr} {o : Obj}, s.heap.get? b = some o → (∀ us n, o.data ≠ .seq us n) → o.data ≠ .fields #[] → (hidT s.heap (Hp0 K a vs ns cs)).get? b = some o := fun e n1 n2 => hidT_get e (hp0_none ha hT e n1 n2)
  have spaces : ∀ {b : Addr} {m : Str → Option Value}, s.heap.Ns b m → (hidT s.heap (Hp0 K a vs ns cs)).Ns b m := fun {b m} ⟨o, es, ep, e, d, q⟩ => ⟨o, es, ep, left e (fun us n z => by rw [d] at z; cases z) (fun z => by rw [d] at z; cases z), d, q⟩
  have inK : K.In (hidT s.heap (Hp0 K a vs ns cs)) := fun b o e => hidT_get (KX b o e) (by
    unfold Hp0
    split
    · rename_i hb
      obtain ⟨p, hp, rfl⟩ := List.mem_map.mp hb
      rw [nT p hp] at e
      cases e
    · split
      · rename_i hb
        rw [hb.1, hb.2] at e
        cases e
      · rfl)
  have tabs : ∀ p ∈ cs, LamX.TabB (hidT s.heap (Hp0 K a vs ns cs)) mg p.1 p.2 := fun p hp => by
    refine ⟨?_, ?_, fun z => ?_⟩
    · obtain ⟨o, us, f1, f2, f3, f4, f5, f6, f7, e1, q1, q2, q3⟩ := hC p hp
      refine ⟨o, us, f1, f2, f3, f4, f5, f6, f7, left e1 (fun vs n z => ?_) (fun z => ?_), q1, q2, q3⟩
      · rw [q2] at z
        cases z
      · rw [q2] at z
        cases z
        have q4 := q3.1
        simp at q4
    · obtain ⟨bm, ob, b1, b2, b3, b4, b5, b6⟩ := hbm
      refine ⟨bm, ob, b1, b2, fun q => ?_, fun q => ?_, left b3 (fun vs n z => ?_) (fun z => ?_), b4, b5, b6⟩
      · obtain ⟨o, es, ep, e, d, _⟩ := hns
        rw [q, e] at b3
        cases b3
        rw [d] at b6
        cases b6
      · rw [q, hT p hp] at b3
        cases b3
        cases b6
      · rw [b6] at z
        cases z
      · rw [b6] at z
        cases z
    · obtain ⟨o, es, ep, e, d, _⟩ := hns
      rw [z, hT p hp] at e
      cases e
      cases d
  have around : Env0 P w K mg (hidT s.heap (Hp0 K a vs ns cs)) callerA [] s (Hp0 K a vs ns cs) :=
    ⟨rfl, ⟨inK, spaces hns, ⟨mb, spaces hb, hbb⟩, by obtain ⟨mc, z1, z2⟩ := lim; exact ⟨mc, spaces z1, z2⟩⟩, fun b o e => of_hidT e, Nat.le_of_eq (hidT_size _ _), trivial, fun b z => (by cases z), hok, .of_eq hg⟩
  have go := (F _ inK (spaces hns) tabs).run callerA [] s _ ⟨[.ref a], []⟩ [.ref a] [.ref a] _ hr rfl around (hbind s (.ref a)) (.cons rfl .nil) hsp
  refine codeAny_mono go fun r s' h => ?_
  rcases r with e | (_ | _ | _ | u)
  · exact h.elim
  · exact h.elim
  · exact h.elim
  · exact h.elim
  · obtain ⟨v, H', os, bare, un, hok', rv, q⟩ := h
    cases (show v = .bl true from q)
    cases (show u = Value.bool true from rv)
    have old : ∀ b o, b ∉ tbs cs → s.heap.get? b = some o → s'.heap.get? b = some o := fun b o nb e => by
      by_cases hb : b = a ∧ K.lookup a = none
      · have z : Hp0 K a vs ns cs b = some (.frz { cls := .type "list", data := .seq vs.toArray } (.lst (ns.map V.int))) := by
          unfold Hp0
          rw [if_neg nb, if_pos hb]
        obtain ⟨e1, _⟩ := hok b _ z
        obtain ⟨e2, _⟩ := hok' b _ (un.frzs b _ _ z)
        rw [e] at e1
        cases e1
        exact e2
      · have z : Hp0 K a vs ns cs b = none := by
          unfold Hp0
          rw [if_neg nb, if_neg hb]
        exact un.keep b o e z (fun y => by cases y) (fun y => by cases y)
    have grown : ∀ p ∈ cs, ∃ more : Array Value, s'.heap.get? p.2 = some { cls := .none, data := .fields more } := fun p hp => by
      obtain ⟨more, z⟩ := un.tbls p.2 #[] (hp0_tbl hp)
      exact ⟨_, hok' p.2 _ z⟩
    refine ⟨rfl, ⟨fun b o e => ?_, fun b o e => ?_⟩, os, bare⟩
    · by_cases hb : b ∈ tbs cs
      · obtain ⟨p, hp, rfl⟩ := List.mem_map.mp hb
        obtain ⟨more, hm⟩ := grown p hp
        have e' := e
        rw [hT p hp] at e'
        cases e'
        refine .inr (.inl ⟨((hC p hp).tab (hT p hp)).isCodeTable, rfl, #[], more, rfl, ?_⟩)
        rw [Array.empty_append]
        exact hm
      · exact .inl (old b o hb e)
    · by_cases hb : b ∈ tbs cs
      · obtain ⟨p, hp, rfl⟩ := List.mem_map.mp hb
        obtain ⟨more, hm⟩ := grown p hp
        exact ⟨_, hm⟩
      · exact ⟨o, old b o hb e⟩
end
/-- what is known at the head's heap h -/
def LawG (l : PySem.W.OpenLaw) (w : World) (k n : Nat) (x : Str) (mg : Str → Option Value) (fa : Addr) (h : Heap) : Prop :=
  ∃ (K : PySem.W.Frag) (fd : FuncData) (cs : List (Addr × Addr)) (sp : List V → Hp → VK → Prop), K.In h ∧ (∀ p ∈ cs, h.get? p.2 = some { cls := .none, data := .fields #[] }) ∧ (∀ p ∈ cs, K.lookup p.2 = none) ∧ (∀ p ∈ cs, PySem.W.CodeHd h p.1 p.2) ∧ (∀ (s : Shared) (u : Value), BindsTo s fd ⟨[u], []⟩ [(x, u)]) ∧
    (∀ (a : Addr) (vs : List Value) (ns : List Int), ns.length ≤ n → (∀ z ∈ ns, Builtin.Int.intBits z ≤ 1048576) → ((∃ o, Hp0 K a vs ns cs a = some (.frz o (.lst (ns.map V.int)))) ∨ (∃ (o : Obj) (its : Array Value) (n : Nat), K.lookup a = some o ∧ o.cls = .type "list" ∧ o.dict = none ∧ o.data = .seq its n ∧ its.size ≤ sizeLine ∧ Vals (ns.map V.int) its.toList)) →
      sp [.ref a] (Hp0 K a vs ns cs) fun v _ => v = .bl true) ∧
    ∀ base : Heap, K.In base → base.Ns mainGlobals mg → (∀ p ∈ cs, LamX.TabB base mg p.1 p.2) → FnG l.prog w K mg base k fa fd [x] sp
theorem walk_ofG {l : PySem.W.OpenLaw} {n k : Nat} {q : Program} {loose : List Str} {XP : (Str → Option Value) → Heap → Prop} {YP : World → Heap → Prop} {d : DefRec} {x : Str}
    (hn : l.most = some n) (hn2 : n ≤ sizeLine) (hdf : d.params.defaults = []) (hr : Room k callerA)
    (F : ∀ (w : World) (mg : Str → Option Value) (fa : Addr) (h : Heap), YP w h → h.Ns mainGlobals mg → mg d.name = some (.ref fa) → LawG l w k n x mg fa h) :
    PySem.W.WalkO q loose XP YP l.row.toRowW d [] (fun f vs => PySem.call f vs) := by
  refine Att.attach_callB hn hdf fun w s0 s1 mg mb fa o pm cd doc a vs ns G Y ho hd hcd hmg hobj hints hlen hbits hg => ?_
  obtain ⟨K, fd, cs, sp, KX, hT, nT, hC, hb, hsp, hF⟩ := F w mg fa _ Y G.T.g hmg
  have hl := Nat.le_trans hlen hn2
  exact law_callG KX G.T.g G.T.b G.T.builtins G.T.nolimit hg hT nT hC G.T.bmain hobj hints hl hr hF hb (hsp a vs ns hlen hbits (hp0_sql KX hobj hT hints hl))
end PC
end
section
set_option Elab.async false
set_option linter.all false
set_option maxRecDepth 100000
set_option maxHeartbeats 2000000
/-! PC: from the head's facts to the levels. -/
namespace PC
open PySem L2 He
/-- a def of the text as the head is asked for it -/
structure DS where
  x : Str
  F : FnI
  st : Stmt
  N : List Str
  m : Nat := 30
  n : Nat := 20
abbrev DS.dd (d : DS) : DefD := ⟨(d.x, none), d.x, d.x, defArgs d.st, defBody d.st, defScope d.st, [], []⟩
def scopeB (N ps : List Str) (sc : Scope) : Bool :=
  (match sc.kind with | .function => true | _ => false) && !sc.isCoroutine && !sc.isGenerator && decide N.Nodup && decide (N.take ps.length = ps) && ps.all (fun x => decide (sc.names.lookup x = some .local) || decide (sc.names.lookup x = some .cell)) && sc.names.all fun y => match y.2 with | .free => false | _ => true
theorem scopeB_ok {N ps : List Str} {sc : Scope} (h : scopeB N ps sc = true) : FnScope N ps sc := by
  unfold scopeB at h
  simp only [Bool.and_eq_true, Bool.not_eq_true', decide_eq_true_eq, List.all_eq_true, Bool.or_eq_true] at h
  obtain ⟨⟨⟨⟨⟨⟨h1, h2⟩, h3⟩, h4⟩, h5⟩, h6⟩, h7⟩ := h
  refine ⟨?_, h2, h3, h4, h5, h6, fun y hy z => ?_⟩
  · split at h1
    · assumption
    · cases h1
  · have := h7 y hy
    rw [z] at this
    cases this
def nscB' (N ps fr : List Str) (sc : Scope) : Bool := NdefX.nscB N ps fr sc
/-- the constants -/
def conB (K : PySem.W.Frag) (x : Str) : D → Bool
  | .int i => (Fa.int x i).ok K
  | .str z => (Fa.str x z).ok K
  | .tup ds => (Fa.glo x).ok K && tupB K x (ds.map fun d => match d with | .int i => Dv.int i | .str z => Dv.str z | _ => Dv.non) && ds.all fun d => match d with | .int _ => true | .str _ => true | .non => true | _ => false
  | _ => false
theorem con_ok {K : PySem.W.Frag} {h : Heap} {mg : Str → Option Value} (X : K.In h) (G : h.Ns mainGlobals mg) {W : Wd} (hW : W.K = K) {x : Str} {d : D} (c : conB K x d = true) : ∃ v u, mg x = some u ∧ RelV v u ∧ ∀ ι H, DV W ι H d v := by
  unfold conB at c
  split at c
  · obtain ⟨t, e⟩ := int_ok X G c
    exact ⟨.int _, _, e, ⟨t, rfl⟩, fun _ _ => rfl⟩
  · obtain ⟨t, e⟩ := str_ok X G c
    exact ⟨.str _, _, e, ⟨t, rfl⟩, fun _ _ => rfl⟩
  · rename_i ds
    simp only [Bool.and_eq_true] at c
    obtain ⟨⟨c1, c2⟩, c3⟩ := c
    refine ⟨.ref _, _, glo_ok X G c1, rfl, fun ι H => ⟨_, _, rfl, by rw [hW]; exact tupB_ok c2 H, ?_⟩⟩
    clear c2
    induction ds with
    | nil => rfl
    | cons d ds ih =>
      rw [List.all_cons, Bool.and_eq_true] at c3
      refine ⟨_, _, rfl, ?_, ih c3.2⟩
      cases d <;> first
        | rfl
        | cases c3.1
  · cases c
/-- the facts that are asked -/
def faOf (Γ : Gam) : List Fa := Γ.fns.map (fun q => Fa.glo q.1) ++ (bltNs.filter (freeB Γ)).map Fa.free
def exOf (Γ : Gam) (gl : List D) (K : PySem.W.Frag) : Bool := Γ.con.all fun q => match gl[q.2]? with
  | some d => conB K q.1 d
  | none => false
/-- the program's defs, compiled -/
def fnsOf (Γ : Gam) (ds : List DS) : List Fn := ds.map fun d => ⟨d.F.ps.length, d.N.length, (cmSs Γ d.N d.m d.n (defScope d.st) (defBody d.st)).getD .nil⟩
/-- how a def binds -/
structure DFact (Γ : Gam) (d : DS) : Prop where
  sc : scopeB d.N d.F.ps (defScope d.st) = true
  dfl : d.F.dfl = []
  bd : ∀ (kV doc pm : Value) (an : Option Addr) (cdv ct : Value) (us : List Value), us.length = d.F.ps.length → bindArgs (PySem.W.fnOf d.x d.x (defArgs d.st) (defBody d.st) (defScope d.st) .none kV doc pm an cdv ct) ⟨us, []⟩ = pure (d.F.ps.zip us)
  kb : ∀ many ns ix, (d.F.id, many, ns) ∈ Γ.kws → oMap (argIx d.F many ns) d.F.ps.zipIdx = some ix → ∀ (kV doc pm : Value) (an : Option Addr) (cdv ct : Value) (us ws : List Value), us.length = many → ws.length = ns.length →
    ∃ zs, optMap (fun i => (us ++ ws)[i]?) ix = some zs ∧ bindArgs (PySem.W.fnOf d.x d.x (defArgs d.st) (defBody d.st) (defScope d.st) .none kV doc pm an cdv ct) ⟨us, ns.zip ws⟩ = pure (d.F.ps.zip zs)
/-- what a def compiles to, and that it is so -/
def CmOk (W : Wd) (Γ : Gam) (P : Prog) (mg : Str → Option Value) (base : Heap) (d : DS) : Prop :=
  ∃ c, P.fns[d.F.id]? = some ⟨d.F.ps.length, d.N.length, c⟩ ∧ ∀ (fd : FuncData) (L : Nat) (X : Cx), FunD W.K d.x d.x (defArgs d.st) (defBody d.st) (defScope d.st) [] [] (ga W.K d.x) fd → CxF W Γ d.N (calL P L) (defScope d.st) X → X.mg = mg → X.base = base → (∀ y, X.fn y = true) → (∃ (h : Addr), X.env = PyProof.Rows.envOfC d.x (defScope d.st) h (ga W.K d.x) fd.code) → PSs X (defBody d.st) (rdSs W (calL P L) c)
section
variable {W : Wd} {Γ : Gam} {P : Prog} {mg : Str → Option Value} {base h : Heap} {ds : List DS} {gl : List D}
theorem cm_plain {d : DS} {c : CSs} (hc : cmSs Γ d.N d.m d.n (defScope d.st) (defBody d.st) = some c) (hp : P.fns[d.F.id]? = some ⟨d.F.ps.length, d.N.length, c⟩) : CmOk W Γ P mg base d :=
  ⟨c, hp, fun fd L X _ cx _ _ _ _ => cmSs_ok cx hc⟩
theorem dflV_none {K : PySem.W.Frag} {dV : Value} (h : DflV K dV []) : dV = .none := by
  rcases h with ⟨_, e⟩ | ⟨e, _⟩
  · exact e
  · exact absurd rfl e
theorem glo_of (X : W.K.In h) (G : h.Ns mainGlobals mg) (c : SaysD (faOf Γ) (ds.map DS.dd) W.K) (ex : exOf Γ gl W.K = true) (hP : P.glos = gl) (hG : Γ.fns = ds.map fun d => (d.x, d.F)) (df : ∀ d ∈ ds, DFact Γ d) (cm : ∀ d ∈ ds, CmOk W Γ P mg base d) (lms : ∀ l I, W.lm l = some I → LmOk W Γ P l I) : Glo W Γ P mg base := by
  refine ⟨fun x g hx => ?_, fun x F hx => ?_, fun x hx hf => ?_, lms⟩
  · have q := List.all_eq_true.mp ex _ (mem_of_lookup hx)
    simp only at q
    split at q
    · rename_i d hd
      obtain ⟨v, u, q1, q2, q3⟩ := con_ok X G (W := W) rfl q
      exact ⟨d, v, u, by rw [hP]; exact hd, q1, q2, q3⟩
    · cases q
  · have hm := mem_of_lookup hx
    rw [hG] at hm
    obtain ⟨d, hd, e⟩ := List.mem_map.mp hm
    cases e
    have f1 := df d hd
    obtain ⟨fd, D⟩ := c.defs (d := d.dd) (List.mem_map.mpr ⟨d, hd, rfl⟩)
    have D' : FunD W.K d.x d.x (defArgs d.st) (defBody d.st) (defScope d.st) [] [] (ga W.K d.x) fd := D
    obtain ⟨cc, hp, hc⟩ := cm d hd
    obtain ⟨oc, od, dV, kV, doc, pm, an, cdv, ct, osl, hfd, lk, hcd, hdv, hkv⟩ := id D'.ex
    have e0 := dflV_none hdv
    subst e0
    refine ⟨⟨ga W.K d.x, fd, d.x, d.x, defArgs d.st, defBody d.st, defScope d.st, d.N, [], [], cc, glo_ok X G (c.facts (f := .glo d.x) ?_), D', scopeB_ok f1.sc, fun L X cx e1 e2 e3 e4 => hc fd L X D' cx e1 e2 e3 e4, hp, D'.bindsN fun kV doc pm an cdv ct us hl => f1.bd kV doc pm an cdv ct us hl, fun many ns ix h1 h2 => ?_⟩⟩
    · refine List.mem_append_left _ (List.mem_map.mpr ⟨(d.x, d.F), hG ▸ hm, rfl⟩)
    · rw [f1.dfl, hfd]
      intro s us ws _ l1 l2
      obtain ⟨zs, q1, q2⟩ := f1.kb many ns ix h1 h2 kV doc pm an cdv ct us ws l1 l2
      exact ⟨[], zs, .nil, by rw [List.append_nil]; exact q1, .of_eq q2⟩
  · exact free_ok X G (c.facts (f := .free x) (List.mem_append_right _ (List.mem_map.mpr ⟨x, List.mem_filter.mpr ⟨hx, hf⟩, rfl⟩)))
end
end PC
end
section
set_option Elab.async false
set_option linter.all false
set_option maxRecDepth 100000
set_option maxHeartbeats 0
namespace K01
open PySem PC
def txt (i : Nat) : Stmt := PySem.Challenge.pw_kinferry_k01_terms_and_numbers.main.body.getD i (.Pass ⟨0, 0, 0, 0⟩)
def gam : Gam := ⟨[("is_whole", ⟨0, ["thing"], [], false⟩),
  ("is_up_to", ⟨1, ["thing", "highest"], [], false⟩),
  ("is_name", ⟨2, ["thing"], [], false⟩),
  ("is_number", ⟨3, ["thing"], [], false⟩),
  ("is_depth", ⟨4, ["thing"], [], false⟩),
  ("worth_by", ⟨5, ["word", "one", "other"], [], false⟩),
  ("worth_at", ⟨6, ["term", "number_of"], [], true⟩),
  ("worth_in", ⟨7, ["term", "numbers"], [], false⟩),
  ("worth_of", ⟨8, ["term", "worths"], [], false⟩),
  ("_law_deck", ⟨9, ["script"], [], false⟩),
  ("_law_draw", ⟨10, ["deck", "ways"], [], false⟩),
  ("_law_pick", ⟨11, ["deck", "some"], [], false⟩),
  ("_law_unlike", ⟨12, ["deck", "count"], [], false⟩),
  ("_law_sum_of", ⟨13, ["deck", "names", "deep", "left"], [], false⟩),
  ("_law_due", ⟨14, ["own", "numbers"], [], false⟩),
  ("_law_is_name", ⟨15, ["it"], [], false⟩),
  ("_law_is_whole", ⟨16, ["it", "last"], [], false⟩),
  ("_law_right", ⟨17, ["it"], [], false⟩),
  ("_law_things", ⟨18, ["deck"], [], false⟩),
  ("law", ⟨19, ["script"], [], false⟩)],
  [], [("ROUND", 0), ("LETTERS", 1), ("LONGEST", 2), ("DEEPEST", 3), ("NUM", 4), ("SUM", 5), ("LESS", 6), ("TIMES", 7), ("OVER", 8), ("BELOW", 9), ("SAME", 10), ("WORDS", 11)], [(2, 0, ["thing"]), (3, 0, ["thing"]), (4, 0, ["thing"]), (8, 0, ["worths", "term"])]⟩
abbrev s0 : Stmt := txt 13   -- is_whole
def n0 : List Str := ["thing"]
abbrev s1 : Stmt := txt 14   -- is_up_to
def n1 : List Str := ["thing", "highest"]
abbrev s2 : Stmt := txt 15   -- is_name
def n2 : List Str := ["thing", "sign"]
abbrev s3 : Stmt := txt 16   -- is_number
def n3 : List Str := ["thing"]
abbrev s4 : Stmt := txt 17   -- is_depth
def n4 : List Str := ["thing"]
abbrev s5 : Stmt := txt 18   -- worth_by
def n5 : List Str := ["word", "one", "other"]
abbrev s6 : Stmt := txt 19   -- worth_at
def n6 : List Str := ["term", "number_of"]
abbrev s7 : Stmt := txt 20   -- worth_in
def n7 : List Str := ["term", "numbers"]
abbrev s8 : Stmt := txt 21   -- worth_of
def n8 : List Str := ["term", "worths"]
abbrev s9 : Stmt := txt 23   -- _law_deck
def n9 : List Str := ["script", "cells", "seed", "cell"]
abbrev s10 : Stmt := txt 24   -- _law_draw
def n10 : List Str := ["deck", "ways", "cell", "mixed"]
abbrev s11 : Stmt := txt 25   -- _law_pick
def n11 : List Str := ["deck", "some"]
abbrev s12 : Stmt := txt 26   -- _law_unlike
def n12 : List Str := ["deck", "count", "letters", "sort", "first", "at", "word", "k", "words", "some"]
abbrev s13 : Stmt := txt 27   -- _law_sum_of
def n13 : List Str := ["deck", "names", "deep", "left", "way", "number", "one", "other"]
abbrev s14 : Stmt := txt 28   -- _law_due
def n14 : List Str := ["own", "numbers", "one", "other", "many", "found", "k", "due"]
abbrev s15 : Stmt := txt 29   -- _law_is_name
def n15 : List Str := ["it", "sign"]
abbrev s16 : Stmt := txt 30   -- _law_is_whole
def n16 : List Str := ["it", "last"]
abbrev s17 : Stmt := txt 31   -- _law_right
def n17 : List Str := ["it", "kept", "due", "again"]
abbrev s18 : Stmt := txt 32   -- _law_things
def n18 : List Str := ["deck", "name", "word", "at", "sign", "some", "number"]
abbrev s19 : Stmt := txt 33   -- law
def n19 : List Str := ["script", "deck", "turn", "names", "great", "lots", "pairs", "x", "own", "due", "kept", "told", "it", "odd"]
abbrev F (k : Nat) : FnI := (gam.fns.getD k ("", ⟨0, [], [], false⟩)).2
def d0 : DS := ⟨"is_whole", F 0, s0, n0, 30, 20⟩
def d1 : DS := ⟨"is_up_to", F 1, s1, n1, 30, 20⟩
def d2 : DS := ⟨"is_name", F 2, s2, n2, 30, 20⟩
def d3 : DS := ⟨"is_number", F 3, s3, n3, 30, 20⟩
def d4 : DS := ⟨"is_depth", F 4, s4, n4, 30, 20⟩
def d5 : DS := ⟨"worth_by", F 5, s5, n5, 30, 20⟩
def d6 : DS := ⟨"worth_at", F 6, s6, n6, 30, 20⟩
def d7 : DS := ⟨"worth_in", F 7, s7, n7, 30, 20⟩
def d8 : DS := ⟨"worth_of", F 8, s8, n8, 30, 20⟩
def d9 : DS := ⟨"_law_deck", F 9, s9, n9, 30, 20⟩
def d10 : DS := ⟨"_law_draw", F 10, s10, n10, 30, 20⟩
def d11 : DS := ⟨"_law_pick", F 11, s11, n11, 30, 20⟩
def d12 : DS := ⟨"_law_unlike", F 12, s12, n12, 30, 20⟩
def d13 : DS := ⟨"_law_sum_of", F 13, s13, n13, 30, 20⟩
def d14 : DS := ⟨"_law_due", F 14, s14, n14, 30, 20⟩
def d15 : DS := ⟨"_law_is_name", F 15, s15, n15, 30, 20⟩
def d16 : DS := ⟨"_law_is_whole", F 16, s16, n16, 30, 20⟩
def d17 : DS := ⟨"_law_right", F 17, s17, n17, 30, 20⟩
def d18 : DS := ⟨"_law_things", F 18, s18, n18, 30, 20⟩
def d19 : DS := ⟨"law", F 19, s19, n19, 30, 20⟩
def ds : List DS := [d0, d1, d2, d3, d4, d5, d6, d7, d8, d9, d10, d11, d12, d13, d14, d15, d16, d17, d18, d19]
def glos : List D := [.int 65536, .str "abcdefghijklmnopqrstuvwxyz", .int 8, .int 3, .str "num", .str "sum", .str "less", .str "times", .str "over", .str "below", .str "same", .tup [.str "sum", .str "less", .str "times", .str "over", .str "below", .str "same"]]
theorem b0 (kV doc pm : Value) (an : Option Addr) (cdv ct : Value) (us : List Value) (h : us.length = d0.F.ps.length) : bindArgs (PySem.W.fnOf d0.x d0.x (L2.defArgs d0.st) (L2.defBody d0.st) (L2.defScope d0.st) .none kV doc pm an cdv ct) ⟨us, []⟩ = pure (d0.F.ps.zip us) := match us, h with | [_], _ => rfl
theorem b1 (kV doc pm : Value) (an : Option Addr) (cdv ct : Value) (us : List Value) (h : us.length = d1.F.ps.length) : bindArgs (PySem.W.fnOf d1.x d1.x (L2.defArgs d1.st) (L2.defBody d1.st) (L2.defScope d1.st) .none kV doc pm an cdv ct) ⟨us, []⟩ = pure (d1.F.ps.zip us) := match us, h with | [_, _], _ => rfl
theorem b2 (kV doc pm : Value) (an : Option Addr) (cdv ct : Value) (us : List Value) (h : us.length = d2.F.ps.length) : bindArgs (PySem.W.fnOf d2.x d2.x (L2.defArgs d2.st) (L2.defBody d2.st) (L2.defScope d2.st) .none kV doc pm an cdv ct) ⟨us, []⟩ = pure (d2.F.ps.zip us) := match us, h with | [_], _ => rfl
theorem b3 (kV doc pm : Value) (an : Option Addr) (cdv ct : Value) (us : List Value) (h : us.length = d3.F.ps.length) : bindArgs (PySem.W.fnOf d3.x d3.x (L2.defArgs d3.st) (L2.defBody d3.st) (L2.defScope d3.st) .none kV doc pm an cdv ct) ⟨us, []⟩ = pure (d3.F.ps.zip us) := match us, h with | [_], _ => rfl
theorem b4 (kV doc pm : Value) (an : Option Addr) (cdv ct : Value) (us : List Value) (h : us.length = d4.F.ps.length) : bindArgs (PySem.W.fnOf d4.x d4.x (L2.defArgs d4.st) (L2.defBody d4.st) (L2.defScope d4.st) .none kV doc pm an cdv ct) ⟨us, []⟩ = pure (d4.F.ps.zip us) := match us, h with | [_], _ => rfl
theorem b5 (kV doc pm : Value) (an : Option Addr) (cdv ct : Value) (us : List Value) (h : us.length = d5.F.ps.length) : bindArgs (PySem.W.fnOf d5.x d5.x (L2.defArgs d5.st) (L2.defBody d5.st) (L2.defScope d5.st) .none kV doc pm an cdv ct) ⟨us, []⟩ = pure (d5.F.ps.zip us) := match us, h with | [_, _, _], _ => rfl
theorem b6 (kV doc pm : Value) (an : Option Addr) (cdv ct : Value) (us : List Value) (h : us.length = d6.F.ps.length) : bindArgs (PySem.W.fnOf d6.x d6.x (L2.defArgs d6.st) (L2.defBody d6.st) (L2.defScope d6.st) .none kV doc pm an cdv ct) ⟨us, []⟩ = pure (d6.F.ps.zip us) := match us, h with | [_, _], _ => rfl
theorem b7 (kV doc pm : Value) (an : Option Addr) (cdv ct : Value) (us : List Value) (h : us.length = d7.F.ps.length) : bindArgs (PySem.W.fnOf d7.x d7.x (L2.defArgs d7.st) (L2.defBody d7.st) (L2.defScope d7.st) .none kV doc pm an cdv ct) ⟨us, []⟩ = pure (d7.F.ps.zip us) := match us, h with | [_, _], _ => rfl
theorem b8 (kV doc pm : Value) (an : Option Addr) (cdv ct : Value) (us : List Value) (h : us.length = d8.F.ps.length) : bindArgs (PySem.W.fnOf d8.x d8.x (L2.defArgs d8.st) (L2.defBody d8.st) (L2.defScope d8.st) .none kV doc pm an cdv ct) ⟨us, []⟩ = pure (d8.F.ps.zip us) := match us, h with | [_, _], _ => rfl
theorem b9 (kV doc pm : Value) (an : Option Addr) (cdv ct : Value) (us : List Value) (h : us.length = d9.F.ps.length) : bindArgs (PySem.W.fnOf d9.x d9.x (L2.defArgs d9.st) (L2.defBody d9.st) (L2.defScope d9.st) .none kV doc pm an cdv ct) ⟨us, []⟩ = pure (d9.F.ps.zip us) := match us, h with | [_], _ => rfl
theorem b10 (kV doc pm : Value) (an : Option Addr) (cdv ct : Value) (us : List Value) (h : us.length = d10.F.ps.length) : bindArgs (PySem.W.fnOf d10.x d10.x (L2.defArgs d10.st) (L2.defBody d10.st) (L2.defScope d10.st) .none kV doc pm an cdv ct) ⟨us, []⟩ = pure (d10.F.ps.zip us) := match us, h with | [_, _], _ => rfl
theorem b11 (kV doc pm : Value) (an : Option Addr) (cdv ct : Value) (us : List Value) (h : us.length = d11.F.ps.length) : bindArgs (PySem.W.fnOf d11.x d11.x (L2.defArgs d11.st) (L2.defBody d11.st) (L2.defScope d11.st) .none kV doc pm an cdv ct) ⟨us, []⟩ = pure (d11.F.ps.zip us) := match us, h with | [_, _], _ => rfl
theorem b12 (kV doc pm : Value) (an : Option Addr) (cdv ct : Value) (us : List Value) (h : us.length = d12.F.ps.length) : bindArgs (PySem.W.fnOf d12.x d12.x (L2.defArgs d12.st) (L2.defBody d12.st) (L2.defScope d12.st) .none kV doc pm an cdv ct) ⟨us, []⟩ = pure (d12.F.ps.zip us) := match us, h with | [_, _], _ => rfl
theorem b13 (kV doc pm : Value) (an : Option Addr) (cdv ct : Value) (us : List Value) (h : us.length = d13.F.ps.length) : bindArgs (PySem.W.fnOf d13.x d13.x (L2.defArgs d13.st) (L2.defBody d13.st) (L2.defScope d13.st) .none kV doc pm an cdv ct) ⟨us, []⟩ = pure (d13.F.ps.zip us) := match us, h with | [_, _, _, _], _ => rfl
theorem b14 (kV doc pm : Value) (an : Option Addr) (cdv ct : Value) (us : List Value) (h : us.length = d14.F.ps.length) : bindArgs (PySem.W.fnOf d14.x d14.x (L2.defArgs d14.st) (L2.defBody d14.st) (L2.defScope d14.st) .none kV doc pm an cdv ct) ⟨us, []⟩ = pure (d14.F.ps.zip us) := match us, h with | [_, _], _ => rfl
theorem b15 (kV doc pm : Value) (an : Option Addr) (cdv ct : Value) (us : List Value) (h : us.length = d15.F.ps.length) : bindArgs (PySem.W.fnOf d15.x d15.x (L2.defArgs d15.st) (L2.defBody d15.st) (L2.defScope d15.st) .none kV doc pm an cdv ct) ⟨us, []⟩ = pure (d15.F.ps.zip us) := match us, h with | [_], _ => rfl
theorem b16 (kV doc pm : Value) (an : Option Addr) (cdv ct : Value) (us : List Value) (h : us.length = d16.F.ps.length) : bindArgs (PySem.W.fnOf d16.x d16.x (L2.defArgs d16.st) (L2.defBody d16.st) (L2.defScope d16.st) .none kV doc pm an cdv ct) ⟨us, []⟩ = pure (d16.F.ps.zip us) := match us, h with | [_, _], _ => rfl
theorem b17 (kV doc pm : Value) (an : Option Addr) (cdv ct : Value) (us : List Value) (h : us.length = d17.F.ps.length) : bindArgs (PySem.W.fnOf d17.x d17.x (L2.defArgs d17.st) (L2.defBody d17.st) (L2.defScope d17.st) .none kV doc pm an cdv ct) ⟨us, []⟩ = pure (d17.F.ps.zip us) := match us, h with | [_], _ => rfl
theorem b18 (kV doc pm : Value) (an : Option Addr) (cdv ct : Value) (us : List Value) (h : us.length = d18.F.ps.length) : bindArgs (PySem.W.fnOf d18.x d18.x (L2.defArgs d18.st) (L2.defBody d18.st) (L2.defScope d18.st) .none kV doc pm an cdv ct) ⟨us, []⟩ = pure (d18.F.ps.zip us) := match us, h with | [_], _ => rfl
theorem b19 (kV doc pm : Value) (an : Option Addr) (cdv ct : Value) (us : List Value) (h : us.length = d19.F.ps.length) : bindArgs (PySem.W.fnOf d19.x d19.x (L2.defArgs d19.st) (L2.defBody d19.st) (L2.defScope d19.st) .none kV doc pm an cdv ct) ⟨us, []⟩ = pure (d19.F.ps.zip us) := match us, h with | [_], _ => rfl
end K01
end
section
set_option Elab.async false
set_option linter.all false
set_option maxRecDepth 100000
set_option maxHeartbeats 0
namespace K01
open PySem PC
def c0 : CSs := (.cons (.ret (.andE (.isi (.var 0) [.int]) (.notE (.isi (.var 0) [.bool]))))
  .nil)
def c1 : CSs := (.cons (.ret (.andE (.call 0 (.cons (.var 0) .nil) []) (.chain .LtE .LtE (.int (0)) (.var 0) (.var 1))))
  .nil)
def c2 : CSs := (.cons (.ifS (.orE (.notE (.isi (.var 0) [.str])) (.orE (.notE (.chain .LtE .LtE (.int (1)) (.bi .len (.cons (.var 0) .nil)) (.glo 2))) (.cmp .In (.var 0) (.glo 11)))) (.cons (.ret (.bl false))
  .nil) .nil)
  (.cons (.ret (.bi .all (.cons (.lc (.cmp .In (.var 1) (.glo 1)) (.name 1) .val (.cons (.var 0) .nil) .nil [1]) .nil)))
  .nil))
def c3 : CSs := (.cons (.ret (.call 1 (.cons (.var 0) (.cons (.bin .Sub (.glo 0) (.int (1))) .nil)) []))
  .nil)
def c4 : CSs := (.cons (.ret (.call 1 (.cons (.var 0) (.cons (.glo 3) .nil)) []))
  .nil)
def c5 : CSs := (.cons (.ifS (.cmp .Eq (.var 0) (.glo 5)) (.cons (.ret (.bin .Mod (.bin .Add (.var 1) (.var 2)) (.glo 0)))
  .nil) .nil)
  (.cons (.ifS (.cmp .Eq (.var 0) (.glo 6)) (.cons (.ret (.bin .Mod (.bin .Sub (.var 1) (.var 2)) (.glo 0)))
  .nil) .nil)
  (.cons (.ifS (.cmp .Eq (.var 0) (.glo 7)) (.cons (.ret (.bin .Mod (.bin .Mult (.var 1) (.var 2)) (.glo 0)))
  .nil) .nil)
  (.cons (.ifS (.cmp .Eq (.var 0) (.glo 8)) (.cons (.ret (.ifE (.cmp .NotEq (.var 2) (.int (0))) (.bin .FloorDiv (.var 1) (.var 2)) (.int (0))))
  .nil) .nil)
  (.cons (.ret (.bi .int (.cons (.ifE (.cmp .Eq (.var 0) (.glo 9)) (.cmp .Lt (.var 1) (.var 2)) (.cmp .Eq (.var 1) (.var 2))) .nil)))
  .nil)))))
def c6 : CSs := (.cons (.ifS (.cmp .Eq (.idx (.var 0) (.int (0))) (.glo 4)) (.cons (.ret (.idx (.var 0) (.int (1))))
  .nil) .nil)
  (.cons (.ifS (.cmp .In (.idx (.var 0) (.int (0))) (.glo 11)) (.cons (.ret (.call 5 (.cons (.idx (.var 0) (.int (0))) (.cons (.callV 6 (.cons (.idx (.var 0) (.int (1))) .nil) 1) (.cons (.callV 6 (.cons (.idx (.var 0) (.int (2))) .nil) 1) .nil))) []))
  .nil) .nil)
  (.cons (.ret (.app 1 (.cons (.var 0) .nil)))
  .nil)))
def c7 : CSs := .cons (.ret (.callL 6 (.cons (.var 0) .nil) 0 [1])) .nil
def c8 : CSs := (.cons (.ret (.call 7 (.cons (.var 0) (.cons (.bi .dict (.cons (.col .val (.cons (.var 1) .nil)) .nil)) .nil)) []))
  .nil)
def c9 : CSs := (.cons (.set (.tup [1, 2]) (.tupE (.cons (.col .val (.cons (.slc (.var 0) .no (.so (.int (63)))) .nil)) (.cons (.int (8191)) .nil))))
  (.cons (.for_ (.name 3) .val (.cons (.var 1) .nil) (.cons (.set (.name 2) (.bin .Mod (.bin .Add (.bin .Add (.bin .Mult (.var 2) (.int (16807))) (.bin .Mod (.var 3) (.int (2147483563)))) (.int (3))) (.int (2147483647))))
  .nil))
  (.cons (.ret (.lstE (.cons (.rev (.var 1)) (.cons (.var 2) (.cons (.int (0)) .nil)))))
  .nil)))
def c10 : CSs := (.cons (.setI (.var 0) (.int (2)) (.bin .Add (.idx (.var 0) (.int (2))) (.int (1))))
  (.cons (.set (.name 2) (.idx (.var 0) (.int (1))))
  (.cons (.ifS (.cmp .NotEq (.idx (.var 0) (.int (0))) (.lstE .nil)) (.cons (.set (.name 2) (.meth (.idx (.var 0) (.int (0))) "pop" .nil))
  (.cons (.ifS (.cmp .GtE (.var 2) (.bin .Pow (.int (10)) (.int (18)))) (.cons (.exp (.meth (.idx (.var 0) (.int (0))) "append" (.cons (.bin .FloorDiv (.var 2) (.var 1)) .nil)))
  (.cons (.ret (.bin .Mod (.var 2) (.var 1)))
  .nil)) .nil)
  (.cons (.set (.name 2) (.bin .Add (.var 2) (.idx (.var 0) (.int (1)))))
  .nil))) .nil)
  (.cons (.set (.name 3) (.bin .Mod (.bin .Mult (.bin .Add (.bin .Add (.bin .Mod (.var 2) (.int (2147483629))) (.bin .Mult (.int (40961)) (.idx (.var 0) (.int (2))))) (.int (7))) (.int (69621))) (.int (2147483587))))
  (.cons (.set (.name 3) (.bin .Mod (.bin .Add (.bin .Add (.bin .Mult (.var 3) (.var 3)) (.bin .Mult (.int (48271)) (.idx (.var 0) (.int (2))))) (.int (11))) (.int (2147483647))))
  (.cons (.ret (.bin .Mod (.bin .FloorDiv (.bin .Mod (.bin .Add (.bin .Mult (.var 3) (.var 3)) (.bin .Mult (.int (16807)) (.var 3))) (.int (2147483549))) (.int (32))) (.var 1)))
  .nil))))))
def c11 : CSs := (.cons (.ret (.idx (.var 1) (.call 10 (.cons (.var 0) (.cons (.bi .len (.cons (.var 1) .nil)) .nil)) [])))
  .nil)
def c12 : CSs := (.cons (.set (.name 2) (.str "abcdefghijklmnopqrstuvwxyz"))
  (.cons (.set (.tup [3, 4, 5]) (.tupE (.cons (.call 10 (.cons (.var 0) (.cons (.int (4)) .nil)) []) (.cons (.call 10 (.cons (.var 0) (.cons (.int (26)) .nil)) []) (.cons (.call 10 (.cons (.var 0) (.cons (.int (8)) .nil)) []) .nil)))))
  (.cons (.set (.name 6) (.meth (.str "") "join" (.cons (.lc (.idx (.var 2) (.call 10 (.cons (.var 0) (.cons (.int (26)) .nil)) [])) (.name 7) .range (.cons (.int (8)) .nil) .nil [7]) .nil)))
  (.cons (.set (.name 8) (.lstE (.cons (.str "sums") (.cons (.str "les") (.cons (.str "time") (.cons (.str "overs") (.cons (.str "belo") (.cons (.str "num") (.cons (.str "name") (.cons (.str "let") (.cons (.str "set") (.cons (.str "go") (.cons (.str "if") (.cons (.str "to") (.cons (.str "names") (.cons (.str "catch") .nil))))))))))))))))
  (.cons (.set (.name 9) (.lstE (.cons (.bin .Add (.slc (.var 2) (.so (.var 4)) .no) (.slc (.var 2) .no (.so (.var 4)))) (.cons (.lc (.bin .Add (.slc (.var 6) .no (.so (.bin .Add (.int (1)) (.var 7)))) (.str "x")) (.name 7) .range (.cons (.int (7)) .nil) .nil [7]) .nil))))
  (.cons (.exp (.meth (.var 9) "append" (.cons (.lc (.bin .Add (.bin .Add (.slc (.var 6) .no (.so (.var 5))) (.idx (.var 2) (.bin .Mod (.bin .Add (.var 4) (.bin .Mult (.int (7)) (.var 7))) (.int (26))))) (.slc (.var 6) (.so (.bin .Add (.var 5) (.int (1)))) .no)) (.name 7) .range (.cons (.int (26)) .nil) .nil [7]) .nil)))
  (.cons (.exp (.meth (.var 9) "append" (.cons (.bin .Add (.slc (.var 8) (.so (.bin .Mod (.var 4) (.int (14)))) .no) (.slc (.var 8) .no (.so (.bin .Mod (.var 4) (.int (14)))))) .nil)))
  (.cons (.ret (.slc (.col .val (.cons (.idx (.var 9) (.var 3)) .nil)) .no (.so (.var 1))))
  .nil))))))))
def c13 : CSs := (.cons (.set (.name 4) (.call 10 (.cons (.var 0) (.cons (.int (8)) .nil)) []))
  (.cons (.setI (.var 3) (.int (0)) (.bin .Sub (.idx (.var 3) (.int (0))) (.int (1))))
  (.cons (.ifS (.orE (.cmp .Lt (.var 2) (.int (2))) (.orE (.cmp .Lt (.idx (.var 3) (.int (0))) (.int (2))) (.cmp .Lt (.var 4) (.int (2))))) (.cons (.set (.name 5) (.call 11 (.cons (.var 0) (.cons (.lstE (.cons (.int (0)) (.cons (.int (1)) (.cons (.int (2)) (.cons (.int (7)) (.cons (.int (255)) (.cons (.int (256)) (.cons (.int (257)) (.cons (.int (32767)) (.cons (.int (32768)) (.cons (.int (65534)) (.cons (.int (65535)) .nil)))))))))))) .nil)) []))
  (.cons (.ret (.ifE (.cmp .Eq (.call 10 (.cons (.var 0) (.cons (.int (3)) .nil)) []) (.int (0))) (.tupE (.cons (.str "num") (.cons (.var 5) .nil))) (.tupE (.cons (.str "name") (.cons (.call 11 (.cons (.var 0) (.cons (.var 1) .nil)) []) .nil)))))
  .nil)) .nil)
  (.cons (.setI (.var 3) (.int (0)) (.bin .Sub (.idx (.var 3) (.int (0))) (.int (2))))
  (.cons (.set (.name 6) (.call 13 (.cons (.var 0) (.cons (.var 1) (.cons (.bin .Sub (.var 2) (.int (1))) (.cons (.var 3) .nil)))) []))
  (.cons (.setI (.var 3) (.int (0)) (.bin .Add (.idx (.var 3) (.int (0))) (.int (1))))
  (.cons (.set (.name 7) (.call 13 (.cons (.var 0) (.cons (.var 1) (.cons (.bin .Sub (.var 2) (.int (1))) (.cons (.var 3) .nil)))) []))
  (.cons (.ret (.tupE (.cons (.idx (.lstE (.cons (.str "sum") (.cons (.str "less") (.cons (.str "times") (.cons (.str "over") (.cons (.str "below") (.cons (.str "same") .nil))))))) (.bin .Sub (.var 4) (.int (2)))) (.cons (.var 6) (.cons (.var 7) .nil)))))
  .nil))))))))
def c14 : CSs := (.cons (.ifS (.cmp .In (.idx (.var 0) (.int (0))) (.tupE (.cons (.str "num") (.cons (.str "name") .nil)))) (.cons (.ret (.ifE (.cmp .Eq (.idx (.var 0) (.int (0))) (.str "num")) (.idx (.var 0) (.int (1))) (.idx (.var 1) (.idx (.var 0) (.int (1))))))
  .nil) .nil)
  (.cons (.set (.tup [2, 3]) (.tupE (.cons (.call 14 (.cons (.idx (.var 0) (.int (1))) (.cons (.var 1) .nil)) []) (.cons (.call 14 (.cons (.idx (.var 0) (.int (2))) (.cons (.var 1) .nil)) []) .nil))))
  (.cons (.set (.name 4) (.int (0)))
  (.cons (.ifS (.andE (.cmp .Eq (.idx (.var 0) (.int (0))) (.str "over")) (.cmp .Gt (.var 3) (.int (0)))) (.cons (.whl (.cmp .LtE (.bin .Mult (.var 3) (.bin .LShift (.int (1)) (.var 4))) (.var 2)) (.cons (.set (.name 4) (.bin .Add (.var 4) (.int (1))))
  .nil))
  (.cons (.set (.name 5) (.int (0)))
  (.cons (.for_ (.name 6) .val (.cons (.rev (.col .range (.cons (.var 4) .nil))) .nil) (.cons (.ifS (.cmp .LtE (.bin .Mult (.var 3) (.bin .Add (.var 5) (.bin .LShift (.int (1)) (.var 6)))) (.var 2)) (.cons (.set (.name 5) (.bin .Add (.var 5) (.bin .LShift (.int (1)) (.var 6))))
  .nil) .nil)
  .nil))
  (.cons (.ret (.var 5))
  .nil)))) .nil)
  (.cons (.ifS (.cmp .In (.idx (.var 0) (.int (0))) (.tupE (.cons (.str "below") (.cons (.str "same") .nil)))) (.cons (.ret (.ifE (.cmp .Eq (.idx (.var 0) (.int (0))) (.str "below")) (.bi .int (.cons (.cmp .Lt (.var 2) (.var 3)) .nil)) (.bi .int (.cons (.andE (.notE (.cmp .Lt (.var 2) (.var 3))) (.notE (.cmp .Lt (.var 3) (.var 2)))) .nil))))
  .nil) .nil)
  (.cons (.set (.name 7) (.idx (.dicE (.cons (.str "sum") (.cons (.str "less") (.cons (.str "times") (.cons (.str "over") .nil)))) (.cons (.bin .Add (.var 2) (.var 3)) (.cons (.bin .Sub (.bin .Add (.var 2) (.int (65536))) (.var 3)) (.cons (.bin .Mult (.var 2) (.var 3)) (.cons (.int (0)) .nil))))) (.idx (.var 0) (.int (0)))))
  (.cons (.ret (.bin .Sub (.var 7) (.bin .Mult (.int (65536)) (.bin .FloorDiv (.var 7) (.int (65536))))))
  .nil)))))))
def c15 : CSs := (.cons (.ifS (.orE (.notE (.isi (.var 0) [.str])) (.orE (.cmp .Lt (.bi .len (.cons (.var 0) .nil)) (.int (1))) (.cmp .Gt (.bi .len (.cons (.var 0) .nil)) (.int (8))))) (.cons (.ret (.bl false))
  .nil) .nil)
  (.cons (.ifS (.cmp .In (.var 0) (.lstE (.cons (.str "sum") (.cons (.str "less") (.cons (.str "times") (.cons (.str "over") (.cons (.str "below") (.cons (.str "same") .nil)))))))) (.cons (.ret (.bl false))
  .nil) .nil)
  (.cons (.ret (.cmp .Eq (.lc (.var 1) (.name 1) .val (.cons (.var 0) .nil) (.cons (.notE (.chain .LtE .LtE (.str "a") (.var 1) (.str "z"))) .nil) [1]) (.lstE .nil)))
  .nil)))
def c16 : CSs := (.cons (.ret (.andE (.isi (.var 0) [.int]) (.andE (.notE (.isi (.var 0) [.bool])) (.andE (.cmp .LtE (.int (0)) (.var 0)) (.cmp .LtE (.var 0) (.var 1))))))
  .nil)
def c17 : CSs := (.cons (.set (.tup [1, 2]) (.tupE (.cons (.bi .repr (.cons (.var 0) .nil)) (.cons (.bi .repr (.cons (.lstE (.cons (.call 15 (.cons (.var 0) .nil) []) (.cons (.call 16 (.cons (.var 0) (.cons (.int (65535)) .nil)) []) (.cons (.call 16 (.cons (.var 0) (.cons (.int (3)) .nil)) []) .nil)))) .nil)) .nil))))
  (.cons (.for_ (.name 3) .range (.cons (.int (2)) .nil) (.cons (.ifS (.cmp .NotEq (.bi .repr (.cons (.lstE (.cons (.call 2 (.cons (.var 0) .nil) []) (.cons (.call 3 (.cons (.var 0) .nil) []) (.cons (.call 4 (.cons (.var 0) .nil) []) .nil)))) .nil)) (.var 2)) (.cons (.ret (.bl false))
  .nil) .nil)
  .nil))
  (.cons (.ret (.andE (.cmp .Eq (.bi .repr (.cons (.lstE (.cons (.call 2 (.cons (.var 0) .nil) [0]) (.cons (.call 3 (.cons (.var 0) .nil) [0]) (.cons (.call 4 (.cons (.var 0) .nil) [0]) .nil)))) .nil)) (.var 2)) (.cmp .Eq (.bi .repr (.cons (.var 0) .nil)) (.var 1))))
  .nil)))
def c18 : CSs := (.cons (.set (.name 1) (.call 11 (.cons (.var 0) (.cons (.call 12 (.cons (.var 0) (.cons (.int (8)) .nil)) []) .nil)) []))
  (.cons (.set (.name 2) (.call 11 (.cons (.var 0) (.cons (.lstE (.cons (.str "sum") (.cons (.str "less") (.cons (.str "times") (.cons (.str "over") (.cons (.str "below") (.cons (.str "same") .nil))))))) .nil)) []))
  (.cons (.set (.tup [3, 4]) (.tupE (.cons (.call 10 (.cons (.var 0) (.cons (.bin .Add (.bi .len (.cons (.var 1) .nil)) (.int (1))) .nil)) []) (.cons (.call 11 (.cons (.var 0) (.cons (.col .val (.cons (.str "az0 _.-\n{`AZ") .nil)) .nil)) []) .nil))))
  (.cons (.set (.name 5) (.lstE (.cons (.var 1) (.cons (.bin .Add (.var 1) (.str "a")) (.cons (.slc (.var 1) .no (.so (.neg (.int (1))))) (.cons (.meth (.var 1) "upper" .nil) (.cons (.bin .Add (.bin .Add (.slc (.var 1) .no (.so (.var 3))) (.var 4)) (.slc (.var 1) (.so (.var 3)) .no)) (.cons (.tupE (.cons (.var 1) .nil)) (.cons (.lstE (.cons (.var 1) .nil)) (.cons (.bin .Mult (.var 1) (.int (2))) .nil))))))))))
  (.cons (.set (.name 5) (.bin .Add (.var 5) (.lstE (.cons (.var 2) (.cons (.bin .Add (.var 2) (.str "a")) (.cons (.slc (.var 2) .no (.so (.neg (.int (1))))) (.cons (.bin .Add (.str "a") (.var 2)) (.cons (.meth (.var 2) "upper" .nil) (.cons (.bin .Mult (.var 2) (.int (2))) (.cons (.tupE (.cons (.var 2) .nil)) .nil))))))))))
  (.cons (.set (.name 6) (.call 11 (.cons (.var 0) (.cons (.lstE (.cons (.int (0)) (.cons (.int (3)) (.cons (.int (4)) (.cons (.int (65535)) (.cons (.int (65536)) (.cons (.int (1)) (.cons (.int (2)) (.cons (.int (255)) (.cons (.bin .Pow (.int (10)) (.int (39))) (.cons (.int (32768)) .nil))))))))))) .nil)) []))
  (.cons (.ret (.bin .Add (.var 5) (.lstE (.cons (.var 6) (.cons (.bin .Add (.var 6) (.int (1))) (.cons (.bin .Sub (.var 6) (.int (1))) (.cons (.bin .Sub (.int (0)) (.var 6)) (.cons (.bi .str (.cons (.var 6) .nil)) (.cons (.cmp .Gt (.var 6) (.int (0))) (.cons (.tupE (.cons (.var 6) .nil)) .nil))))))))))
  .nil)))))))
def c19 : CSs := (.cons (.set (.name 1) (.call 9 (.cons (.var 0) .nil) []))
  (.cons (.for_ (.name 2) .range (.cons (.int (12)) .nil) (.cons (.set (.name 3) (.call 12 (.cons (.var 1) (.cons (.bin .Add (.int (1)) (.call 10 (.cons (.var 1) (.cons (.int (6)) .nil)) [])) .nil)) []))
  (.cons (.set (.name 4) (.cmp .Eq (.call 10 (.cons (.var 1) (.cons (.int (2)) .nil)) []) (.int (1))))
  (.cons (.set (.name 5) (.ifE (.var 4) (.lstE (.cons (.int (65535)) (.cons (.int (65534)) (.cons (.int (32768)) (.cons (.int (65280)) (.cons (.int (256)) (.cons (.int (1)) .nil))))))) (.lstE (.cons (.int (0)) (.cons (.int (1)) (.cons (.int (2)) (.cons (.int (3)) (.cons (.int (5)) (.cons (.int (10)) .nil)))))))))
  (.cons (.set (.name 6) (.lc (.tupE (.cons (.var 7) (.cons (.ifE (.cmp .Eq (.call 10 (.cons (.var 1) (.cons (.int (2)) .nil)) []) (.int (1))) (.call 11 (.cons (.var 1) (.cons (.var 5) .nil)) []) (.call 10 (.cons (.var 1) (.cons (.int (65536)) .nil)) [])) .nil))) (.name 7) .val (.cons (.var 3) .nil) .nil [7]))
  (.cons (.set (.name 8) (.call 13 (.cons (.var 1) (.cons (.var 3) (.cons (.int (6)) (.cons (.lstE (.cons (.int (12)) .nil)) .nil)))) []))
  (.cons (.set (.tup [9, 10]) (.tupE (.cons (.call 14 (.cons (.var 8) (.cons (.bi .dict (.cons (.var 6) .nil)) .nil)) []) (.cons (.bi .repr (.cons (.var 8) .nil)) .nil))))
  (.cons (.set (.name 11) (.lstE (.cons (.call 8 (.cons (.var 8) (.cons (.bi .tuple (.cons (.var 6) .nil)) .nil)) []) (.cons (.call 8 (.cons (.bi .tuple (.cons (.rev (.var 6)) .nil)) (.cons (.var 8) .nil)) [1, 0]) .nil))))
  (.cons (.ifS (.orE (.cmp .NotEq (.bi .repr (.cons (.var 11) .nil)) (.bi .repr (.cons (.lstE (.cons (.var 9) (.cons (.var 9) .nil))) .nil))) (.orE (.cmp .NotEq (.bi .repr (.cons (.var 8) .nil)) (.var 10)) (.notE (.call 3 (.cons (.var 9) .nil) [])))) (.cons (.ret (.bl false))
  .nil) .nil)
  (.cons (.ifS (.cmp .NotEq (.lc (.var 12) (.name 12) .val (.cons (.call 18 (.cons (.var 1) .nil) []) .nil) (.cons (.notE (.call 17 (.cons (.var 12) .nil) [])) .nil) [12]) (.lstE .nil)) (.cons (.ret (.bl false))
  .nil) .nil)
  .nil))))))))))
  (.cons (.set (.name 13) (.lstE (.cons .non (.cons (.bl true) (.cons (.bl false) (.cons (.str "") (.cons (.str " ") (.cons (.tupE .nil) (.cons (.lstE .nil) (.cons (.dicE .nil .nil) (.cons (.tupE (.cons (.str "a") .nil)) (.cons (.str "abcdefgh") (.cons (.str "abcdefghi") (.cons (.neg (.int (1))) (.cons (.bin .Pow (.int (10)) (.int (39))) (.cons (.str "sumsum") (.cons (.str "sam") .nil)))))))))))))))))
  (.cons (.ret (.cmp .Eq (.lc (.var 12) (.name 12) .val (.cons (.var 13) .nil) (.cons (.notE (.call 17 (.cons (.var 12) .nil) [])) .nil) [12]) (.lstE .nil)))
  .nil))))

def cb : CE := .idx (.var 1) (.idx (.var 0) (.int 1))
def fnl : List Fn := [⟨d0.F.ps.length, n0.length, c0⟩, ⟨d1.F.ps.length, n1.length, c1⟩, ⟨d2.F.ps.length, n2.length, c2⟩, ⟨d3.F.ps.length, n3.length, c3⟩, ⟨d4.F.ps.length, n4.length, c4⟩, ⟨d5.F.ps.length, n5.length, c5⟩, ⟨d6.F.ps.length, n6.length, c6⟩, ⟨d7.F.ps.length, n7.length, c7⟩, ⟨d8.F.ps.length, n8.length, c8⟩, ⟨d9.F.ps.length, n9.length, c9⟩, ⟨d10.F.ps.length, n10.length, c10⟩, ⟨d11.F.ps.length, n11.length, c11⟩, ⟨d12.F.ps.length, n12.length, c12⟩, ⟨d13.F.ps.length, n13.length, c13⟩, ⟨d14.F.ps.length, n14.length, c14⟩, ⟨d15.F.ps.length, n15.length, c15⟩, ⟨d16.F.ps.length, n16.length, c16⟩, ⟨d17.F.ps.length, n17.length, c17⟩, ⟨d18.F.ps.length, n18.length, c18⟩, ⟨d19.F.ps.length, n19.length, c19⟩]
def prog : Prog := ⟨fnl, [⟨1, 2, cb⟩], [], glos⟩
theorem cm0 : cmSs gam d0.N d0.m d0.n (L2.defScope d0.st) (L2.defBody d0.st) = some c0 := by kernel_rfl
theorem cm1 : cmSs gam d1.N d1.m d1.n (L2.defScope d1.st) (L2.defBody d1.st) = some c1 := by kernel_rfl
theorem cm2 : cmSs gam d2.N d2.m d2.n (L2.defScope d2.st) (L2.defBody d2.st) = some c2 := by kernel_rfl
theorem cm3 : cmSs gam d3.N d3.m d3.n (L2.defScope d3.st) (L2.defBody d3.st) = some c3 := by kernel_rfl
theorem cm4 : cmSs gam d4.N d4.m d4.n (L2.defScope d4.st) (L2.defBody d4.st) = some c4 := by kernel_rfl
theorem cm5 : cmSs gam d5.N d5.m d5.n (L2.defScope d5.st) (L2.defBody d5.st) = some c5 := by kernel_rfl
theorem cm6 : cmSs gam d6.N d6.m d6.n (L2.defScope d6.st) (L2.defBody d6.st) = some c6 := by kernel_rfl
theorem cm8 : cmSs gam d8.N d8.m d8.n (L2.defScope d8.st) (L2.defBody d8.st) = some c8 := by kernel_rfl
theorem cm9 : cmSs gam d9.N d9.m d9.n (L2.defScope d9.st) (L2.defBody d9.st) = some c9 := by kernel_rfl
theorem cm10 : cmSs gam d10.N d10.m d10.n (L2.defScope d10.st) (L2.defBody d10.st) = some c10 := by kernel_rfl
theorem cm11 : cmSs gam d11.N d11.m d11.n (L2.defScope d11.st) (L2.defBody d11.st) = some c11 := by kernel_rfl
theorem cm12 : cmSs gam d12.N d12.m d12.n (L2.defScope d12.st) (L2.defBody d12.st) = some c12 := by kernel_rfl
theorem cm13 : cmSs gam d13.N d13.m d13.n (L2.defScope d13.st) (L2.defBody d13.st) = some c13 := by kernel_rfl
theorem cm14 : cmSs gam d14.N d14.m d14.n (L2.defScope d14.st) (L2.defBody d14.st) = some c14 := by kernel_rfl
theorem cm15 : cmSs gam d15.N d15.m d15.n (L2.defScope d15.st) (L2.defBody d15.st) = some c15 := by kernel_rfl
theorem cm16 : cmSs gam d16.N d16.m d16.n (L2.defScope d16.st) (L2.defBody d16.st) = some c16 := by kernel_rfl
theorem cm17 : cmSs gam d17.N d17.m d17.n (L2.defScope d17.st) (L2.defBody d17.st) = some c17 := by kernel_rfl
theorem cm18 : cmSs gam d18.N d18.m d18.n (L2.defScope d18.st) (L2.defBody d18.st) = some c18 := by kernel_rfl
theorem cm19 : cmSs gam d19.N d19.m d19.n (L2.defScope d19.st) (L2.defBody d19.st) = some c19 := by kernel_rfl
end K01
end
section
set_option Elab.async false
set_option linter.all false
set_option maxRecDepth 100000
set_option maxHeartbeats 0
namespace K01
open PySem PC
/-! ### the lambda of worth_in -/
def lamE : Expr := match L2.defBody s7 with
  | [.Return (some (.Call _ [_, e] _ _)) _] => e
  | _ => .Name "" ⟨0, 0, 0, 0⟩
def Im : LmI := match lamE with
  | .Lambda a b sc _ => ⟨a, b, sc, "worth_in.<locals>.<lambda>", ["leaf"], ["numbers"], ["leaf", "numbers"]⟩
  | _ => ⟨L2.defArgs s7, .Name "" ⟨0, 0, 0, 0⟩, L2.defScope s7, "", [], [], []⟩
theorem body7 : ∃ p1 p2 lp p3 p4, L2.defBody s7 = [.Return (some (.Call (.Name "worth_at" p1) ([.Name "term" p2] ++ [.Lambda Im.params Im.body Im.scope lp]) [] p3)) p4] := ⟨_, _, _, _, _, rfl⟩
theorem lm_nsc : NdefX.NScope Im.N Im.ps Im.fr Im.scope := NdefX.nscope_by (by kernel_rfl)
theorem lm_cm : cmE gam Im.N 30 Im.scope Im.body = some cb := by kernel_rfl
theorem lm_bd (cl : List (Str × Addr)) (pm cd ct : Value) (us : List Value) (h : us.length = Im.ps.length) : bindArgs (PySem.W.kla_fn "<lambda>" Im.qual Im.params Im.body Im.scope cl pm cd ct) ⟨us, []⟩ = pure (Im.ps.zip us) := match us, h with | [_], _ => rfl
def WW (K : PySem.W.Frag) : Wd := ⟨K, fun _ => 0, fun _ => 0, [((He.cT K ("worth_in", none)).2, "worth_in.<locals>.<lambda>")], fun l => if l = 0 then some Im else none⟩
theorem lms_ok (K : PySem.W.Frag) : ∀ l I, (WW K).lm l = some I → LmOk (WW K) gam prog l I := by
  intro l I h
  have h' : (if l = 0 then some Im else none) = some I := h
  split at h'
  · rename_i e
    subst e
    cases h'
    exact ⟨lm_nsc, lm_bd, 30, cb, lm_cm, rfl⟩
  · cases h'
/-! ### the defs -/
theorem kb_no {d : DS} (h : ∀ many ns, (d.F.id, many, ns) ∉ gam.kws) : ∀ many ns ix, (d.F.id, many, ns) ∈ gam.kws → oMap (argIx d.F many ns) d.F.ps.zipIdx = some ix → ∀ (kV doc pm : Value) (an : Option Addr) (cdv ct : Value) (us ws : List Value), us.length = many → ws.length = ns.length →
    ∃ zs, optMap (fun i => (us ++ ws)[i]?) ix = some zs ∧ bindArgs (PySem.W.fnOf d.x d.x (L2.defArgs d.st) (L2.defBody d.st) (L2.defScope d.st) .none kV doc pm an cdv ct) ⟨us, ns.zip ws⟩ = pure (d.F.ps.zip zs) := fun many ns _ h' => absurd h' (h many ns)
theorem kws_mem {id many : Nat} {ns : List Str} (h : (id, many, ns) ∈ gam.kws) : (id = 2 ∧ many = 0 ∧ ns = (["thing"] : List Str)) ∨ (id = 3 ∧ many = 0 ∧ ns = (["thing"] : List Str)) ∨ (id = 4 ∧ many = 0 ∧ ns = (["thing"] : List Str)) ∨ (id = 8 ∧ many = 0 ∧ ns = (["worths", "term"] : List Str)) := by
  have e : gam.kws = [(2, 0, (["thing"] : List Str)), (3, 0, (["thing"] : List Str)), (4, 0, (["thing"] : List Str)), (8, 0, (["worths", "term"] : List Str))] := rfl
  rw [e] at h
  simp only [List.mem_cons, Prod.mk.injEq, List.not_mem_nil, or_false] at h
  exact h
theorem df0 : DFact gam d0 := ⟨by kernel_rfl, rfl, b0, kb_no fun many ns h => by
  rcases kws_mem h with ⟨e, _⟩ | ⟨e, _⟩ | ⟨e, _⟩ | ⟨e, _⟩ <;> exact absurd (show (0 : Nat) = _ from e) (by decide)⟩
theorem df1 : DFact gam d1 := ⟨by kernel_rfl, rfl, b1, kb_no fun many ns h => by
  rcases kws_mem h with ⟨e, _⟩ | ⟨e, _⟩ | ⟨e, _⟩ | ⟨e, _⟩ <;> exact absurd (show (1 : Nat) = _ from e) (by decide)⟩
theorem df2 : DFact gam d2 := ⟨by kernel_rfl, rfl, b2, fun many ns ix h h2 kV doc pm an cdv ct us ws l1 l2 => by
  rcases kws_mem h with ⟨e, rfl, rfl⟩ | ⟨e, rfl, rfl⟩ | ⟨e, rfl, rfl⟩ | ⟨e, rfl, rfl⟩ <;> first
    | exact absurd (show (2 : Nat) = _ from e) (by decide)
    | skip
  cases (show some [0] = some ix from h2)
  match us, ws, l1, l2 with
  | [], [a], _, _ => exact ⟨[a], rfl, rfl⟩⟩
theorem df3 : DFact gam d3 := ⟨by kernel_rfl, rfl, b3, fun many ns ix h h2 kV doc pm an cdv ct us ws l1 l2 => by
  rcases kws_mem h with ⟨e, rfl, rfl⟩ | ⟨e, rfl, rfl⟩ | ⟨e, rfl, rfl⟩ | ⟨e, rfl, rfl⟩ <;> first
    | exact absurd (show (3 : Nat) = _ from e) (by decide)
    | skip
  cases (show some [0] = some ix from h2)
  match us, ws, l1, l2 with
  | [], [a], _, _ => exact ⟨[a], rfl, rfl⟩⟩
theorem df4 : DFact gam d4 := ⟨by kernel_rfl, rfl, b4, fun many ns ix h h2 kV doc pm an cdv ct us ws l1 l2 => by
  rcases kws_mem h with ⟨e, rfl, rfl⟩ | ⟨e, rfl, rfl⟩ | ⟨e, rfl, rfl⟩ | ⟨e, rfl, rfl⟩ <;> first
    | exact absurd (show (4 : Nat) = _ from e) (by decide)
    | skip
  cases (show some [0] = some ix from h2)
  match us, ws, l1, l2 with
  | [], [a], _, _ => exact ⟨[a], rfl, rfl⟩⟩
theorem df5 : DFact gam d5 := ⟨by kernel_rfl, rfl, b5, kb_no fun many ns h => by
  rcases kws_mem h with ⟨e, _⟩ | ⟨e, _⟩ | ⟨e, _⟩ | ⟨e, _⟩ <;> exact absurd (show (5 : Nat) = _ from e) (by decide)⟩
theorem df6 : DFact gam d6 := ⟨by kernel_rfl, rfl, b6, kb_no fun many ns h => by
  rcases kws_mem h with ⟨e, _⟩ | ⟨e, _⟩ | ⟨e, _⟩ | ⟨e, _⟩ <;> exact absurd (show (6 : Nat) = _ from e) (by decide)⟩
theorem df7 : DFact gam d7 := ⟨by kernel_rfl, rfl, b7, kb_no fun many ns h => by
  rcases kws_mem h with ⟨e, _⟩ | ⟨e, _⟩ | ⟨e, _⟩ | ⟨e, _⟩ <;> exact absurd (show (7 : Nat) = _ from e) (by decide)⟩
theorem df8 : DFact gam d8 := ⟨by kernel_rfl, rfl, b8, fun many ns ix h h2 kV doc pm an cdv ct us ws l1 l2 => by
  rcases kws_mem h with ⟨e, rfl, rfl⟩ | ⟨e, rfl, rfl⟩ | ⟨e, rfl, rfl⟩ | ⟨e, rfl, rfl⟩ <;> first
    | exact absurd (show (8 : Nat) = _ from e) (by decide)
    | skip
  cases (show some [1, 0] = some ix from h2)
  match us, ws, l1, l2 with
  | [], [a, b], _, _ => exact ⟨[b, a], rfl, rfl⟩⟩
theorem df9 : DFact gam d9 := ⟨by kernel_rfl, rfl, b9, kb_no fun many ns h => by
  rcases kws_mem h with ⟨e, _⟩ | ⟨e, _⟩ | ⟨e, _⟩ | ⟨e, _⟩ <;> exact absurd (show (9 : Nat) = _ from e) (by decide)⟩
theorem df10 : DFact gam d10 := ⟨by kernel_rfl, rfl, b10, kb_no fun many ns h => by
  rcases kws_mem h with ⟨e, _⟩ | ⟨e, _⟩ | ⟨e, _⟩ | ⟨e, _⟩ <;> exact absurd (show (10 : Nat) = _ from e) (by decide)⟩
theorem df11 : DFact gam d11 := ⟨by kernel_rfl, rfl, b11, kb_no fun many ns h => by
  rcases kws_mem h with ⟨e, _⟩ | ⟨e, _⟩ | ⟨e, _⟩ | ⟨e, _⟩ <;> exact absurd (show (11 : Nat) = _ from e) (by decide)⟩
theorem df12 : DFact gam d12 := ⟨by kernel_rfl, rfl, b12, kb_no fun many ns h => by
  rcases kws_mem h with ⟨e, _⟩ | ⟨e, _⟩ | ⟨e, _⟩ | ⟨e, _⟩ <;> exact absurd (show (12 : Nat) = _ from e) (by decide)⟩
theorem df13 : DFact gam d13 := ⟨by kernel_rfl, rfl, b13, kb_no fun many ns h => by
  rcases kws_mem h with ⟨e, _⟩ | ⟨e, _⟩ | ⟨e, _⟩ | ⟨e, _⟩ <;> exact absurd (show (13 : Nat) = _ from e) (by decide)⟩
theorem df14 : DFact gam d14 := ⟨by kernel_rfl, rfl, b14, kb_no fun many ns h => by
  rcases kws_mem h with ⟨e, _⟩ | ⟨e, _⟩ | ⟨e, _⟩ | ⟨e, _⟩ <;> exact absurd (show (14 : Nat) = _ from e) (by decide)⟩
theorem df15 : DFact gam d15 := ⟨by kernel_rfl, rfl, b15, kb_no fun many ns h => by
  rcases kws_mem h with ⟨e, _⟩ | ⟨e, _⟩ | ⟨e, _⟩ | ⟨e, _⟩ <;> exact absurd (show (15 : Nat) = _ from e) (by decide)⟩
theorem df16 : DFact gam d16 := ⟨by kernel_rfl, rfl, b16, kb_no fun many ns h => by
  rcases kws_mem h with ⟨e, _⟩ | ⟨e, _⟩ | ⟨e, _⟩ | ⟨e, _⟩ <;> exact absurd (show (16 : Nat) = _ from e) (by decide)⟩
theorem df17 : DFact gam d17 := ⟨by kernel_rfl, rfl, b17, kb_no fun many ns h => by
  rcases kws_mem h with ⟨e, _⟩ | ⟨e, _⟩ | ⟨e, _⟩ | ⟨e, _⟩ <;> exact absurd (show (17 : Nat) = _ from e) (by decide)⟩
theorem df18 : DFact gam d18 := ⟨by kernel_rfl, rfl, b18, kb_no fun many ns h => by
  rcases kws_mem h with ⟨e, _⟩ | ⟨e, _⟩ | ⟨e, _⟩ | ⟨e, _⟩ <;> exact absurd (show (18 : Nat) = _ from e) (by decide)⟩
theorem df19 : DFact gam d19 := ⟨by kernel_rfl, rfl, b19, kb_no fun many ns h => by
  rcases kws_mem h with ⟨e, _⟩ | ⟨e, _⟩ | ⟨e, _⟩ | ⟨e, _⟩ <;> exact absurd (show (19 : Nat) = _ from e) (by decide)⟩
theorem df_all : ∀ d ∈ ds, DFact gam d := by
  intro d hd
  simp only [ds, List.mem_cons, List.not_mem_nil, or_false] at hd
  rcases hd with rfl | rfl | rfl | rfl | rfl | rfl | rfl | rfl | rfl | rfl | rfl | rfl | rfl | rfl | rfl | rfl | rfl | rfl | rfl | rfl
  · exact df0
  · exact df1
  · exact df2
  · exact df3
  · exact df4
  · exact df5
  · exact df6
  · exact df7
  · exact df8
  · exact df9
  · exact df10
  · exact df11
  · exact df12
  · exact df13
  · exact df14
  · exact df15
  · exact df16
  · exact df17
  · exact df18
  · exact df19
end K01
end
section
set_option Elab.async false
set_option linter.all false
set_option maxRecDepth 100000
set_option maxHeartbeats 0
namespace K01
open PySem PC L2
section
variable {K : PySem.W.Frag} {mg : Str → Option Value} {base h : Heap}
theorem cm_hand (TB : LamX.TabB base mg (He.cT K ("worth_in", none)).1 (He.cT K ("worth_in", none)).2) : CmOk (WW K) gam prog mg base d7 := by
  refine ⟨c7, rfl, fun fd L X D cx em eb hfn ⟨hh, ee⟩ => ?_⟩
  obtain ⟨p1, p2, lp, p3, p4, eb7⟩ := body7
  obtain ⟨f, fd6, k, h1, h2, h3, h4, h5, h6⟩ := cx.fns "worth_at" (F 6) rfl
  obtain ⟨oc, od, dV, kV, doc, pm, an, cdv, ct, osl, hfd, lk, hcd, hdv, hkv⟩ := id D.ex
  obtain ⟨c0, rfl⟩ := He.codeIn_ref hcd
  have ec : fd.code = .ref c0 := by rw [hfd]
  have ecT : (He.cT K ("worth_in", none)).1 = c0 := He.codeOf_eq (p := ("worth_in", none)) lk ec
  show PSs X (L2.defBody s7) _
  rw [eb7]
  refine os_cons (os_ret ?_) os_nil
  have hsc : X.env.scope = L2.defScope d7.st := cx.hsc
  have hnd : NdefX.ndefB (L2.defScope d7.st) Im.scope Im.fr = true := by kernel_rfl
  refine ok_callL (F := h4) (Im := Im) (c0 := c0) (P0 := (He.cT K ("worth_in", none)).2) h3 cx.hgd (cx.gl rfl) h1 h2 h5 (by decide) hfn rfl ?_ ?_ ?_ List.mem_cons_self (fun q hq _ => ?_) rfl ?_ ?_ rfl ?_ ?_
  · rw [ee]
    rfl
  · rw [eb, em, ← ecT]
    exact TB
  · rw [ee]
    exact ec
  · rw [List.mem_singleton.mp hq]
    rfl
  · rw [hsc]
    exact NdefX.ndef_free hnd
  · exact NdefX.ndef_fr hnd
  · intro i y j q1 q2
    rw [cx.hN]
    match i with
    | 0 =>
      cases (show some (("numbers" : Str)) = some y from q1)
      cases (show some 1 = some j from q2)
      rfl
    | i + 1 => cases (show none = some y from q1)
  · exact pas_of (cmE_ok 1) cx.toCxS (es := [.Name "term" p2]) rfl
theorem cm_all (TB : LamX.TabB base mg (He.cT K ("worth_in", none)).1 (He.cT K ("worth_in", none)).2) : ∀ d ∈ ds, CmOk (WW K) gam prog mg base d := by
  intro d hd
  simp only [ds, List.mem_cons, List.not_mem_nil, or_false] at hd
  rcases hd with rfl | rfl | rfl | rfl | rfl | rfl | rfl | rfl | rfl | rfl | rfl | rfl | rfl | rfl | rfl | rfl | rfl | rfl | rfl | rfl
  · exact cm_plain cm0 rfl
  · exact cm_plain cm1 rfl
  · exact cm_plain cm2 rfl
  · exact cm_plain cm3 rfl
  · exact cm_plain cm4 rfl
  · exact cm_plain cm5 rfl
  · exact cm_plain cm6 rfl
  · exact cm_hand TB
  · exact cm_plain cm8 rfl
  · exact cm_plain cm9 rfl
  · exact cm_plain cm10 rfl
  · exact cm_plain cm11 rfl
  · exact cm_plain cm12 rfl
  · exact cm_plain cm13 rfl
  · exact cm_plain cm14 rfl
  · exact cm_plain cm15 rfl
  · exact cm_plain cm16 rfl
  · exact cm_plain cm17 rfl
  · exact cm_plain cm18 rfl
  · exact cm_plain cm19 rfl
end
/-! ### the head -/
def ex (K : PySem.W.Frag) : Bool := exOf gam glos K
abbrev R : PySem.W.OpenRow := PySem.W.OpenLaw.row PySem.Challenge.rw_kinferry_k01_terms_and_numbers
abbrev hk : PySem.W.Hook := He.hookX 4 (faOf gam) (ds.map DS.dd) [] [("worth_in", none)] ex
def ob (s : PySem.W.SharedT) : He.AlX := He.obsX 4 (faOf gam) (ds.map DS.dd) [] [("worth_in", none)] ex (HandSHeadRun.getT s)
theorem ob_eq (s : PySem.W.SharedT) : ob s = hk.obs s.abs := He.obsX_eq (HandSHeadRun.getT_eq s)
end K01
end
section
set_option Elab.async false
set_option linter.all false
set_option maxRecDepth 100000
set_option maxHeartbeats 0
namespace K01
open PySem PC L2
def loose : List Str := ["ROUND", "LETTERS", "LONGEST", "DEEPEST", "NUM", "SUM", "LESS", "TIMES", "OVER", "BELOW", "SAME", "WORDS", "is_whole", "is_up_to", "is_name", "is_number", "is_depth", "worth_by", "worth_at", "worth_in", "worth_of", "_law_deck", "_law_draw", "_law_pick", "_law_unlike", "_law_sum_of", "_law_due", "_law_is_name", "_law_is_whole", "_law_right", "_law_things"]
theorem run (w : World) : HandSHeadRun.RunEq R (PySem.W.view R.prog [33]) hk ob 1000 loose w := by
  intro os
  kernel_rfl
/-- what the law's text comes to, for every script -/
def Pure : Prop := ∀ xs : List Int, xs.length ≤ 63 → ∃ S', runF prog 40 19 [.frl (xs.map .int)] [] = some (.bl true, S')
theorem dvs_ints {W : Wd} {ι : List Addr} {H : Hp} : ∀ xs : List Int, DVs W ι H (xs.map .int) (xs.map V.int)
  | [] => rfl
  | x :: xs => ⟨_, _, rfl, rfl, dvs_ints xs⟩
theorem law_g (pure_ok : Pure) {w : World} {mg : Str → Option Value} {fa : Addr} {h : Heap} (G : h.Ns mainGlobals mg) (hfa : mg ("law" : Str) = some (.ref fa)) (Y : ∃ K : PySem.W.Frag, K.In h ∧ He.SaysX (faOf gam) (ds.map DS.dd) [] [("worth_in", none)] ex w h K) :
    LawG PySem.Challenge.rw_kinferry_k01_terms_and_numbers w 40 63 "script" mg fa h := by
  obtain ⟨K, KX, c⟩ := Y
  obtain ⟨fd, D⟩ := c.t.d.defs (d := d19.dd) (List.mem_map.mpr ⟨d19, List.mem_of_getElem? (i := 19) rfl, rfl⟩)
  have D' : FunD K "law" "law" (L2.defArgs d19.st) (L2.defBody d19.st) (L2.defScope d19.st) [] [] (He.ga K "law") fd := D
  have gl := He.glo_ok KX G (c.t.d.facts (f := .glo "law") (List.mem_append_left _ (List.mem_map.mpr ⟨("law", F 19), List.mem_of_getElem? (i := 19) rfl, rfl⟩)))
  have e := hfa.symm.trans gl
  cases e
  have bd := D'.bindsA (ps := ["script"]) fun kV doc pm an cdv ct us hl => b19 kV doc pm an cdv ct us hl
  refine ⟨K, fd, [He.cT K ("worth_in", none)], spF (WW K) (calL prog 40) 19, KX, fun p hp => ?_, fun p hp => ?_, fun p hp => ?_, fun s u => bd s [u] rfl, fun a vs ns hl _ hs => ?_, fun base hK hG hT => ?_⟩
  · rw [List.mem_singleton.mp hp]
    exact c.empty _ List.mem_cons_self
  · rw [List.mem_singleton.mp hp]
    exact c.out _ List.mem_cons_self
  · rw [List.mem_singleton.mp hp]
    exact PySem.W.codeHd_of_K KX (c.hd _ List.mem_cons_self)
  · obtain ⟨S', hr⟩ := pure_ok ns hl
    refine ⟨[], [], [.frl (ns.map .int)], .bl true, S', ⟨rfl, List.nodup_nil, fun n a o q => by simp at q, fun p hp => ?_⟩, ⟨_, [], rfl, .inl ⟨a, _, rfl, hs, dvs_ints ns⟩, rfl⟩, hr, fun ι' H' v _ _ hv => hv⟩
    rw [List.mem_singleton.mp hp]
    exact LamX.TabS.nil (hp0_tbl (p := He.cT K ("worth_in", none)) List.mem_cons_self)
  · have G0 : Glo (WW K) gam prog mg base := glo_of (h := base) hK hG c.t.d c.more rfl rfl df_all (cm_all (hT _ List.mem_cons_self)) (lms_ok K)
    have V := lvl_all (prog := (PySem.Challenge.rw_kinferry_k01_terms_and_numbers).prog) (w := w) G0 40
    obtain ⟨dl⟩ := G0.fns "law" (F 19) rfl
    have e1 := gl.symm.trans dl.hm
    have e2 : He.ga K "law" = dl.f := by
      injection e1 with z
      injection z
    obtain ⟨_, _, _, _, _, _, _, _, _, _, _, lk, _⟩ := D'.ex
    obtain ⟨_, _, _, _, _, _, _, _, _, _, _, lk2, _⟩ := dl.D.ex
    have lk2' : K.lookup dl.f = _ := lk2
    rw [← e2, lk] at lk2'
    have e3 : fd = dl.fd := by
      injection lk2' with z
      injection z with z1 z2 z3
      injection z3
    rw [e3, e2]
    exact V.fn "law" (F 19) dl
end K01
open PySem PySem.W PySem.Calls PyProof.Rows
theorem k01_of (pure_ok : K01.Pure) : PySem.Challenge.rw_kinferry_k01_terms_and_numbers.Holds := by
  w_on; o_law
  refine HandSHeadRun.head_any (r := OpenLaw.row PySem.Challenge.rw_kinferry_k01_terms_and_numbers) (q := view (OpenLaw.row PySem.Challenge.rw_kinferry_k01_terms_and_numbers).prog [33]) (H := K01.hk) (ob := K01.ob) (M := 1000) (loose := K01.loose) (d := HandSHeadRun.topDef (OpenLaw.row PySem.Challenge.rw_kinferry_k01_terms_and_numbers).prog 33) (kwd := []) K01.ob_eq
    (by kernel_rfl) (fun s => by kernel_rfl) K01.run (by kernel_rfl) (by kernel_rfl) (by kernel_rfl) (by rfl) (by first | assumption | decide +kernel) (by decide +kernel) ⟨rfl, rfl, rfl, rfl, rfl, by decide +kernel⟩ ?hw ?hc
  case hw => w_witness2
  case hc =>
    refine PC.walk_ofG (l := PySem.Challenge.rw_kinferry_k01_terms_and_numbers) (n := 63) (k := 40) (x := "script") rfl (by decide) (by kernel_rfl) ⟨rfl, by decide, by decide⟩ ?F
    intro w mg fa h Y G hmg0
    have hmg : mg ("law" : PySem.Str) = some (.ref fa) := by
      have e : (HandSHeadRun.topDef (OpenLaw.row PySem.Challenge.rw_kinferry_k01_terms_and_numbers).prog 33).name = ("law" : PySem.Str) := by kernel_rfl
      rw [← e]
      exact hmg0
    exact K01.law_g pure_ok G hmg Y
end
section
set_option Elab.async false
set_option linter.all false
set_option maxRecDepth 100000
set_option maxHeartbeats 1000000
namespace K01
open PySem PC
abbrev CC (L : Nat) : Cal := calL prog L
theorem cP (L : Nat) : (CC L).P = prog := by cases L <;> rfl
theorem fn_eq {L k : Nat} {F : Fn} (h : fnl[k]? = some F) {as : List D} {S : Sto} (hl : as.length = F.ps) : (CC (L + 1)).fn k as S = endD (exSs (CC L) F.body (as.map some ++ List.replicate (F.slots - F.ps) none) S) := by
  show oneF (CC L) k as S = _
  unfold oneF
  rw [cP, show prog.fns[k]? = some F from h]
  simp only
  rw [if_pos hl]
theorem ex_nx {C : Cal} {s : CS} {r : CSs} {e e1 : En} {S S1 : Sto} (h : exS C s e S = some (.nx, e1, S1)) : exSs C (.cons s r) e S = exSs C r e1 S1 := by
  simp only [exSs, h]
theorem ex_rt {C : Cal} {s : CS} {r : CSs} {e e1 : En} {S S1 : Sto} {d : D} (h : exS C s e S = some (.rt d, e1, S1)) : exSs C (.cons s r) e S = some (.rt d, e1, S1) := by
  simp only [exSs, h]
/-! ### data -/
theorem om_cons {α β : Type} {f : α → Option β} {x : α} {xs : List α} {y : β} {ys : List β} (h : f x = some y) (h2 : optMap f xs = some ys) : optMap f (x :: xs) = some (y :: ys) := by
  simp only [optMap, h, h2]
theorem rd_int {k : Nat} {S : Sto} {x : Int} : rdP (k + 1) S (.int x) = some (.int x) := rfl
theorem rd_str {k : Nat} {S : Sto} {x : Str} : rdP (k + 1) S (.str x) = some (.str x) := rfl
theorem rd_tup {k : Nat} {S : Sto} {xs : List D} : rdP (k + 1) S (.tup xs) = (optMap (rdP k S) xs).map .tuple := rfl
theorem rd_lst {k : Nat} {S : Sto} {c : Nat} {xs : List D} (h : S[c]? = some (.lst xs)) : rdP (k + 1) S (.ref c) = (optMap (rdP k S) xs).map .list := by
  simp only [rdP]
  rw [h]
theorem om_int {k : Nat} {S : Sto} : ∀ xs : List Int, optMap (rdP (k + 1) S) (xs.map .int) = some (xs.map .int)
  | [] => rfl
  | x :: xs => om_cons rd_int (om_int xs)
theorem nds_int : ∀ xs : List Int, noDs (xs.map .int) = true
  | [] => rfl
  | x :: xs => by simp only [List.map_cons, noDs, noD, nds_int xs]; rfl
theorem rd_ints {S : Sto} {c : Nat} {xs : List Int} (h : S[c]? = some (.lst (xs.map .int))) : rdQ S (.ref c) = some (.list (xs.map .int)) := by
  unfold rdQ
  rw [rd_lst h, om_int]
  simp only [Option.map_some, noD, nds_int, if_true]
theorem rd_nil {S : Sto} {c : Nat} (h : S[c]? = some (.lst [])) : rdQ S (.ref c) = some (.list []) := rd_ints (xs := []) h
theorem mulR {i j : Int} (h1 : -(2 ^ 64) < j) (h2 : j < 2 ^ 64) : mulOk i j = true := by
  unfold mulOk
  simp only [Bool.or_eq_true, Bool.and_eq_true, decide_eq_true_eq]
  exact .inr ⟨h1, h2⟩
theorem mulL {i j : Int} (h1 : -(2 ^ 64) < i) (h2 : i < 2 ^ 64) : mulOk i j = true := by
  unfold mulOk
  simp only [Bool.or_eq_true, Bool.and_eq_true, decide_eq_true_eq]
  exact .inl ⟨h1, h2⟩
/-! ### the deck -/
structure Dk (n c : Nat) (S : Sto) : Prop where
  ne : n ≠ c
  at_ : ∃ (cells : List Int) (seed cnt : Int), S[n]? = some (.lst [.ref c, .int seed, .int cnt]) ∧ S[c]? = some (.lst (cells.map .int)) ∧ cells.length ≤ 63
/-- all but the deck stays, the store may grow -/
structure Frm (n c : Nat) (S S' : Sto) : Prop where
  le : S.length ≤ S'.length
  eq : ∀ m, m < S.length → m ≠ n → m ≠ c → S'[m]? = S[m]?
theorem Frm.refl {n c : Nat} {S : Sto} : Frm n c S S := ⟨Nat.le_refl _, fun _ _ _ _ => rfl⟩
theorem Frm.trans {n c : Nat} {S S1 S2 : Sto} (a : Frm n c S S1) (b : Frm n c S1 S2) : Frm n c S S2 := ⟨Nat.le_trans a.le b.le, fun m h1 h2 h3 => (b.eq m (Nat.lt_of_lt_of_le h1 a.le) h2 h3).trans (a.eq m h1 h2 h3)⟩
theorem Frm.at_ {n c m : Nat} {S S' : Sto} {o : Ob} (a : Frm n c S S') (h : S[m]? = some o) (h1 : m ≠ n) (h2 : m ≠ c) : S'[m]? = some o := (a.eq m (List.getElem?_eq_some_iff.mp h).1 h1 h2).trans h
theorem Frm.app {n c : Nat} {S : Sto} (T : Sto) : Frm n c S (S ++ T) := ⟨by simp, fun m h _ _ => List.getElem?_append_left h⟩
theorem Dk.lt {n c : Nat} {S : Sto} (d : Dk n c S) : n < S.length ∧ c < S.length := by
  obtain ⟨a, b, e, h1, h2, _⟩ := d.at_
  exact ⟨(List.getElem?_eq_some_iff.mp h1).1, (List.getElem?_eq_some_iff.mp h2).1⟩
theorem Dk.app {n c : Nat} {S : Sto} (d : Dk n c S) (T : Sto) : Dk n c (S ++ T) := by
  obtain ⟨h1, h2⟩ := d.lt
  obtain ⟨a, b, e, q1, q2, q3⟩ := d.at_
  exact ⟨d.ne, a, b, e, by rw [List.getElem?_append_left h1]; exact q1, by rw [List.getElem?_append_left h2]; exact q2, q3⟩
def mx0 (cell cnt : Int) : Int := (cell % 2147483629 + 40961 * cnt + 7) * 69621 % 2147483587
def mx1 (cell cnt : Int) : Int := (mx0 cell cnt * mx0 cell cnt + 48271 * cnt + 11) % 2147483647
def mx2 (cell cnt ways : Int) : Int := (mx1 cell cnt * mx1 cell cnt + 16807 * mx1 cell cnt) % 2147483549 / 32 % ways
def drawTail : CSs := (.cons (.set (.name 3) (.bin .Mod (.bin .Mult (.bin .Add (.bin .Add (.bin .Mod (.var 2) (.int (2147483629))) (.bin .Mult (.int (40961)) (.idx (.var 0) (.int (2))))) (.int (7))) (.int (69621))) (.int (2147483587))))
  (.cons (.set (.name 3) (.bin .Mod (.bin .Add (.bin .Add (.bin .Mult (.var 3) (.var 3)) (.bin .Mult (.int (48271)) (.idx (.var 0) (.int (2))))) (.int (11))) (.int (2147483647))))
  (.cons (.ret (.bin .Mod (.bin .FloorDiv (.bin .Mod (.bin .Add (.bin .Mult (.var 3) (.var 3)) (.bin .Mult (.int (16807)) (.var 3))) (.int (2147483549))) (.int (32))) (.var 1)))
  .nil)))
/-- the draw's end, by the cell -/
theorem draw_end {L n c : Nat} {cell seed cnt ways : Int} {S : Sto} (h : S[n]? = some (.lst [.ref c, .int seed, .int cnt])) (x : Option D) (hw : 0 < ways) :
    ∃ e', exSs (CC L) drawTail [some (.ref n), some (.int ways), some (.int cell), x] S = some (.rt (.int (mx2 cell cnt ways)), e', S) := by
  have b1 : ∀ z : Int, mulOk (z % 2147483587) (z % 2147483587) = true := fun z => mulR (by omega) (by omega)
  have b2 : ∀ z : Int, mulOk (z % 2147483647) (z % 2147483647) = true := fun z => mulR (by omega) (by omega)
  have b3 : ∀ z : Int, mulOk z 69621 = true := fun z => mulR (by decide) (by decide)
  have b4 : ∀ z : Int, mulOk 40961 z = true := fun z => mulL (by decide) (by decide)
  have b5 : ∀ z : Int, mulOk 48271 z = true := fun z => mulL (by decide) (by decide)
  have b6 : ∀ z : Int, mulOk 16807 z = true := fun z => mulL (by decide) (by decide)
  have ix2 : L2.atI [D.ref c, D.int seed, D.int cnt] 2 = some (.int cnt) := rfl
  refine ⟨[some (.ref n), some (.int ways), some (.int cell), some (.int (mx1 cell cnt))], ?_⟩
  simp [drawTail, exSs, exS, evE, evEs, bnS, bnd, putT, binD, idxD, giv, h, ix2, b1, b2, b3, b4, b5, b6, hw, isLam, mx2, mx1, mx0]
theorem mx2_in {cell cnt ways : Int} (hw : 0 < ways) : 0 ≤ mx2 cell cnt ways ∧ mx2 cell cnt ways < ways := ⟨Int.emod_nonneg _ (by omega), Int.emod_lt_of_pos _ hw⟩
theorem eqv_nil (xs : List PyData) : (PyData.list xs).eqv (.list []) = xs.isEmpty := by
  cases xs <;> simp [PyData.eqv, PyData.eqvAll]
/-- a draw -/
theorem draw_ok {L n c : Nat} {S : Sto} {ways : Int} (d : Dk n c S) (hw : 0 < ways) (hw2 : ways < 1073741824) :
    ∃ r S', (CC (L + 1)).fn 10 [.ref n, .int ways] S = some (.int r, S') ∧ 0 ≤ r ∧ r < ways ∧ Dk n c S' ∧ Frm n c S S' := by
  obtain ⟨cells, seed, cnt, h1, h2, hl⟩ := d.at_
  have ln := d.lt.1
  have lc := d.lt.2
  have ne := d.ne
  rw [fn_eq (F := ⟨2, 4, c10⟩) rfl rfl]
  -- the count
  let S1 : Sto := S.set n (.lst [.ref c, .int seed, .int (cnt + 1)])
  have s1n : S1[n]? = some (.lst [.ref c, .int seed, .int (cnt + 1)]) := List.getElem?_set_self ln
  have s1c : S1[c]? = some (.lst (cells.map .int)) := (List.getElem?_set_ne ne).trans h2
  have e1 : exS (CC L) (.setI (.var 0) (.int (2)) (.bin .Add (.idx (.var 0) (.int (2))) (.int (1)))) [some (.ref n), some (.int ways), none, none] S = some (.nx, [some (.ref n), some (.int ways), none, none], S1) := by
    have ix2 : L2.atI [D.ref c, D.int seed, D.int cnt] 2 = some (.int cnt) := rfl
    have ix3 : L2.ixN 3 2 = some 2 := rfl
    simp [exS, evE, bnS, bnd, idxD, giv, h1, ix2, ix3, binD, setD, isLam, S1]
  show ∃ r S', endD (exSs (CC L) c10 [some (.ref n), some (.int ways), none, none] S) = _ ∧ _
  have c10e : c10 = .cons (.setI (.var 0) (.int (2)) (.bin .Add (.idx (.var 0) (.int (2))) (.int (1)))) (.cons (.set (.name 2) (.idx (.var 0) (.int (1)))) (.cons (.ifS (.cmp .NotEq (.idx (.var 0) (.int (0))) (.lstE .nil)) (.cons (.set (.name 2) (.meth (.idx (.var 0) (.int (0))) "pop" .nil))
    (.cons (.ifS (.cmp .GtE (.var 2) (.bin .Pow (.int (10)) (.int (18)))) (.cons (.exp (.meth (.idx (.var 0) (.int (0))) "append" (.cons (.bin .FloorDiv (.var 2) (.var 1)) .nil))) (.cons (.ret (.bin .Mod (.var 2) (.var 1))) .nil)) .nil) (.cons (.set (.name 2) (.bin .Add (.var 2) (.idx (.var 0) (.int (1))))) .nil))) .nil) drawTail)) := rfl
  rw [c10e, ex_nx e1]
  have e2 : exS (CC L) (.set (.name 2) (.idx (.var 0) (.int (1)))) [some (.ref n), some (.int ways), none, none] S1 = some (.nx, [some (.ref n), some (.int ways), some (.int seed), none], S1) := by
    have ix1 : L2.atI [D.ref c, D.int seed, D.int (cnt + 1)] 1 = some (.int seed) := rfl
    simp [exS, evE, bnS, bnd, idxD, giv, s1n, ix1, isLam, putT]
  rw [ex_nx e2]
  -- is a cell left
  let S2 : Sto := S1 ++ [.lst []]
  have l1 : S1.length = S.length := List.length_set ..
  have s2n : S2[n]? = some (.lst [.ref c, .int seed, .int (cnt + 1)]) := (List.getElem?_append_left (by rw [l1]; exact ln)).trans s1n
  have s2c : S2[c]? = some (.lst (cells.map .int)) := (List.getElem?_append_left (by rw [l1]; exact lc)).trans s1c
  have s2m : S2[S1.length]? = some (.lst []) := by simp [S2]
  have ix0 : L2.atI [D.ref c, D.int seed, D.int (cnt + 1)] 0 = some (.ref c) := rfl
  have ix1 : L2.atI [D.ref c, D.int seed, D.int (cnt + 1)] 1 = some (.int seed) := rfl
  have f2 : Frm n c S S2 := ⟨by simp [S2, l1], fun m hm h3 h4 => by
    show (S1 ++ [Ob.lst []])[m]? = _
    rw [List.getElem?_append_left (by rw [l1]; exact hm)]
    exact List.getElem?_set_ne (Ne.symm h3)⟩
  have tst : tstE (CC L) (.cmp .NotEq (.idx (.var 0) (.int (0))) (.lstE .nil)) [some (.ref n), some (.int ways), some (.int seed), none] S1 = some (!(cells.map PyData.int).isEmpty, S2) := by
    have q : cmpD .NotEq (.ref c) (.ref S1.length) S2 = some (!(cells.map PyData.int).isEmpty) := by
      simp only [cmpD, eqD, rd_ints s2c, rd_nil s2m, eqv_nil, Option.map_some]
    simp [tstE, evE, evEs, bnd, idxD, giv, s1n, ix0, isLam, new, truD, line]
    rw [show S1 ++ [Ob.lst []] = S2 from rfl, q]
    simp [truD]
  rcases List.eq_nil_or_concat cells with hc | ⟨init, x, hc⟩
  · subst hc
    have e3 : exS (CC L) (.ifS (.cmp .NotEq (.idx (.var 0) (.int (0))) (.lstE .nil)) (.cons (.set (.name 2) (.meth (.idx (.var 0) (.int (0))) "pop" .nil))
      (.cons (.ifS (.cmp .GtE (.var 2) (.bin .Pow (.int (10)) (.int (18)))) (.cons (.exp (.meth (.idx (.var 0) (.int (0))) "append" (.cons (.bin .FloorDiv (.var 2) (.var 1)) .nil))) (.cons (.ret (.bin .Mod (.var 2) (.var 1))) .nil)) .nil) (.cons (.set (.name 2) (.bin .Add (.var 2) (.idx (.var 0) (.int (1))))) .nil))) .nil) [some (.ref n), some (.int ways), some (.int seed), none] S1 = some (.nx, [some (.ref n), some (.int ways), some (.int seed), none], S2) := by
      simp only [exS, tst, bnS, List.map_nil, List.isEmpty_nil, Bool.not_true, exSs]
    rw [ex_nx e3]
    obtain ⟨e', q⟩ := draw_end (L := L) (ways := ways) (cell := seed) s2n none hw
    rw [q]
    exact ⟨_, S2, rfl, (mx2_in hw).1, (mx2_in hw).2, ⟨ne, [], seed, cnt + 1, s2n, s2c, by simp⟩, f2⟩
  · have hc' : cells = init ++ [x] := by simpa using hc
    clear hc
    subst hc'
    have hil : init.length ≤ 62 := by simp at hl; omega
    have e4 : exS (CC L) (.set (.name 2) (.meth (.idx (.var 0) (.int (0))) "pop" .nil)) [some (.ref n), some (.int ways), some (.int seed), none] S2 = some (.nx, [some (.ref n), some (.int ways), some (.int x), none], S2.set c (.lst (init.map .int))) := by
      have hp : metD (.ref c) "pop" [] S2 = some (.int x, S2.set c (.lst (init.map .int))) := by
        show mPop (.ref c) S2 = _
        unfold mPop
        simp only [s2c]
        simp
      simp [exS, evE, evEs, bnS, bnd, idxD, giv, s2n, ix0, isLam, metK, s2c, hp, putT]
    let S3 : Sto := S2.set c (.lst (init.map .int))
    have lc2 : c < S2.length := by simp [S2, l1]; omega
    have s3n : S3[n]? = some (.lst [.ref c, .int seed, .int (cnt + 1)]) := (List.getElem?_set_ne (Ne.symm ne)).trans s2n
    have s3c : S3[c]? = some (.lst (init.map .int)) := List.getElem?_set_self lc2
    have f3 : Frm n c S S3 := ⟨by rw [List.length_set]; exact f2.le, fun m hm h3 h4 => (List.getElem?_set_ne (Ne.symm h4)).trans (f2.eq m hm h3 h4)⟩
    have tst2 : tstE (CC L) (.cmp .GtE (.var 2) (.bin .Pow (.int (10)) (.int (18)))) [some (.ref n), some (.int ways), some (.int x), none] S3 = some (decide ((10 : Int) ^ 18 ≤ x), S3) := by
      have hp : powOk 10 18 = true := by decide
      simp [tstE, evE, bnd, giv, isLam, binD, hp, cmpD, truD]
    by_cases hx : (10 : Int) ^ 18 ≤ x
    · let S4 : Sto := S3.set c (.lst ((init ++ [x / ways]).map .int))
      have lc3 : c < S3.length := by rw [List.length_set]; exact lc2
      have e5 : exS (CC L) (.exp (.meth (.idx (.var 0) (.int (0))) "append" (.cons (.bin .FloorDiv (.var 2) (.var 1)) .nil))) [some (.ref n), some (.int ways), some (.int x), none] S3 = some (.nx, [some (.ref n), some (.int ways), some (.int x), none], S4) := by
        have hp : metD (.ref c) "append" [.int (x / ways)] S3 = some (.non, S4) := by
          show mAppend (.ref c) (.int (x / ways)) S3 = _
          unfold mAppend
          simp only [s3c]
          rw [if_pos (by rw [List.length_map]; exact Nat.lt_of_le_of_lt hil (by decide))]
          simp [S4]
        simp [exS, evE, evEs, bnS, bnd, idxD, giv, s3n, ix0, isLam, metK, s3c, binD, hw, hw2, hp]
      have e6 : exS (CC L) (.ret (.bin .Mod (.var 2) (.var 1))) [some (.ref n), some (.int ways), some (.int x), none] S4 = some (.rt (.int (x % ways)), [some (.ref n), some (.int ways), some (.int x), none], S4) := by
        simp [exS, evE, bnS, bnd, binD, hw, isLam]
      have e3 : exS (CC L) (.ifS (.cmp .NotEq (.idx (.var 0) (.int (0))) (.lstE .nil)) (.cons (.set (.name 2) (.meth (.idx (.var 0) (.int (0))) "pop" .nil))
        (.cons (.ifS (.cmp .GtE (.var 2) (.bin .Pow (.int (10)) (.int (18)))) (.cons (.exp (.meth (.idx (.var 0) (.int (0))) "append" (.cons (.bin .FloorDiv (.var 2) (.var 1)) .nil))) (.cons (.ret (.bin .Mod (.var 2) (.var 1))) .nil)) .nil) (.cons (.set (.name 2) (.bin .Add (.var 2) (.idx (.var 0) (.int (1))))) .nil))) .nil) [some (.ref n), some (.int ways), some (.int seed), none] S1 = some (.rt (.int (x % ways)), [some (.ref n), some (.int ways), some (.int x), none], S4) := by
        have t : (!(List.map PyData.int (init ++ [x])).isEmpty) = true := by simp
        have e7 : exS (CC L) (.ifS (.cmp .GtE (.var 2) (.bin .Pow (.int (10)) (.int (18)))) (.cons (.exp (.meth (.idx (.var 0) (.int (0))) "append" (.cons (.bin .FloorDiv (.var 2) (.var 1)) .nil))) (.cons (.ret (.bin .Mod (.var 2) (.var 1))) .nil)) .nil) [some (.ref n), some (.int ways), some (.int x), none] S3 = some (.rt (.int (x % ways)), [some (.ref n), some (.int ways), some (.int x), none], S4) := by
          simp only [exS, tst2, bnS, hx, decide_true]
          rw [ex_nx e5, ex_rt e6]
        simp only [exS, tst, bnS, t]
        rw [ex_nx e4, ex_rt e7]
      rw [ex_rt e3]
      refine ⟨_, S4, rfl, Int.emod_nonneg _ (by omega), Int.emod_lt_of_pos _ hw, ⟨ne, init ++ [x / ways], seed, cnt + 1, (List.getElem?_set_ne (Ne.symm ne)).trans s3n, List.getElem?_set_self lc3, by simp; omega⟩, ⟨by rw [List.length_set]; exact f3.le, fun m hm h3 h4 => (List.getElem?_set_ne (Ne.symm h4)).trans (f3.eq m hm h3 h4)⟩⟩
    · have e5 : exS (CC L) (.set (.name 2) (.bin .Add (.var 2) (.idx (.var 0) (.int (1))))) [some (.ref n), some (.int ways), some (.int x), none] S3 = some (.nx, [some (.ref n), some (.int ways), some (.int (x + seed)), none], S3) := by
        simp [exS, evE, bnS, bnd, binD, isLam, idxD, giv, s3n, ix1, putT]
      have e3 : exS (CC L) (.ifS (.cmp .NotEq (.idx (.var 0) (.int (0))) (.lstE .nil)) (.cons (.set (.name 2) (.meth (.idx (.var 0) (.int (0))) "pop" .nil))
        (.cons (.ifS (.cmp .GtE (.var 2) (.bin .Pow (.int (10)) (.int (18)))) (.cons (.exp (.meth (.idx (.var 0) (.int (0))) "append" (.cons (.bin .FloorDiv (.var 2) (.var 1)) .nil))) (.cons (.ret (.bin .Mod (.var 2) (.var 1))) .nil)) .nil) (.cons (.set (.name 2) (.bin .Add (.var 2) (.idx (.var 0) (.int (1))))) .nil))) .nil) [some (.ref n), some (.int ways), some (.int seed), none] S1 = some (.nx, [some (.ref n), some (.int ways), some (.int (x + seed)), none], S3) := by
        have t : (!(List.map PyData.int (init ++ [x])).isEmpty) = true := by simp
        have e7 : exS (CC L) (.ifS (.cmp .GtE (.var 2) (.bin .Pow (.int (10)) (.int (18)))) (.cons (.exp (.meth (.idx (.var 0) (.int (0))) "append" (.cons (.bin .FloorDiv (.var 2) (.var 1)) .nil))) (.cons (.ret (.bin .Mod (.var 2) (.var 1))) .nil)) .nil) [some (.ref n), some (.int ways), some (.int x), none] S3 = some (.nx, [some (.ref n), some (.int ways), some (.int x), none], S3) := by
          simp only [exS, tst2, bnS, hx, decide_false, exSs]
        simp only [exS, tst, bnS, t]
        rw [ex_nx e4, ex_nx e7, ex_nx e5]
        simp only [exSs]
      rw [ex_nx e3]
      obtain ⟨e', q⟩ := draw_end (L := L) (ways := ways) (cell := x + seed) s3n none hw
      rw [q]
      exact ⟨_, S3, rfl, (mx2_in hw).1, (mx2_in hw).2, ⟨ne, init, seed, cnt + 1, s3n, s3c, by omega⟩, f3⟩
end K01
end
section
set_option Elab.async false
set_option linter.all false
set_option maxRecDepth 100000
set_option maxHeartbeats 1000000
namespace K01
open PySem PC
theorem atI_nat {α : Type} {xs : List α} {i : Nat} {d : α} (h : xs[i]? = some d) : L2.atI xs (i : Int) = some d := by
  have hl := (List.getElem?_eq_some_iff.mp h).1
  unfold L2.atI L2.ixN
  rw [if_pos (by omega), if_pos (by omega)]
  simp [h]
theorem atI_in {α : Type} {xs : List α} {r : Int} (h0 : 0 ≤ r) (h1 : r < xs.length) : ∃ i d, i < xs.length ∧ xs[i]? = some d ∧ r = (i : Int) ∧ L2.atI xs r = some d := by
  have e : r = (r.toNat : Int) := by omega
  have hl : r.toNat < xs.length := by omega
  refine ⟨r.toNat, xs[r.toNat], hl, List.getElem?_eq_getElem hl, e, ?_⟩
  have q := atI_nat (List.getElem?_eq_getElem hl)
  rw [← e] at q
  exact q
/-- a pick from a list -/
theorem pick_ok {L n c m : Nat} {S : Sto} {ys : List D} (d : Dk n c S) (hm : S[m]? = some (.lst ys)) (hn : m ≠ n) (hc : m ≠ c) (h0 : 0 < ys.length) (h1 : ys.length < 1073741824) :
    ∃ i x S', (CC (L + 2)).fn 11 [.ref n, .ref m] S = some (x, S') ∧ i < ys.length ∧ ys[i]? = some x ∧ Dk n c S' ∧ Frm n c S S' := by
  obtain ⟨r, S1, e1, r0, r1, d1, f1⟩ := draw_ok (L := L) (ways := (ys.length : Int)) d (by omega) (by omega)
  have hm1 := f1.at_ hm hn hc
  obtain ⟨i, x, hi, hx, _, ha⟩ := atI_in r0 r1
  refine ⟨i, x, S1, ?_, hi, hx, d1, f1⟩
  rw [show L + 2 = (L + 1) + 1 from rfl, fn_eq (F := ⟨2, 2, c11⟩) rfl rfl]
  show endD (exSs (CC (L + 1)) c11 [some (.ref n), some (.ref m)] S) = _
  have e2 : evE (CC (L + 1)) (.bi .len (.cons (.var 1) .nil)) [some (.ref n), some (.ref m)] S = some (.int ys.length, S) := by
    simp [evE, evEs, bnd, isLam, biD, bi1, lenD, hm, giv]
  have e3 : exS (CC (L + 1)) (.ret (.idx (.var 1) (.call 10 (.cons (.var 0) (.cons (.bi .len (.cons (.var 1) .nil)) .nil)) []))) [some (.ref n), some (.ref m)] S = some (.rt x, [some (.ref n), some (.ref m)], S1) := by
    simp only [exS, evE, evEs, bnS, bnd, isLam] at e2 ⊢
    simp [isLam] at e2 ⊢
    simp [e2, callIx, e1, idxD, hm1, ha, giv]
  rw [show c11 = .cons (.ret (.idx (.var 1) (.call 10 (.cons (.var 0) (.cons (.bi .len (.cons (.var 1) .nil)) .nil)) []))) .nil from rfl, ex_rt e3]
  rfl
/-! ### the deck is laid -/
theorem seed_loop {L : Nat} {a b : Option D} {S : Sto} : ∀ (xs : List Int) (seed : Int) (c : Option D), ∃ seed' c', forLoop (forB (exSs (CC L) (.cons (.set (.name 2) (.bin .Mod (.bin .Add (.bin .Add (.bin .Mult (.var 2) (.int (16807))) (.bin .Mod (.var 3) (.int (2147483563)))) (.int (3))) (.int (2147483647)))) .nil)) (.name 3)) (xs.map .int) [a, b, some (.int seed), c] S = some (.nx, [a, b, some (.int seed'), c'], S)
  | [], seed, c => ⟨seed, c, rfl⟩
  | x :: xs, seed, c => by
    obtain ⟨s', c', e⟩ := seed_loop (L := L) (a := a) (b := b) (S := S) xs ((seed * 16807 + x % 2147483563 + 3) % 2147483647) (some (.int x))
    refine ⟨s', c', ?_⟩
    have hm : mulOk seed 16807 = true := mulR (by decide) (by decide)
    rw [← e, List.map_cons, forLoop]
    simp [forB, putT, exSs, exS, evE, bnS, bnd, binD, isLam, hm]
theorem deck_ok {L : Nat} (xs : List Int) (hl : xs.length ≤ 63) : ∃ S', (CC (L + 1)).fn 9 [.frl (xs.map .int)] [] = some (.ref 3, S') ∧ Dk 3 2 S' ∧ S'.length = 4 := by
  rw [fn_eq (F := ⟨1, 4, c9⟩) rfl rfl]
  show ∃ S', endD (exSs (CC L) c9 [some (.frl (xs.map .int)), none, none, none] []) = _ ∧ _
  obtain ⟨ys, hy, hyl⟩ : ∃ ys : List Int, cutL (xs.map D.int) none (some 63) = ys.map .int ∧ ys.length ≤ 63 := by
    unfold cutL
    rw [← List.map_drop, ← List.map_take]
    exact ⟨_, rfl, Nat.le_trans (by simp; omega) hl⟩
  have lle : ys.length ≤ 16777216 := Nat.le_trans hyl (by decide)
  have e1 : exS (CC L) (.set (.tup [1, 2]) (.tupE (.cons (.col .val (.cons (.slc (.var 0) .no (.so (.int (63)))) .nil)) (.cons (.int (8191)) .nil)))) [some (.frl (xs.map .int)), none, none, none] [] = some (.nx, [some (.frl (xs.map .int)), some (.ref 1), some (.int 8191), none], [.lst (ys.map .int), .lst (ys.map .int)]) := by
    simp [exS, evE, evEs, evO, bnS, bnd, isLam, slcD, hy, new, itD, itV, lle, putT, line]
  obtain ⟨s', c', e2⟩ := seed_loop (L := L) (a := some (.frl (xs.map .int))) (b := some (.ref 1)) (S := [.lst (ys.map .int), .fro (ys.map .int)]) ys 8191 none
  have e3 : exS (CC L) (.for_ (.name 3) .val (.cons (.var 1) .nil) (.cons (.set (.name 2) (.bin .Mod (.bin .Add (.bin .Add (.bin .Mult (.var 2) (.int (16807))) (.bin .Mod (.var 3) (.int (2147483563)))) (.int (3))) (.int (2147483647)))) .nil)) [some (.frl (xs.map .int)), some (.ref 1), some (.int 8191), none] [.lst (ys.map .int), .lst (ys.map .int)] = some (.nx, [some (.frl (xs.map .int)), some (.ref 1), some (.int s'), c'], [.lst (ys.map .int), .lst (ys.map .int)]) := by
    have hv : evEs (CC L) (.cons (.var 1) .nil) [some (.frl (xs.map .int)), some (.ref 1), some (.int 8191), none] [.lst (ys.map .int), .lst (ys.map .int)] = some ([.ref 1], [.lst (ys.map .int), .lst (ys.map .int)]) := by simp [evEs, evE, bnd, isLam]
    have hi : itD .val [.ref 1] [.lst (ys.map .int), .lst (ys.map .int)] = some (ys.map .int, [1]) := by simp [itD, itV]
    have hf : [1].foldl froz [.lst (ys.map .int), .lst (ys.map .int)] = [.lst (ys.map .int), .fro (ys.map .int)] := by simp [froz]
    simp only [exS, bnS, hv, hi, hf, e2]
    simp [thaw]
  refine ⟨[.lst (ys.map .int), .lst (ys.map .int), .lst (ys.reverse.map .int), .lst [.ref 2, .int s', .int 0]], ?_, ⟨by decide, ys.reverse, s', 0, rfl, rfl, by simpa using hyl⟩, rfl⟩
  have e4 : exS (CC L) (.ret (.lstE (.cons (.rev (.var 1)) (.cons (.var 2) (.cons (.int (0)) .nil))))) [some (.frl (xs.map .int)), some (.ref 1), some (.int s'), c'] [.lst (ys.map .int), .lst (ys.map .int)] = some (.rt (.ref 3), [some (.frl (xs.map .int)), some (.ref 1), some (.int s'), c'], [.lst (ys.map .int), .lst (ys.map .int), .lst (ys.reverse.map .int), .lst [.ref 2, .int s', .int 0]]) := by
    simp [exS, evE, evEs, bnS, bnd, isLam, lstD, new, line]
  rw [show c9 = .cons (.set (.tup [1, 2]) (.tupE (.cons (.col .val (.cons (.slc (.var 0) .no (.so (.int (63)))) .nil)) (.cons (.int (8191)) .nil)))) (.cons (.for_ (.name 3) .val (.cons (.var 1) .nil) (.cons (.set (.name 2) (.bin .Mod (.bin .Add (.bin .Add (.bin .Mult (.var 2) (.int (16807))) (.bin .Mod (.var 3) (.int (2147483563)))) (.int (3))) (.int (2147483647)))) .nil)) (.cons (.ret (.lstE (.cons (.rev (.var 1)) (.cons (.var 2) (.cons (.int (0)) .nil))))) .nil)) from rfl, ex_nx e1, ex_nx e3, ex_rt e4]
  rfl
end K01
end
section
set_option Elab.async false
set_option linter.all false
set_option maxRecDepth 100000
set_option maxHeartbeats 1000000
namespace K01
open PySem PC
/-- the kinds of things that are asked -/
inductive Kd (S : Sto) : D → Prop where
  | non : Kd S .non
  | bl (b : Bool) : Kd S (.bl b)
  | int (i : Int) : Kd S (.int i)
  | str (x : Str) (h : x.length ≤ 16777216) : Kd S (.str x)
  | tup (xs : List D) : Kd S (.tup xs)
  | lst (n : Nat) (xs : List D) (h : S[n]? = some (.lst xs)) : Kd S (.ref n)
  | dk (n : Nat) (kvs : List (Ky × D)) (h : S[n]? = some (.dk kvs)) : Kd S (.ref n)
theorem Kd.app {S : Sto} {d : D} (k : Kd S d) (T : Sto) : Kd (S ++ T) d := by
  cases k with
  | lst n xs h => exact .lst n xs (by rw [List.getElem?_append_left (List.getElem?_eq_some_iff.mp h).1]; exact h)
  | dk n xs h => exact .dk n xs (by rw [List.getElem?_append_left (List.getElem?_eq_some_iff.mp h).1]; exact h)
  | non => exact .non
  | bl b => exact .bl b
  | int i => exact .int i
  | str x h => exact .str x h
  | tup xs => exact .tup xs
theorem Kd.lam {S : Sto} {d : D} (k : Kd S d) : isLam d = false := by cases k <;> rfl
def wordsL : List Str := ["sum", "less", "times", "over", "below", "same"]
def letB (c : Nat) : Bool := decide (97 ≤ c) && decide (c ≤ 122)
def nameB (x : Str) : Bool := decide (1 ≤ x.length) && decide (x.length ≤ 8) && !decide (x ∈ wordsL) && x.cps.toList.all letB
def nameD : D → Bool
  | .str x => nameB x
  | _ => false
def wholeD (d : D) (last : Int) : Bool := match d with
  | .int i => decide (0 ≤ i) && decide (i ≤ last)
  | _ => false
theorem isi_str {S : Sto} {d : D} (k : Kd S d) : isiD d S [.str] = some (match d with | .str _ => true | _ => false) := by
  cases k with
  | lst n xs h => simp [isiD, tyD, h]; rfl
  | dk n xs h => simp [isiD, tyD, h]; rfl
  | _ => rfl
theorem isi_int {S : Sto} {d : D} (k : Kd S d) : isiD d S [.int] = some (match d with | .int _ => true | .bl _ => true | _ => false) := by
  cases k with
  | lst n xs h => simp [isiD, tyD, h]; rfl
  | dk n xs h => simp [isiD, tyD, h]; rfl
  | _ => rfl
theorem isi_bool {S : Sto} {d : D} (k : Kd S d) : isiD d S [.bool] = some (match d with | .bl _ => true | _ => false) := by
  cases k with
  | lst n xs h => simp [isiD, tyD, h]; rfl
  | dk n xs h => simp [isiD, tyD, h]; rfl
  | _ => rfl
/-! ### is it whole -/
theorem whole_ok {L : Nat} {S : Sto} {d : D} (k : Kd S d) (last : Int) : (CC (L + 1)).fn 16 [d, .int last] S = some (.bl (wholeD d last), S) := by
  rw [fn_eq (F := ⟨2, 2, c16⟩) rfl rfl]
  show endD (exSs (CC L) c16 [some d, some (.int last)] S) = _
  have h1 := isi_int k
  have h2 := isi_bool k
  have h3 := k.lam
  cases k with
  | int i =>
    by_cases hi : (0 : Int) ≤ i
    · simp [c16, exSs, exS, evE, bnS, bnd, isLam, h1, h2, giv, truD, cmpD, endD, wholeD, hi]
    · simp [c16, exSs, exS, evE, bnS, bnd, isLam, h1, h2, giv, truD, cmpD, endD, wholeD, hi]
  | bl b => simp [c16, exSs, exS, evE, bnS, bnd, isLam, h1, h2, giv, truD, endD, wholeD]
  | _ => simp [c16, exSs, exS, evE, bnS, bnd, isLam, h1, h2, giv, truD, endD, wholeD]
theorem isw_ok {L : Nat} {S : Sto} {d : D} (k : Kd S d) : (CC (L + 1)).fn 0 [d] S = some (.bl (match d with | .int _ => true | _ => false), S) := by
  rw [fn_eq (F := ⟨1, 1, c0⟩) rfl rfl]
  show endD (exSs (CC L) c0 [some d] S) = _
  have h1 := isi_int k
  have h2 := isi_bool k
  cases k <;> simp [c0, exSs, exS, evE, bnS, bnd, isLam, h1, h2, giv, truD, endD]
theorem upto_ok {L : Nat} {S : Sto} {d : D} (k : Kd S d) (last : Int) : (CC (L + 2)).fn 1 [d, .int last] S = some (.bl (wholeD d last), S) := by
  rw [show L + 2 = (L + 1) + 1 from rfl, fn_eq (F := ⟨2, 2, c1⟩) rfl rfl]
  show endD (exSs (CC (L + 1)) c1 [some d, some (.int last)] S) = _
  have h1 := isw_ok (L := L) k
  cases k with
  | int i =>
    by_cases hi : (0 : Int) ≤ i
    · simp [c1, exSs, exS, evE, evEs, bnS, bnd, isLam, h1, giv, callIx, truD, cmpD, endD, wholeD, hi]
    · simp [c1, exSs, exS, evE, evEs, bnS, bnd, isLam, h1, giv, callIx, truD, cmpD, endD, wholeD, hi]
  | _ => simp [c1, exSs, exS, evE, evEs, bnS, bnd, isLam, h1, giv, callIx, truD, endD, wholeD]
theorem glo_at {L g : Nat} {d : D} {e : En} {S : Sto} (h : glos[g]? = some d) : evE (CC L) (.glo g) e S = some (d, S) := by
  simp only [evE]
  rw [cP, show prog.glos[g]? = some d from h]
  rfl
theorem num_ok {L : Nat} {S : Sto} {d : D} (k : Kd S d) : (CC (L + 3)).fn 3 [d] S = some (.bl (wholeD d 65535), S) := by
  rw [show L + 3 = (L + 2) + 1 from rfl, fn_eq (F := ⟨1, 1, c3⟩) rfl rfl]
  show endD (exSs (CC (L + 2)) c3 [some d] S) = _
  have h1 := upto_ok (L := L) k 65535
  have g := glo_at (L := L + 2) (g := 0) (e := [some d]) (S := S) rfl
  have hl := k.lam
  simp only [c3, exSs, exS, bnS]
  simp only [evE] at g
  simp [evE, evEs, bnd, hl, g, binD, callIx, h1, endD]
theorem dep_ok {L : Nat} {S : Sto} {d : D} (k : Kd S d) : (CC (L + 3)).fn 4 [d] S = some (.bl (wholeD d 3), S) := by
  rw [show L + 3 = (L + 2) + 1 from rfl, fn_eq (F := ⟨1, 1, c4⟩) rfl rfl]
  show endD (exSs (CC (L + 2)) c4 [some d] S) = _
  have h1 := upto_ok (L := L) k 3
  have g := glo_at (L := L + 2) (g := 3) (e := [some d]) (S := S) rfl
  have hl := k.lam
  simp only [c4, exSs, exS, bnS]
  simp only [evE] at g
  simp [evE, evEs, bnd, hl, g, binD, callIx, h1, endD]
end K01
end
section
set_option Elab.async false
set_option linter.all false
set_option maxRecDepth 100000
set_option maxHeartbeats 1000000
namespace K01
open PySem PC
theorem ev_i {C : Cal} {i : Int} {e : En} {S : Sto} : evE C (.int i) e S = some (.int i, S) := by simp only [evE]
theorem ev_s {C : Cal} {x : Str} {e : En} {S : Sto} : evE C (.str x) e S = some (.str x, S) := by simp only [evE]
theorem ev_b {C : Cal} {b : Bool} {e : En} {S : Sto} : evE C (.bl b) e S = some (.bl b, S) := by simp only [evE]
theorem om_strs {S : Sto} : ∀ ws : List Str, optMap (rdQ S) (ws.map .str) = some (ws.map .str)
  | [] => rfl
  | x :: xs => om_cons rfl (om_strs xs)
theorem eqv_str (a b : Str) : (PyData.str a).eqv (.str b) = decide (a = b) := by
  simp only [PyData.eqv]
  rfl
theorem any_strs (x : Str) : ∀ ws : List Str, (ws.map PyData.str).any (fun q => q.eqv (.str x)) = decide (x ∈ ws)
  | [] => rfl
  | w :: ws => by
    rw [List.map_cons, List.any_cons, eqv_str, any_strs x ws]
    by_cases h1 : w = x
    · subst h1; simp
    · have h2 : ¬ x = w := fun z => h1 z.symm
      simp [h1, h2]
theorem in_strs {S : Sto} (x : Str) (ws : List Str) : inD (.str x) (ws.map .str) S = some (decide (x ∈ ws)) := by
  unfold inD
  rw [show rdQ S (.str x) = some (.str x) from rfl, om_strs]
  simp only [any_strs]
theorem letters_eq : (("abcdefghijklmnopqrstuvwxyz" : Str)).cps.toList = (List.range 26).map (97 + ·) := by decide +kernel
theorem mem_letters (c : Nat) : decide (c ∈ (("abcdefghijklmnopqrstuvwxyz" : Str)).cps.toList) = letB c := by
  rw [letters_eq]
  unfold letB
  by_cases h1 : 97 ≤ c
  · by_cases h2 : c ≤ 122
    · have : c ∈ (List.range 26).map (97 + ·) := List.mem_map.mpr ⟨c - 97, List.mem_range.mpr (by omega), by omega⟩
      simp [this, h1, h2]
    · have : c ∉ (List.range 26).map (97 + ·) := fun z => by
        obtain ⟨k, hk, e⟩ := List.mem_map.mp z
        have := List.mem_range.mp hk
        omega
      simp [this, h1, h2]
  · have : c ∉ (List.range 26).map (97 + ·) := fun z => by
      obtain ⟨k, hk, e⟩ := List.mem_map.mp z
      omega
    simp [this, h1]
theorem signs_loop {L : Nat} {a : Option D} {S : Sto} (t : CEs) (f : CE) (g : Nat → Option Bool) (ht : ∀ (c : Nat), (tstEs (CC L) t [a, some (.str ⟨#[c]⟩)] S) = (g c).map fun b => (b, S)) (h : Nat → D) (hf : ∀ c : Nat, g c = some true → evE (CC L) f [a, some (.str ⟨#[c]⟩)] S = some (h c, S)) (hg : ∀ c, (g c).isSome = true) :
    ∀ cs : List Nat, lcLoop (lcTn (tstEs (CC L) t) (evE (CC L) f) (.name 1) [a, none]) (cs.map fun c => .str ⟨#[c]⟩) S = some ((cs.filter fun c => g c == some true).map h, S)
  | [] => rfl
  | c :: cs => by
    have ih := signs_loop t f g ht h hf hg cs
    rw [List.map_cons, lcLoop]
    have hc := hg c
    cases hgc : g c with
    | none => rw [hgc] at hc; cases hc
    | some b =>
      have h1 := ht c
      rw [hgc] at h1
      cases b with
      | true =>
        have h2 := hf c hgc
        simp [lcTn, putT, h1, h2, ih, hgc]
      | false => simp [lcTn, putT, h1, ih, hgc]
theorem om_bool : ∀ bs : List Bool, optMap boolD (bs.map .bl) = some bs
  | [] => rfl
  | b :: bs => om_cons rfl (om_bool bs)
theorem is_name_ok {L : Nat} {S : Sto} {d : D} (k : Kd S d) : ∃ T, (CC (L + 1)).fn 2 [d] S = some (.bl (nameD d), S ++ T) := by
  rw [fn_eq (F := ⟨1, 2, c2⟩) rfl rfl]
  show ∃ T, endD (exSs (CC L) c2 [some d, none] S) = _
  have h1 := isi_str k
  have hl := k.lam
  have g2 : ∀ e S, evE (CC L) (.glo 2) e S = some (.int 8, S) := fun e S => glo_at rfl
  have g11 : ∀ e S, evE (CC L) (.glo 11) e S = some (.tup (wordsL.map .str), S) := fun e S => glo_at rfl
  have g1 : ∀ e S, evE (CC L) (.glo 1) e S = some (.str "abcdefghijklmnopqrstuvwxyz", S) := fun e S => glo_at rfl
  by_cases hs : ∃ x, d = .str x
  · obtain ⟨x, rfl⟩ := hs
    have hx : x.length ≤ 16777216 := by
      cases k
      assumption
    have tst : tstE (CC L) (.orE (.notE (.isi (.var 0) [.str])) (.orE (.notE (.chain .LtE .LtE (.int (1)) (.bi .len (.cons (.var 0) .nil)) (.glo 2))) (.cmp .In (.var 0) (.glo 11)))) [some (.str x), none] S = some (!(decide (1 ≤ x.length) && decide (x.length ≤ 8) && !decide (x ∈ wordsL)), S) := by
      have hin : cmpD .In (.str x) (.tup (wordsL.map .str)) S = some (decide (x ∈ wordsL)) := in_strs (S := S) x wordsL
      have hlen : evE (CC L) (.bi .len (.cons (.var 0) .nil)) [some (.str x), none] S = some (.int x.length, S) := by
        simp [evE, evEs, bnd, isLam, biD, bi1, lenD, hx, giv, line]
      have hv : evE (CC L) (.var 0) [some (.str x), none] S = some (.str x, S) := by simp [evE, isLam]
      have hch : evE (CC L) (.chain .LtE .LtE (.int (1)) (.bi .len (.cons (.var 0) .nil)) (.glo 2)) [some (.str x), none] S = some (.bl (decide (1 ≤ x.length) && decide (x.length ≤ 8)), S) := by
        rw [evE]
        simp only [hlen, g2, bnd, ev_i, cmpD]
        by_cases q1 : 1 ≤ x.length
        · have q1' : (1 : Int) ≤ x.length := by omega
          by_cases q2 : x.length ≤ 8
          · have q2' : (x.length : Int) ≤ 8 := by omega
            simp [q1, q1', q2, q2', giv]
          · have q2' : ¬ (x.length : Int) ≤ 8 := by omega
            simp [q1, q1', q2, q2', giv]
        · have q1' : ¬ (1 : Int) ≤ x.length := by omega
          simp [q1, q1']
      have hcm : evE (CC L) (.cmp .In (.var 0) (.glo 11)) [some (.str x), none] S = some (.bl (decide (x ∈ wordsL)), S) := by
        rw [evE]
        simp only [hv, g11, bnd, hin, Option.map_some, giv]
      have hi : evE (CC L) (.isi (.var 0) [.str]) [some (.str x), none] S = some (.bl true, S) := by
        rw [evE]
        simp only [hv, bnd, h1, Option.map_some, giv]
      unfold tstE
      rw [evE, evE, hi]
      simp only [bnd, truD, Option.map_some, giv, Bool.not_true]
      rw [evE, evE, hch]
      simp only [bnd, truD, Option.map_some, giv]
      cases (decide (1 ≤ x.length) && decide (x.length ≤ 8)) with
      | true => simp [hcm, truD]
      | false => simp [truD]
    have hnm : nameD (.str x) = nameB x := rfl
    rw [hnm]
    unfold nameB
    cases hq : (decide (1 ≤ x.length) && decide (x.length ≤ 8) && !decide (x ∈ wordsL)) with
    | false =>
      refine ⟨[], ?_⟩
      rw [hq] at tst
      simp only [c2, exSs, exS, tst, bnS, Bool.not_false]
      simp [evE, exSs, exS, bnS, endD]
    | true =>
      rw [hq] at tst
      refine ⟨[.lst (x.cps.toList.map fun c => .bl (letB c))], ?_⟩
      have loop := signs_loop (L := L) (a := some (.str x)) (S := S) .nil (.cmp .In (.var 1) (.glo 1)) (fun _ => some true) (fun c => by simp only [tstEs, Option.map_some]) (fun c => .bl (letB c)) (fun c _ => by
        rw [evE]
        have hv : evE (CC L) (.var 1) [some (.str x), some (.str ⟨#[c]⟩)] S = some (.str ⟨#[c]⟩, S) := by simp [evE, isLam]
        simp only [hv, g1, bnd, cmpD, cmpD.isIn]
        simp only [mem_letters, Option.map_some, giv]) (fun _ => rfl) x.cps.toList
      have hfil : (x.cps.toList.filter fun c => (some true == some true)) = x.cps.toList := List.filter_eq_self.mpr fun _ _ => rfl
      rw [hfil] at loop
      have hlc : evE (CC L) (.lc (.cmp .In (.var 1) (.glo 1)) (.name 1) .val (.cons (.var 0) .nil) .nil [1]) [some (.str x), none] S = some (.ref S.length, S ++ [.lst (x.cps.toList.map fun c => .bl (letB c))]) := by
        have hs8 : x.length ≤ 8 := by
          simp only [Bool.and_eq_true, decide_eq_true_eq] at hq
          exact hq.1.2
        rw [evE]
        have hv : evEs (CC L) (.cons (.var 0) .nil) [some (.str x), none] S = some ([.str x], S) := by simp [evEs, evE, bnd, isLam]
        simp only [hv, bnd, lcRun, itD, itV, wipe, List.foldl_nil]
        rw [show ([some (D.str x), none] : En).set 1 none = [some (D.str x), none] from rfl, loop]
        simp only
        rw [if_pos]
        · rfl
        · rw [List.length_map, Array.length_toList]
          exact Nat.lt_of_le_of_lt hs8 (by decide)
      simp only [c2, exSs, exS, tst, bnS, Bool.not_true]
      have hall : evE (CC L) (.bi .all (.cons (.lc (.cmp .In (.var 1) (.glo 1)) (.name 1) .val (.cons (.var 0) .nil) .nil [1]) .nil)) [some (.str x), none] S = some (.bl (x.cps.toList.all letB), S ++ [.lst (x.cps.toList.map fun c => .bl (letB c))]) := by
        rw [evE]
        simp only [evEs, hlc, bnd, biD, bi1]
        have : lstD (.ref S.length) (S ++ [Ob.lst (x.cps.toList.map fun c => D.bl (letB c))]) = some ((x.cps.toList.map letB).map .bl) := by
          unfold lstD
          simp
        rw [this]
        simp only [Option.bind_some, om_bool, Option.map_some, giv, List.all_map]
        rfl
      rw [hall]
      simp [endD]
  · refine ⟨[], ?_⟩
    have hf : isiD d S [.str] = some false := by
      rw [h1]
      cases d <;> first
        | rfl
        | exact absurd ⟨_, rfl⟩ hs
    have hn : nameD d = false := by
      cases d <;> first
        | rfl
        | exact absurd ⟨_, rfl⟩ hs
    simp [c2, exSs, exS, tstE, evE, bnS, bnd, hl, hf, giv, truD, endD, hn]
end K01
end
section
set_option Elab.async false
set_option linter.all false
set_option maxRecDepth 100000
set_option maxHeartbeats 1000000
namespace K01
open PySem PC
section
variable {C : Cal} {e : En} {S S1 : Sto} {c x : CE} {A B : CSs} {d : D} {i : Nat}
theorem x_ret (h : evE C x e S = some (d, S1)) : exS C (.ret x) e S = some (.rt d, e, S1) := by simp only [exS, h, bnS]
theorem x_set (h : evE C x e S = some (d, S1)) : exS C (.set (.name i) x) e S = some (.nx, e.set i (some d), S1) := by simp only [exS, h, bnS, putT, Option.map_some]
theorem x_exp (h : evE C x e S = some (d, S1)) : exS C (.exp x) e S = some (.nx, e, S1) := by simp only [exS, h, bnS]
theorem x_no (h : tstE C c e S = some (false, S1)) : exS C (.ifS c A .nil) e S = some (.nx, e, S1) := by simp only [exS, h, bnS, exSs]
theorem x_yes (h : tstE C c e S = some (true, S1)) : exS C (.ifS c A B) e S = exSs C A e S1 := by simp only [exS, h, bnS]
theorem x_els (h : tstE C c e S = some (false, S1)) : exS C (.ifS c A B) e S = exSs C B e S1 := by simp only [exS, h, bnS]
theorem x_no1 (h : tstE C c e S = some (true, S1)) (h2 : evE C x e S1 = some (d, S)) : True := trivial
end
theorem rd_strs {S : Sto} {c : Nat} {xs : List Str} (h : S[c]? = some (.lst (xs.map .str))) : rdQ S (.ref c) = some (.list (xs.map .str)) := by
  have om : ∀ (k : Nat) (xs : List Str), optMap (rdP (k + 1) S) (xs.map .str) = some (xs.map .str) := by
    intro k xs
    induction xs with
    | nil => rfl
    | cons x xs ih => exact om_cons rd_str ih
  have nd : ∀ xs : List Str, noDs (xs.map .str) = true := by
    intro xs
    induction xs with
    | nil => rfl
    | cons x xs ih => simp only [List.map_cons, noDs, noD, ih]; rfl
  unfold rdQ
  rw [rd_lst h, om]
  simp only [Option.map_some, noD, nd, if_true]
theorem lt_one (a b : Nat) : decide (([a] : List Nat) < [b]) = decide (a < b) := by
  have h : (([a] : List Nat) < [b]) ↔ a < b := by
    rw [List.cons_lt_cons_iff]
    simp
  exact decide_eq_decide.mpr h
theorem cmp_a (c : Nat) {S : Sto} : cmpD .LtE (.str "a") (.str ⟨#[c]⟩) S = some (decide (97 ≤ c)) := by
  show some (!decide ((⟨#[c]⟩ : Str).cps.toList < ("a" : Str).cps.toList)) = _
  have e : ("a" : Str).cps.toList = [97] := by decide +kernel
  rw [e]
  show some (!decide (([c] : List Nat) < [97])) = _
  rw [lt_one]
  by_cases h : c < 97
  · have : ¬ 97 ≤ c := by omega
    simp [h, this]
  · have : 97 ≤ c := by omega
    simp [h, this]
theorem cmp_z (c : Nat) {S : Sto} : cmpD .LtE (.str ⟨#[c]⟩) (.str "z") S = some (decide (c ≤ 122)) := by
  show some (!decide (("z" : Str).cps.toList < (⟨#[c]⟩ : Str).cps.toList)) = _
  have e : ("z" : Str).cps.toList = [122] := by decide +kernel
  rw [e]
  show some (!decide (([122] : List Nat) < [c])) = _
  rw [lt_one]
  by_cases h : 122 < c
  · have : ¬ c ≤ 122 := by omega
    simp [h, this]
  · have : c ≤ 122 := by omega
    simp [h, this]
theorem law_name_ok {L : Nat} {S : Sto} {d : D} (k : Kd S d) : ∃ T, (CC (L + 1)).fn 15 [d] S = some (.bl (nameD d), S ++ T) := by
  rw [fn_eq (F := ⟨1, 2, c15⟩) rfl rfl]
  show ∃ T, endD (exSs (CC L) c15 [some d, none] S) = _
  have h1 := isi_str k
  have hl := k.lam
  by_cases hs : ∃ x, d = .str x
  · obtain ⟨x, rfl⟩ := hs
    have hx : x.length ≤ 16777216 := by
      cases k
      assumption
    have hv : ∀ S, evE (CC L) (.var 0) [some (.str x), none] S = some (.str x, S) := fun S => by simp [evE, isLam]
    have hlen : evE (CC L) (.bi .len (.cons (.var 0) .nil)) [some (.str x), none] S = some (.int x.length, S) := by
      simp [evE, evEs, bnd, isLam, biD, bi1, lenD, hx, giv, line]
    have hi : evE (CC L) (.isi (.var 0) [.str]) [some (.str x), none] S = some (.bl true, S) := by
      rw [evE]
      simp only [hv, bnd, h1, Option.map_some, giv]
    have hlt : evE (CC L) (.cmp .Lt (.bi .len (.cons (.var 0) .nil)) (.int (1))) [some (.str x), none] S = some (.bl (!decide (1 ≤ x.length)), S) := by
      rw [evE]
      simp only [hlen, bnd, ev_i, cmpD, Option.map_some, giv]
      by_cases q : 1 ≤ x.length
      · have q' : ¬ (x.length : Int) < 1 := by omega
        simp [q, q']
      · have q' : (x.length : Int) < 1 := by omega
        simp [q, q']
    have hgt : evE (CC L) (.cmp .Gt (.bi .len (.cons (.var 0) .nil)) (.int (8))) [some (.str x), none] S = some (.bl (!decide (x.length ≤ 8)), S) := by
      rw [evE]
      simp only [hlen, bnd, ev_i, cmpD, Option.map_some, giv]
      by_cases q : x.length ≤ 8
      · have q' : ¬ (8 : Int) < x.length := by omega
        simp [q, q']
      · have q' : (8 : Int) < x.length := by omega
        simp [q, q']
    have tst : tstE (CC L) (.orE (.notE (.isi (.var 0) [.str])) (.orE (.cmp .Lt (.bi .len (.cons (.var 0) .nil)) (.int (1))) (.cmp .Gt (.bi .len (.cons (.var 0) .nil)) (.int (8))))) [some (.str x), none] S = some (!(decide (1 ≤ x.length) && decide (x.length ≤ 8)), S) := by
      unfold tstE
      rw [evE, evE, hi]
      simp only [bnd, truD, Option.map_some, giv, Bool.not_true]
      rw [evE, hlt]
      simp only [bnd, truD]
      cases decide (1 ≤ x.length) with
      | true => simp [hgt, truD]
      | false => simp [truD]
    rw [show nameD (.str x) = nameB x from rfl]
    unfold nameB
    cases hq : (decide (1 ≤ x.length) && decide (x.length ≤ 8)) with
    | false =>
      refine ⟨[], ?_⟩
      rw [hq] at tst
      rw [show c15 = .cons _ _ from rfl, ex_rt ((x_yes tst).trans (ex_rt (x_ret ev_b)))]
      simp [endD]
    | true =>
      rw [hq] at tst
      let S1 : Sto := S ++ [.lst (wordsL.map .str)]
      have s1 : S1[S.length]? = some (.lst (wordsL.map .str)) := by simp [S1]
      have hls : evE (CC L) (.lstE (.cons (.str "sum") (.cons (.str "less") (.cons (.str "times") (.cons (.str "over") (.cons (.str "below") (.cons (.str "same") .nil))))))) [some (.str x), none] S = some (.ref S.length, S1) := by
        rw [evE]
        simp only [evEs, ev_s, bnd]
        rfl
      have tst2 : tstE (CC L) (.cmp .In (.var 0) (.lstE (.cons (.str "sum") (.cons (.str "less") (.cons (.str "times") (.cons (.str "over") (.cons (.str "below") (.cons (.str "same") .nil)))))))) [some (.str x), none] S = some (decide (x ∈ wordsL), S1) := by
        have hin : cmpD .In (.str x) (.ref S.length) S1 = some (decide (x ∈ wordsL)) := by
          show cmpD.isIn (.str x) (.ref S.length) S1 = _
          unfold cmpD.isIn
          simp only [s1]
          exact in_strs (S := S1) x wordsL
        unfold tstE
        rw [evE]
        simp only [hv, hls, bnd, hin, Option.map_some, giv, truD]
      rw [show c15 = .cons _ _ from rfl, ex_nx (x_no tst)]
      by_cases hw : x ∈ wordsL
      · refine ⟨[.lst (wordsL.map .str)], ?_⟩
        have tst3 := tst2
        rw [decide_eq_true hw] at tst3
        rw [ex_rt ((x_yes tst3).trans (ex_rt (x_ret ev_b)))]
        simp [endD, hw, S1]
      · have tst3 := tst2
        rw [decide_eq_false hw] at tst3
        rw [ex_nx (x_no tst3)]
        have hs8 : x.length ≤ 8 := by
          simp only [Bool.and_eq_true, decide_eq_true_eq] at hq
          exact hq.2
        have fl : ∀ cs : List Nat, (cs.filter fun c => (some (!letB c) == some true)) = cs.filter fun c => !letB c := fun cs => by
          congr 1
          funext c
          cases letB c <;> rfl
        have ht : ∀ (c : Nat), tstEs (CC L) (.cons (.notE (.chain .LtE .LtE (.str "a") (.var 1) (.str "z"))) .nil) [some (.str x), some (.str ⟨#[c]⟩)] S1 = ((some (!letB c) : Option Bool)).map fun b => (b, S1) := fun c => by
          have hv1 : evE (CC L) (.var 1) [some (.str x), some (.str ⟨#[c]⟩)] S1 = some (.str ⟨#[c]⟩, S1) := by simp [evE, isLam]
          have hc : evE (CC L) (.chain .LtE .LtE (.str "a") (.var 1) (.str "z")) [some (.str x), some (.str ⟨#[c]⟩)] S1 = some (.bl (letB c), S1) := by
            rw [evE]
            simp only [ev_s, hv1, bnd, cmp_a, cmp_z, Option.map_some, giv]
            unfold letB
            cases decide (97 ≤ c) <;> simp
          have hn : evE (CC L) (.notE (.chain .LtE .LtE (.str "a") (.var 1) (.str "z"))) [some (.str x), some (.str ⟨#[c]⟩)] S1 = some (.bl (!letB c), S1) := by
            rw [evE]
            simp only [hc, bnd, truD, Option.map_some, giv]
          simp only [tstEs, hn, bnd, truD, Option.map_some]
          cases letB c <;> simp
        have loop := signs_loop (L := L) (a := some (.str x)) (S := S1) (.cons (.notE (.chain .LtE .LtE (.str "a") (.var 1) (.str "z"))) .nil) (.var 1) (fun c => some (!letB c)) ht (fun c => .str ⟨#[c]⟩) (fun c _ => by simp [evE, isLam]) (fun _ => rfl) x.cps.toList
        rw [fl] at loop
        let ys : List Str := (x.cps.toList.filter fun c => !letB c).map fun c => ⟨#[c]⟩
        have ey : ((x.cps.toList.filter fun c => !letB c).map fun c => D.str ⟨#[c]⟩) = ys.map .str := by simp [ys]
        rw [ey] at loop
        let S2 : Sto := S1 ++ [.lst (ys.map .str)]
        have hlc : evE (CC L) (.lc (.var 1) (.name 1) .val (.cons (.var 0) .nil) (.cons (.notE (.chain .LtE .LtE (.str "a") (.var 1) (.str "z"))) .nil) [1]) [some (.str x), none] S1 = some (.ref S1.length, S2) := by
          rw [evE]
          have hv0 : evEs (CC L) (.cons (.var 0) .nil) [some (.str x), none] S1 = some ([.str x], S1) := by simp [evEs, evE, bnd, isLam]
          simp only [hv0, bnd, lcRun, itD, itV, wipe, List.foldl_nil]
          rw [show ([some (D.str x), none] : En).set 1 none = [some (D.str x), none] from rfl, loop]
          simp only
          rw [if_pos]
          · rfl
          · have q1 : ys.length ≤ x.length := by
              simp only [ys, List.length_map]
              exact Nat.le_trans (List.length_filter_le _ _) (by rw [Array.length_toList]; exact Nat.le_refl _)
            rw [List.length_map]
            exact Nat.lt_of_le_of_lt (Nat.le_trans q1 hs8) (by decide)
        let S3 : Sto := S2 ++ [.lst []]
        have hnil : evE (CC L) (.lstE .nil) [some (.str x), none] S2 = some (.ref S2.length, S3) := by
          rw [evE]
          simp only [evEs, bnd]
          rfl
        have s3a : S3[S1.length]? = some (.lst (ys.map .str)) := by simp [S3, S2]
        have s3b : S3[S2.length]? = some (.lst []) := by simp [S3]
        have heq : cmpD .Eq (.ref S1.length) (.ref S2.length) S3 = some (x.cps.toList.all letB) := by
          simp only [cmpD, eqD, rd_strs s3a, rd_nil s3b, eqv_nil]
          congr 1
          simp only [ys]
          cases hh : x.cps.toList.all letB with
          | true =>
            have : (x.cps.toList.filter fun c => !letB c) = [] := by
              rw [List.filter_eq_nil_iff]
              intro c hc
              have := List.all_eq_true.mp hh c hc
              simp [this]
            rw [this]
            rfl
          | false =>
            obtain ⟨c, hc, hb⟩ := List.all_eq_false.mp hh
            have hm : c ∈ x.cps.toList.filter fun c => !letB c := List.mem_filter.mpr ⟨hc, by simpa using hb⟩
            cases hz : x.cps.toList.filter fun c => !letB c with
            | nil => rw [hz] at hm; cases hm
            | cons a r => rfl
        have fin : evE (CC L) (.cmp .Eq (.lc (.var 1) (.name 1) .val (.cons (.var 0) .nil) (.cons (.notE (.chain .LtE .LtE (.str "a") (.var 1) (.str "z"))) .nil) [1]) (.lstE .nil)) [some (.str x), none] S1 = some (.bl (x.cps.toList.all letB), S3) := by
          rw [evE]
          simp only [hlc, hnil, bnd, heq, Option.map_some, giv]
        refine ⟨[.lst (wordsL.map .str), .lst (ys.map .str), .lst []], ?_⟩
        rw [ex_rt (x_ret fin)]
        simp [endD, hw, S3, S2, S1]
  · refine ⟨[], ?_⟩
    have hf : isiD d S [.str] = some false := by
      rw [h1]
      cases d <;> first
        | rfl
        | exact absurd ⟨_, rfl⟩ hs
    have hn : nameD d = false := by
      cases d <;> first
        | rfl
        | exact absurd ⟨_, rfl⟩ hs
    simp [c15, exSs, exS, tstE, evE, bnS, bnd, hl, hf, giv, truD, endD, hn]
end K01
end
section
set_option Elab.async false
set_option linter.all false
set_option maxRecDepth 100000
set_option maxHeartbeats 1000000
namespace K01
open PySem PC
structure Itm (S : Sto) (d : D) : Prop where
  kd : Kd S d
  rp : ∃ t, ∀ T, reprD d (S ++ T) = some t
theorem Itm.app {S : Sto} {d : D} (h : Itm S d) (T : Sto) : Itm (S ++ T) d := ⟨h.kd.app T, by
  obtain ⟨t, q⟩ := h.rp
  exact ⟨t, fun U => by rw [List.append_assoc]; exact q _⟩⟩
def rb (a b c : Bool) : Str := PyData.shown (.list [.bool a, .bool b, .bool c])
theorem repr3 {S : Sto} {m : Nat} {a b c : Bool} (h : S[m]? = some (.lst [.bl a, .bl b, .bl c])) : reprD (.ref m) S = some (rb a b c) := by
  unfold reprD
  have e : rdP 60 S (.ref m) = some (.list [.bool a, .bool b, .bool c]) := by
    rw [rd_lst h]
    rfl
  rw [e]
  simp only
  rw [if_pos]
  · rfl
  · cases a <;> cases b <;> cases c <;> decide +kernel
/-- repr of a list of three truths -/
theorem ev_repr3 {C : Cal} {e : En} {S : Sto} {X Y Z : CE} {a b c : Bool} (hX : ∀ T, ∃ T', evE C X e (S ++ T) = some (.bl a, S ++ T')) (hY : ∀ T, ∃ T', evE C Y e (S ++ T) = some (.bl b, S ++ T')) (hZ : ∀ T, ∃ T', evE C Z e (S ++ T) = some (.bl c, S ++ T')) (T : Sto) :
    ∃ T', evE C (.bi .repr (.cons (.lstE (.cons X (.cons Y (.cons Z .nil)))) .nil)) e (S ++ T) = some (.str (rb a b c), S ++ T') := by
  obtain ⟨T1, h1⟩ := hX T
  obtain ⟨T2, h2⟩ := hY T1
  obtain ⟨T3, h3⟩ := hZ T2
  refine ⟨T3 ++ [.lst [.bl a, .bl b, .bl c]], ?_⟩
  have hl : evE C (.lstE (.cons X (.cons Y (.cons Z .nil)))) e (S ++ T) = some (.ref (S ++ T3).length, (S ++ T3) ++ [.lst [.bl a, .bl b, .bl c]]) := by
    rw [evE]
    simp only [evEs, h1, h2, h3, bnd]
    rfl
  rw [evE]
  simp only [evEs, hl, bnd, biD, bi1]
  rw [repr3 (a := a) (b := b) (c := c) (by simp), List.append_assoc]
  rfl
theorem ev_str2 {C : Cal} {e : En} {S S1 S2 : Sto} {x y : Str} {X Y : CE} (h1 : evE C X e S = some (.str x, S1)) (h2 : evE C Y e S1 = some (.str y, S2)) : evE C (.cmp .Eq X Y) e S = some (.bl (decide (x = y)), S2) ∧ evE C (.cmp .NotEq X Y) e S = some (.bl (!decide (x = y)), S2) := by
  have q : eqD (.str x) (.str y) S2 = some (decide (x = y)) := by
    unfold eqD
    rw [show rdQ S2 (.str x) = some (.str x) from rfl, show rdQ S2 (.str y) = some (.str y) from rfl]
    simp only [eqv_str]
  constructor
  · rw [evE]
    simp only [h1, h2, bnd, cmpD, q, Option.map_some, giv]
  · rw [evE]
    simp only [h1, h2, bnd, cmpD, q, Option.map_some, giv]
theorem right_ok {L : Nat} {S : Sto} {d : D} (h : Itm S d) : ∃ T, (CC (L + 4)).fn 17 [d] S = some (.bl true, S ++ T) := by
  obtain ⟨t, ht⟩ := h.rp
  have hl := h.kd.lam
  rw [show L + 4 = (L + 3) + 1 from rfl, fn_eq (F := ⟨1, 4, c17⟩) rfl rfl]
  show ∃ T, endD (exSs (CC (L + 3)) c17 [some d, none, none, none] S) = _
  have kd : ∀ T, Kd (S ++ T) d := fun T => h.kd.app T
  -- a call of one argument, by place or by name
  have call1 : ∀ (f : Nat) (b : Bool) (x y z : Option D) (ix : List Nat), (ix = [] ∨ ix = [0]) → (∀ T, ∃ T', (CC (L + 3)).fn f [d] (S ++ T) = some (.bl b, (S ++ T) ++ T')) → ∀ T, ∃ T', evE (CC (L + 3)) (.call f (.cons (.var 0) .nil) ix) [some d, x, y, z] (S ++ T) = some (.bl b, S ++ T') := by
    intro f b x y z ix hix hf T
    obtain ⟨T', e⟩ := hf T
    refine ⟨T ++ T', ?_⟩
    rw [← List.append_assoc, ← e]
    rcases hix with rfl | rfl <;> simp [evE, evEs, bnd, hl, callIx, optMap]
  have call2 : ∀ (last : Int) (x y z : Option D) (T : Sto), ∃ T', evE (CC (L + 3)) (.call 16 (.cons (.var 0) (.cons (.int last) .nil)) []) [some d, x, y, z] (S ++ T) = some (.bl (wholeD d last), S ++ T') := by
    intro last x y z T
    refine ⟨T, ?_⟩
    rw [← whole_ok (L := L + 2) (kd T) last]
    simp [evE, evEs, bnd, hl, callIx]
  have n1 : ∀ T, ∃ T', (CC (L + 3)).fn 15 [d] (S ++ T) = some (.bl (nameD d), (S ++ T) ++ T') := fun T => law_name_ok (L := L + 2) (kd T)
  have n2 : ∀ T, ∃ T', (CC (L + 3)).fn 2 [d] (S ++ T) = some (.bl (nameD d), (S ++ T) ++ T') := fun T => is_name_ok (L := L + 2) (kd T)
  have n3 : ∀ T, ∃ T', (CC (L + 3)).fn 3 [d] (S ++ T) = some (.bl (wholeD d 65535), (S ++ T) ++ T') := fun T => ⟨[], by rw [num_ok (L := L) (kd T)]; simp⟩
  have n4 : ∀ T, ∃ T', (CC (L + 3)).fn 4 [d] (S ++ T) = some (.bl (wholeD d 3), (S ++ T) ++ T') := fun T => ⟨[], by rw [dep_ok (L := L) (kd T)]; simp⟩
  let due := rb (nameD d) (wholeD d 65535) (wholeD d 3)
  have rep : ∀ (x y z : Option D) (T : Sto), evE (CC (L + 3)) (.bi .repr (.cons (.var 0) .nil)) [some d, x, y, z] (S ++ T) = some (.str t, S ++ T) := fun x y z T => by
    rw [evE]
    have hv : evEs (CC (L + 3)) (.cons (.var 0) .nil) [some d, x, y, z] (S ++ T) = some ([d], S ++ T) := by simp [evEs, evE, bnd, hl]
    simp only [hv, bnd, biD, bi1, ht T, Option.map_some, giv]
  obtain ⟨T1, r1⟩ := ev_repr3 (call1 15 _ none none none [] (.inl rfl) n1) (call2 65535 none none none) (call2 3 none none none) []
  rw [List.append_nil] at r1
  have e1 : exS (CC (L + 3)) (.set (.tup [1, 2]) (.tupE (.cons (.bi .repr (.cons (.var 0) .nil)) (.cons (.bi .repr (.cons (.lstE (.cons (.call 15 (.cons (.var 0) .nil) []) (.cons (.call 16 (.cons (.var 0) (.cons (.int (65535)) .nil)) []) (.cons (.call 16 (.cons (.var 0) (.cons (.int (3)) .nil)) []) .nil)))) .nil)) .nil)))) [some d, none, none, none] S = some (.nx, [some d, some (.str t), some (.str due), none], S ++ T1) := by
    have r0 := rep none none none []
    rw [List.append_nil] at r0
    have : evE (CC (L + 3)) (.tupE (.cons (.bi .repr (.cons (.var 0) .nil)) (.cons (.bi .repr (.cons (.lstE (.cons (.call 15 (.cons (.var 0) .nil) []) (.cons (.call 16 (.cons (.var 0) (.cons (.int (65535)) .nil)) []) (.cons (.call 16 (.cons (.var 0) (.cons (.int (3)) .nil)) []) .nil)))) .nil)) .nil))) [some d, none, none, none] S = some (.tup [.str t, .str due], S ++ T1) := by
      rw [evE]
      simp only [evEs, r0, r1, bnd]
      rfl
    simp only [exS, this, bnS]
    rfl
  rw [show c17 = .cons _ _ from rfl, ex_nx e1]
  -- one turn
  have turn : ∀ (z : Option D) (k : Int) (T : Sto), ∃ T', forB (exSs (CC (L + 3)) (.cons (.ifS (.cmp .NotEq (.bi .repr (.cons (.lstE (.cons (.call 2 (.cons (.var 0) .nil) []) (.cons (.call 3 (.cons (.var 0) .nil) []) (.cons (.call 4 (.cons (.var 0) .nil) []) .nil)))) .nil)) (.var 2)) (.cons (.ret (.bl false)) .nil) .nil) .nil)) (.name 3) (.int k) [some d, some (.str t), some (.str due), z] (S ++ T) = some (.nx, [some d, some (.str t), some (.str due), some (.int k)], S ++ T') := by
    intro z k T
    obtain ⟨T', r⟩ := ev_repr3 (call1 2 _ (some (.str t)) (some (.str due)) (some (.int k)) [] (.inl rfl) n2) (call1 3 _ (some (.str t)) (some (.str due)) (some (.int k)) [] (.inl rfl) n3) (call1 4 _ (some (.str t)) (some (.str due)) (some (.int k)) [] (.inl rfl) n4) T
    refine ⟨T', ?_⟩
    have hv : evE (CC (L + 3)) (.var 2) [some d, some (.str t), some (.str due), some (.int k)] (S ++ T') = some (.str due, S ++ T') := by simp [evE, isLam]
    have q := (ev_str2 r hv).2
    rw [show decide (rb (nameD d) (wholeD d 65535) (wholeD d 3) = due) = true from decide_eq_true rfl] at q
    have tst : tstE (CC (L + 3)) (.cmp .NotEq (.bi .repr (.cons (.lstE (.cons (.call 2 (.cons (.var 0) .nil) []) (.cons (.call 3 (.cons (.var 0) .nil) []) (.cons (.call 4 (.cons (.var 0) .nil) []) .nil)))) .nil)) (.var 2)) [some d, some (.str t), some (.str due), some (.int k)] (S ++ T) = some (false, S ++ T') := by
      unfold tstE
      rw [q]
      rfl
    show exSs (CC (L + 3)) _ [some d, some (.str t), some (.str due), some (.int k)] (S ++ T) = _
    rw [ex_nx (x_no tst)]
    simp only [exSs]
  obtain ⟨T2, t2⟩ := turn none 0 T1
  obtain ⟨T3, t3⟩ := turn (some (.int 0)) 1 T2
  have e2 : exS (CC (L + 3)) (.for_ (.name 3) .range (.cons (.int (2)) .nil) (.cons (.ifS (.cmp .NotEq (.bi .repr (.cons (.lstE (.cons (.call 2 (.cons (.var 0) .nil) []) (.cons (.call 3 (.cons (.var 0) .nil) []) (.cons (.call 4 (.cons (.var 0) .nil) []) .nil)))) .nil)) (.var 2)) (.cons (.ret (.bl false)) .nil) .nil) .nil)) [some d, some (.str t), some (.str due), none] (S ++ T1) = some (.nx, [some d, some (.str t), some (.str due), some (.int 1)], S ++ T3) := by
    have hi : itD .range [.int 2] (S ++ T1) = some ([.int 0, .int 1], []) := rfl
    simp only [exS, evEs, ev_i, bnd, bnS, hi, List.foldl_nil, forLoop, t2, t3]
  rw [ex_nx e2]
  obtain ⟨T4, r4⟩ := ev_repr3 (call1 2 _ (some (.str t)) (some (.str due)) (some (.int 1)) [0] (.inr rfl) n2) (call1 3 _ (some (.str t)) (some (.str due)) (some (.int 1)) [0] (.inr rfl) n3) (call1 4 _ (some (.str t)) (some (.str due)) (some (.int 1)) [0] (.inr rfl) n4) T3
  have hv2 : evE (CC (L + 3)) (.var 2) [some d, some (.str t), some (.str due), some (.int 1)] (S ++ T4) = some (.str due, S ++ T4) := by simp [evE, isLam]
  have hv1 : evE (CC (L + 3)) (.var 1) [some d, some (.str t), some (.str due), some (.int 1)] (S ++ T4) = some (.str t, S ++ T4) := by simp [evE, isLam]
  have q1 := (ev_str2 r4 hv2).1
  rw [show decide (rb (nameD d) (wholeD d 65535) (wholeD d 3) = due) = true from decide_eq_true rfl] at q1
  have q2 := (ev_str2 (rep (some (.str t)) (some (.str due)) (some (.int 1)) T4) hv1).1
  rw [decide_eq_true rfl] at q2
  refine ⟨T4, ?_⟩
  have fin : evE (CC (L + 3)) (.andE (.cmp .Eq (.bi .repr (.cons (.lstE (.cons (.call 2 (.cons (.var 0) .nil) [0]) (.cons (.call 3 (.cons (.var 0) .nil) [0]) (.cons (.call 4 (.cons (.var 0) .nil) [0]) .nil)))) .nil)) (.var 2)) (.cmp .Eq (.bi .repr (.cons (.var 0) .nil)) (.var 1))) [some d, some (.str t), some (.str due), some (.int 1)] (S ++ T3) = some (.bl true, S ++ T4) := by
    rw [evE, q1]
    simp only [bnd, truD, q2]
  rw [ex_rt (x_ret fin)]
  rfl
end K01
end
section
set_option Elab.async false
set_option linter.all false
set_option maxRecDepth 100000
set_option maxHeartbeats 1000000
namespace K01
open PySem PC
/-! ### texts by their signs -/
def sg (l : List Nat) : Str := ⟨l.toArray⟩
theorem sg_len (l : List Nat) : (sg l).length = l.length := by
  show (l.toArray).size = l.length
  simp
theorem sg_tl (l : List Nat) : (sg l).cps.toList = l := by simp [sg]
theorem sg_app (a b : List Nat) : sg a ++ sg b = sg (a ++ b) := TL.ext_tl (by
  rw [TL.tl_append]
  show (sg a).cps.toList ++ (sg b).cps.toList = (sg (a ++ b)).cps.toList
  rw [sg_tl, sg_tl, sg_tl])
theorem sg_eta (x : Str) : sg x.cps.toList = x := by
  cases x
  simp [sg]
theorem sg_inj {a b : List Nat} (h : sg a = sg b) : a = b := by
  have := congrArg (fun x : Str => x.cps.toList) h
  simpa [sg] using this
theorem cut_lo {l : List Nat} {k : Nat} (h : k ≤ l.length) : L2.cutS (sg l) (some (k : Int)) none = sg (l.drop k) := by
  unfold L2.cutS
  rw [HT.sIx_nat, HT.sIx_none, sg_tl, sg_len, Nat.min_eq_left h]
  show sg _ = _
  congr 1
  exact List.take_of_length_le (by simp)
theorem cut_hi {l : List Nat} {k : Nat} (h : k ≤ l.length) : L2.cutS (sg l) none (some (k : Int)) = sg (l.take k) := by
  unfold L2.cutS
  rw [HT.sIx_nat, HT.sIx_none, sg_tl, sg_len, Nat.min_eq_left h]
  simp [sg]
abbrev AZ : List Nat := (List.range 26).map (97 + ·)
theorem AZ_eq : ("abcdefghijklmnopqrstuvwxyz" : Str) = sg AZ := by
  rw [← sg_eta "abcdefghijklmnopqrstuvwxyz", letters_eq]
/-! ### loops that leave the store, loops that draw -/
theorem loop_pure {t : En → Sto → Re Bool} {f : En → Sto → Re D} {tg : Tg} {e : En} {S : Sto} {g : D → D} : ∀ xs : List D, (∀ x ∈ xs, lcTn t f tg e x S = some (some (g x), S)) → lcLoop (lcTn t f tg e) xs S = some (xs.map g, S)
  | [], _ => rfl
  | x :: xs, h => by
    rw [lcLoop, h x List.mem_cons_self]
    simp only [loop_pure xs fun y hy => h y (List.mem_cons_of_mem _ hy)]
    rfl
/-- a draw, written -/
theorem ev_draw {L n c w : Nat} {e : En} {S : Sto} (d : Dk n c S) (h0 : e[0]? = some (some (.ref n))) (hw : 0 < w) (hw2 : w < 1073741824) :
    ∃ r S', evE (CC (L + 1)) (.call 10 (.cons (.var 0) (.cons (.int (w : Int)) .nil)) []) e S = some (.int (r : Nat), S') ∧ r < w ∧ Dk n c S' ∧ Frm n c S S' := by
  obtain ⟨r, S', e1, r0, r1, d1, f1⟩ := draw_ok (L := L) (ways := (w : Int)) d (by omega) (by omega)
  have er : r = (r.toNat : Int) := by omega
  refine ⟨r.toNat, S', ?_, by omega, d1, f1⟩
  rw [← er, ← e1]
  simp [evE, evEs, bnd, h0, isLam, callIx]
theorem loop_letters {L n c : Nat} {e : En} (h0 : ∀ x, (e.set 7 x)[0]? = some (some (.ref n))) (h2 : ∀ x, (e.set 7 x)[2]? = some (some (.str (sg AZ)))) : ∀ (xs : List D) (S : Sto), Dk n c S →
    ∃ (cs : List Nat) (S' : Sto), lcLoop (lcTn (tstEs (CC (L + 1)) .nil) (evE (CC (L + 1)) (.idx (.var 2) (.call 10 (.cons (.var 0) (.cons (.int (26)) .nil)) []))) (.name 7) e) xs S = some (cs.map fun k => .str (sg [k]), S') ∧ cs.length = xs.length ∧ (∀ k ∈ cs, k ∈ AZ) ∧ Dk n c S' ∧ Frm n c S S'
  | [], S, d => ⟨[], S, rfl, rfl, fun k h => (by cases h), d, .refl⟩
  | x :: xs, S, d => by
    obtain ⟨r, S1, e1, r1, d1, f1⟩ := ev_draw (L := L) (w := 26) (e := e.set 7 (some x)) d (h0 _) (by decide) (by decide)
    obtain ⟨cs, S2, e2, l2, m2, d2, f2⟩ := loop_letters (L := L) h0 h2 xs S1 d1
    have hr : AZ[r]? = some (97 + r) := by
      rw [List.getElem?_map, List.getElem?_range r1]
      rfl
    refine ⟨(97 + r) :: cs, S2, ?_, by simp [l2], fun k hk => ?_, d2, f1.trans f2⟩
    · have hv : evE (CC (L + 1)) (.idx (.var 2) (.call 10 (.cons (.var 0) (.cons (.int (26)) .nil)) [])) (e.set 7 (some x)) S = some (.str (sg [97 + r]), S1) := by
        rw [evE]
        have hv2 : evE (CC (L + 1)) (.var 2) (e.set 7 (some x)) S = some (.str (sg AZ), S) := by simp only [evE, h2, isLam]; rfl
        have hi : idxD (.str (sg AZ)) (.int (r : Nat)) S1 = some (.str (sg [97 + r])) := by
          show (if (sg AZ).length ≤ line then (L2.atI (sg AZ).cps.toList (r : Int)).map fun c => D.str ⟨#[c]⟩ else none) = _
          rw [if_pos (by rw [sg_len]; decide), sg_tl, atI_nat hr]
          rfl
        simp only [hv2, bnd]
        rw [show ((26 : Nat) : Int) = 26 from rfl] at e1
        simp only [e1, hi, giv, Option.map_some]
      have ht : lcTn (tstEs (CC (L + 1)) .nil) (evE (CC (L + 1)) (.idx (.var 2) (.call 10 (.cons (.var 0) (.cons (.int (26)) .nil)) []))) (.name 7) e x S = some (some (.str (sg [97 + r])), S1) := by
        simp only [lcTn, putT, tstEs, hv]
      rw [lcLoop, ht]
      simp only
      rw [e2]
      rfl
    · rcases List.mem_cons.mp hk with rfl | hk
      · exact List.mem_of_getElem? hr
      · exact m2 k hk
end K01
end
section
set_option Elab.async false
set_option linter.all false
set_option maxRecDepth 100000
set_option maxHeartbeats 1000000
namespace K01
open PySem PC
/-! ### terms -/
inductive Tm where
  | num (i : Int) | name (w : List Nat) | op (o : Fin 6) (a b : Tm)
def opW : Fin 6 → Str
  | 0 => "sum" | 1 => "less" | 2 => "times" | 3 => "over" | 4 => "below" | 5 => "same"
def Tm.d : Tm → D
  | .num i => .tup [.str "num", .int i]
  | .name w => .tup [.str "name", .str (sg w)]
  | .op o a b => .tup [.str (opW o), a.d, b.d]
/-- by words -/
def byW (o : Fin 6) (x y : Int) : Int := match o with
  | 0 => (x + y) % 65536
  | 1 => (x - y) % 65536
  | 2 => x * y % 65536
  | 3 => if y = 0 then 0 else x / y
  | 4 => if x < y then 1 else 0
  | 5 => if x = y then 1 else 0
def Tm.val (ρ : List Nat → Int) : Tm → Int
  | .num i => i
  | .name w => ρ w
  | .op o a b => byW o (a.val ρ) (b.val ρ)
/-- in bounds -/
def Tm.ok (P : List Nat → Prop) : Tm → Prop
  | .num i => 0 ≤ i ∧ i ≤ 65535
  | .name w => P w
  | .op _ a b => a.ok P ∧ b.ok P
theorem byW_in {o : Fin 6} {x y : Int} (hx : 0 ≤ x ∧ x ≤ 65535) (hy : 0 ≤ y ∧ y ≤ 65535) : 0 ≤ byW o x y ∧ byW o x y ≤ 65535 := by
  match o with
  | 0 => show 0 ≤ (x + y) % 65536 ∧ (x + y) % 65536 ≤ 65535; omega
  | 1 => show 0 ≤ (x - y) % 65536 ∧ (x - y) % 65536 ≤ 65535; omega
  | 2 => show 0 ≤ x * y % 65536 ∧ x * y % 65536 ≤ 65535; omega
  | 3 =>
    show 0 ≤ (if y = 0 then 0 else x / y) ∧ (if y = 0 then 0 else x / y) ≤ 65535
    split
    · omega
    · have h1 : 0 ≤ x / y := Int.ediv_nonneg hx.1 hy.1
      have h2 : x / y ≤ x := Int.ediv_le_self y hx.1
      omega
  | 4 => show 0 ≤ (if x < y then (1 : Int) else 0) ∧ (if x < y then (1 : Int) else 0) ≤ 65535; split <;> omega
  | 5 => show 0 ≤ (if x = y then (1 : Int) else 0) ∧ (if x = y then (1 : Int) else 0) ≤ 65535; split <;> omega
theorem Tm.val_in {ρ : List Nat → Int} {P : List Nat → Prop} (h : ∀ w, P w → 0 ≤ ρ w ∧ ρ w ≤ 65535) : ∀ t : Tm, t.ok P → 0 ≤ t.val ρ ∧ t.val ρ ≤ 65535
  | .num i, q => q
  | .name w, q => h w q
  | .op o a b, q => byW_in (Tm.val_in h a q.1) (Tm.val_in h b q.2)
/-! ### worth_by -/
theorem eq_str {S : Sto} (a b : Str) : cmpD .Eq (.str a) (.str b) S = some (decide (a = b)) := by
  simp only [cmpD]
  unfold eqD
  rw [show rdQ S (.str a) = some (.str a) from rfl, show rdQ S (.str b) = some (.str b) from rfl]
  simp only [eqv_str]
theorem eq_int {S : Sto} (a b : Int) : cmpD .Eq (.int a) (.int b) S = some (decide (a = b)) ∧ cmpD .NotEq (.int a) (.int b) S = some (!decide (a = b)) := by
  have e : (PyData.int a).eqv (.int b) = decide (a = b) := by
    simp only [PyData.eqv]
    rfl
  have q : eqD (.int a) (.int b) S = some (decide (a = b)) := by
    unfold eqD
    rw [show rdQ S (.int a) = some (.int a) from rfl, show rdQ S (.int b) = some (.int b) from rfl]
    simp only [e]
  simp only [cmpD, q, Option.map_some, and_self]
/-- words against words -/
def wEq (o p : Fin 6) : decide (opW o = opW p) = decide (o = p) := by
  revert o p
  decide +kernel
theorem by_ok {L : Nat} {S : Sto} (o : Fin 6) {x y : Int} (hx : 0 ≤ x ∧ x ≤ 65535) (hy : 0 ≤ y ∧ y ≤ 65535) : (CC (L + 1)).fn 5 [.str (opW o), .int x, .int y] S = some (.int (byW o x y), S) := by
  rw [fn_eq (F := ⟨3, 3, c5⟩) rfl rfl]
  show endD (exSs (CC L) c5 [some (.str (opW o)), some (.int x), some (.int y)] S) = _
  have hv0 : evE (CC L) (.var 0) [some (.str (opW o)), some (.int x), some (.int y)] S = some (.str (opW o), S) := by simp [evE, isLam]
  have hv1 : evE (CC L) (.var 1) [some (.str (opW o)), some (.int x), some (.int y)] S = some (.int x, S) := by simp [evE, isLam]
  have hv2 : evE (CC L) (.var 2) [some (.str (opW o)), some (.int x), some (.int y)] S = some (.int y, S) := by simp [evE, isLam]
  have g0 : evE (CC L) (.glo 0) [some (.str (opW o)), some (.int x), some (.int y)] S = some (.int 65536, S) := glo_at rfl
  have tst : ∀ (g : Nat) (p : Fin 6), glos[g]? = some (.str (opW p)) → tstE (CC L) (.cmp .Eq (.var 0) (.glo g)) [some (.str (opW o)), some (.int x), some (.int y)] S = some (decide (o = p), S) := fun g p hg => by
    unfold tstE
    rw [evE]
    simp only [hv0, glo_at hg, bnd, eq_str, Option.map_some, giv, truD, wEq]
  have t5 := tst 5 0 rfl
  have t6 := tst 6 1 rfl
  have t7 := tst 7 2 rfl
  have t8 := tst 8 3 rfl
  have t9 := tst 9 4 rfl
  have hb : ∀ (op : Operator) (z : Int), binD op (.int x) (.int y) S = some (.int z, S) → evE (CC L) (.bin .Mod (.bin op (.var 1) (.var 2)) (.glo 0)) [some (.str (opW o)), some (.int x), some (.int y)] S = some (.int (z % 65536), S) := fun op z hz => by
    have h1 : evE (CC L) (.bin op (.var 1) (.var 2)) [some (.str (opW o)), some (.int x), some (.int y)] S = some (.int z, S) := by
      rw [evE]
      simp only [hv1, hv2, bnd, hz]
    rw [evE]
    simp only [h1, g0, bnd]
    rfl
  rw [show c5 = .cons _ _ from rfl]
  match o with
  | 0 =>
    rw [ex_rt ((x_yes t5).trans (ex_rt (x_ret (hb .Add _ rfl))))]
    rfl
  | 1 =>
    rw [ex_nx (x_no t5), ex_rt ((x_yes t6).trans (ex_rt (x_ret (hb .Sub _ rfl))))]
    rfl
  | 2 =>
    have hm : mulOk x y = true := mulL (by omega) (by omega)
    rw [ex_nx (x_no t5), ex_nx (x_no t6), ex_rt ((x_yes t7).trans (ex_rt (x_ret (hb .Mult (x * y) (by simp only [binD, hm, if_true])))))]
    rfl
  | 3 =>
    have tn : tstE (CC L) (.cmp .NotEq (.var 2) (.int (0))) [some (.str (opW 3)), some (.int x), some (.int y)] S = some (!decide (y = 0), S) := by
      unfold tstE
      rw [evE]
      simp only [hv2, ev_i, bnd, (eq_int y 0).2, Option.map_some, giv, truD]
    have hr : evE (CC L) (.ifE (.cmp .NotEq (.var 2) (.int (0))) (.bin .FloorDiv (.var 1) (.var 2)) (.int (0))) [some (.str (opW 3)), some (.int x), some (.int y)] S = some (.int (byW 3 x y), S) := by
      obtain ⟨dd, e1, e2⟩ := of_tst tn
      rw [evE, e1]
      simp only [bnd, e2]
      by_cases hy0 : y = 0
      · subst hy0
        simp only [decide_true, Bool.not_true, ev_i]
        rfl
      · simp only [hy0, decide_false, Bool.not_false]
        rw [evE]
        have hpos : 0 < y ∧ y < 1073741824 := by omega
        simp only [hv1, hv2, bnd, binD, hpos, if_true, and_self]
        show some (D.int (x / y), S) = some (.int (if y = 0 then 0 else x / y), S)
        rw [if_neg hy0]
    rw [ex_nx (x_no t5), ex_nx (x_no t6), ex_nx (x_no t7), ex_rt ((x_yes t8).trans (ex_rt (x_ret hr)))]
    rfl
  | 4 =>
    have hr : evE (CC L) (.bi .int (.cons (.ifE (.cmp .Eq (.var 0) (.glo 9)) (.cmp .Lt (.var 1) (.var 2)) (.cmp .Eq (.var 1) (.var 2))) .nil)) [some (.str (opW 4)), some (.int x), some (.int y)] S = some (.int (byW 4 x y), S) := by
      obtain ⟨dd, e1, e2⟩ := of_tst t9
      have h1 : evE (CC L) (.ifE (.cmp .Eq (.var 0) (.glo 9)) (.cmp .Lt (.var 1) (.var 2)) (.cmp .Eq (.var 1) (.var 2))) [some (.str (opW 4)), some (.int x), some (.int y)] S = some (.bl (decide (x < y)), S) := by
        rw [evE, e1]
        simp only [bnd, e2, decide_true]
        rw [evE]
        simp only [hv1, hv2, bnd, cmpD, Option.map_some, giv]
      rw [evE]
      simp only [evEs, h1, bnd, biD, bi1, giv, Option.map_some]
      show some (D.int (if decide (x < y) = true then 1 else 0), S) = some (.int (if x < y then 1 else 0), S)
      simp only [decide_eq_true_eq]
    rw [ex_nx (x_no t5), ex_nx (x_no t6), ex_nx (x_no t7), ex_nx (x_no t8), ex_rt (x_ret hr)]
    rfl
  | 5 =>
    have hr : evE (CC L) (.bi .int (.cons (.ifE (.cmp .Eq (.var 0) (.glo 9)) (.cmp .Lt (.var 1) (.var 2)) (.cmp .Eq (.var 1) (.var 2))) .nil)) [some (.str (opW 5)), some (.int x), some (.int y)] S = some (.int (byW 5 x y), S) := by
      obtain ⟨dd, e1, e2⟩ := of_tst t9
      have h1 : evE (CC L) (.ifE (.cmp .Eq (.var 0) (.glo 9)) (.cmp .Lt (.var 1) (.var 2)) (.cmp .Eq (.var 1) (.var 2))) [some (.str (opW 5)), some (.int x), some (.int y)] S = some (.bl (decide (x = y)), S) := by
        rw [evE, e1]
        simp only [bnd, e2]
        rw [show decide ((5 : Fin 6) = 4) = false from rfl]
        simp only
        rw [evE]
        simp only [hv1, hv2, bnd, (eq_int x y).1, Option.map_some, giv]
      rw [evE]
      simp only [evEs, h1, bnd, biD, bi1, giv, Option.map_some]
      show some (D.int (if decide (x = y) = true then 1 else 0), S) = some (.int (if x = y then 1 else 0), S)
      simp only [decide_eq_true_eq]
    rw [ex_nx (x_no t5), ex_nx (x_no t6), ex_nx (x_no t7), ex_nx (x_no t8), ex_rt (x_ret hr)]
    rfl
end K01
end
section
set_option Elab.async false
set_option linter.all false
set_option maxRecDepth 100000
set_option maxHeartbeats 1000000
namespace K01
open PySem PC
def Tm.dep : Tm → Nat
  | .num _ => 0
  | .name _ => 0
  | .op _ a b => max a.dep b.dep + 1
/-- the numbers by their names -/
def Nums (S : Sto) (q : Nat) (ρ : List Nat → Int) (P : List Nat → Prop) : Prop := ∃ kvs, S[q]? = some (.dk kvs) ∧ ∀ w, P w → valK (.inr (sg w)) kvs = some (.int (ρ w))
theorem lam_ok {L q : Nat} {S : Sto} {ρ : List Nat → Int} {P : List Nat → Prop} (h : Nums S q ρ P) {w : List Nat} (hw : P w) : (CC (L + 1)).lam 0 [(Tm.name w).d] [.ref q] S = some (.int (ρ w), S) := by
  obtain ⟨kvs, h1, h2⟩ := h
  show oneL (CC L) 0 _ _ S = _
  unfold oneL
  rw [cP]
  show evE (CC L) cb [some (.tup [.str "name", .str (sg w)]), some (.ref q)] S = _
  have hi : L2.atI [D.str "name", D.str (sg w)] 1 = some (.str (sg w)) := rfl
  have h2' := h2 w hw
  have hx : idxD (.ref q) (.str (sg w)) S = some (.int (ρ w)) := by
    simp only [idxD, h1]
    exact h2'
  unfold cb
  rw [evE]
  have e1 : evE (CC L) (.idx (.var 0) (.int 1)) [some (.tup [.str "name", .str (sg w)]), some (.ref q)] S = some (.str (sg w), S) := by
    simp [evE, bnd, isLam, idxD, hi, giv]
  have e0 : evE (CC L) (.var 1) [some (.tup [.str "name", .str (sg w)]), some (.ref q)] S = some (.ref q, S) := by simp [evE, isLam]
  simp only [e0, e1, bnd, hx, giv, Option.map_some]
theorem opW_in (o : Fin 6) : opW o ∈ wordsL := by
  revert o
  decide +kernel
theorem opW_num (o : Fin 6) : decide (opW o = ("num" : Str)) = false := by
  revert o
  decide +kernel
theorem at_ok {q : Nat} {S : Sto} {ρ : List Nat → Int} {P : List Nat → Prop} (h : Nums S q ρ P) (hρ : ∀ w, P w → 0 ≤ ρ w ∧ ρ w ≤ 65535) : ∀ (t : Tm) (L : Nat), t.ok P → t.dep + 2 ≤ L → (CC L).fn 6 [t.d, .lam 0 [.ref q]] S = some (.int (t.val ρ), S) := by
  intro t
  induction t with
  | num i =>
    intro L ht hL
    obtain ⟨K, rfl⟩ : ∃ K, L = K + 1 := ⟨L - 1, by omega⟩
    rw [fn_eq (F := ⟨2, 2, c6⟩) rfl rfl]
    show endD (exSs (CC K) c6 [some (.tup [.str "num", .int i]), some (.lam 0 [.ref q])] S) = _
    have i0 : L2.atI [D.str "num", D.int i] 0 = some (.str "num") := rfl
    have i1 : L2.atI [D.str "num", D.int i] 1 = some (.int i) := rfl
    have e0 : evE (CC K) (.idx (.var 0) (.int (0))) [some (.tup [.str "num", .int i]), some (.lam 0 [.ref q])] S = some (.str "num", S) := by simp [evE, bnd, isLam, idxD, i0, giv]
    have e1 : evE (CC K) (.idx (.var 0) (.int (1))) [some (.tup [.str "num", .int i]), some (.lam 0 [.ref q])] S = some (.int i, S) := by simp [evE, bnd, isLam, idxD, i1, giv]
    have g4 : evE (CC K) (.glo 4) [some (.tup [.str "num", .int i]), some (.lam 0 [.ref q])] S = some (.str "num", S) := glo_at rfl
    have t1 : tstE (CC K) (.cmp .Eq (.idx (.var 0) (.int (0))) (.glo 4)) [some (.tup [.str "num", .int i]), some (.lam 0 [.ref q])] S = some (true, S) := by
      unfold tstE
      rw [evE]
      simp only [e0, g4, bnd, eq_str, Option.map_some, giv, truD, decide_true]
    rw [show c6 = .cons _ _ from rfl, ex_rt ((x_yes t1).trans (ex_rt (x_ret e1)))]
    rfl
  | name w =>
    intro L ht hL
    obtain ⟨K, rfl⟩ : ∃ K, L = K + 2 := ⟨L - 2, by omega⟩
    rw [show K + 2 = (K + 1) + 1 from rfl, fn_eq (F := ⟨2, 2, c6⟩) rfl rfl]
    show endD (exSs (CC (K + 1)) c6 [some (Tm.name w).d, some (.lam 0 [.ref q])] S) = _
    have i0 : L2.atI [D.str "name", D.str (sg w)] 0 = some (.str "name") := rfl
    have e0 : evE (CC (K + 1)) (.idx (.var 0) (.int (0))) [some (Tm.name w).d, some (.lam 0 [.ref q])] S = some (.str "name", S) := by simp [evE, bnd, isLam, Tm.d, idxD, i0, giv]
    have g4 : evE (CC (K + 1)) (.glo 4) [some (Tm.name w).d, some (.lam 0 [.ref q])] S = some (.str "num", S) := glo_at rfl
    have g11 : evE (CC (K + 1)) (.glo 11) [some (Tm.name w).d, some (.lam 0 [.ref q])] S = some (.tup (wordsL.map .str), S) := glo_at rfl
    have t1 : tstE (CC (K + 1)) (.cmp .Eq (.idx (.var 0) (.int (0))) (.glo 4)) [some (Tm.name w).d, some (.lam 0 [.ref q])] S = some (false, S) := by
      unfold tstE
      rw [evE]
      simp only [e0, g4, bnd, eq_str, Option.map_some, giv, truD]
      rw [show decide (("name" : Str) = "num") = false from by decide +kernel]
    have t2 : tstE (CC (K + 1)) (.cmp .In (.idx (.var 0) (.int (0))) (.glo 11)) [some (Tm.name w).d, some (.lam 0 [.ref q])] S = some (false, S) := by
      have hin : cmpD .In (.str "name") (.tup (wordsL.map .str)) S = some (decide (("name" : Str) ∈ wordsL)) := in_strs (S := S) "name" wordsL
      unfold tstE
      rw [evE]
      simp only [e0, g11, bnd, hin, Option.map_some, giv, truD]
      rw [show decide (("name" : Str) ∈ wordsL) = false from by decide +kernel]
    have e3 : evE (CC (K + 1)) (.app 1 (.cons (.var 0) .nil)) [some (Tm.name w).d, some (.lam 0 [.ref q])] S = some (.int (ρ w), S) := by
      rw [evE]
      have hv : evEs (CC (K + 1)) (.cons (.var 0) .nil) [some (Tm.name w).d, some (.lam 0 [.ref q])] S = some ([(Tm.name w).d], S) := by simp [evEs, evE, bnd, isLam, Tm.d]
      show bnd (evEs (CC (K + 1)) (.cons (.var 0) .nil) _ S) _ = _
      rw [hv]
      exact lam_ok (L := K) h ht
    rw [show c6 = .cons _ _ from rfl, ex_nx (x_no t1), ex_nx (x_no t2), ex_rt (x_ret e3)]
    rfl
  | op o a b iha ihb =>
    intro L ht hL
    obtain ⟨K, rfl⟩ : ∃ K, L = K + 2 := ⟨L - 2, by omega⟩
    have hd : (Tm.op o a b).dep = max a.dep b.dep + 1 := rfl
    rw [hd] at hL
    rw [show K + 2 = (K + 1) + 1 from rfl, fn_eq (F := ⟨2, 2, c6⟩) rfl rfl]
    let e : En := [some (.tup [.str (opW o), a.d, b.d]), some (.lam 0 [.ref q])]
    show endD (exSs (CC (K + 1)) c6 e S) = _
    have i0 : L2.atI [D.str (opW o), a.d, b.d] 0 = some (.str (opW o)) := rfl
    have i1 : L2.atI [D.str (opW o), a.d, b.d] 1 = some a.d := rfl
    have i2 : L2.atI [D.str (opW o), a.d, b.d] 2 = some b.d := rfl
    have e0 : evE (CC (K + 1)) (.idx (.var 0) (.int (0))) e S = some (.str (opW o), S) := by simp [e, evE, bnd, isLam, idxD, i0, giv]
    have e1 : evE (CC (K + 1)) (.idx (.var 0) (.int (1))) e S = some (a.d, S) := by simp [e, evE, bnd, isLam, idxD, i1, giv]
    have e2 : evE (CC (K + 1)) (.idx (.var 0) (.int (2))) e S = some (b.d, S) := by simp [e, evE, bnd, isLam, idxD, i2, giv]
    have g4 : evE (CC (K + 1)) (.glo 4) e S = some (.str "num", S) := glo_at rfl
    have g11 : evE (CC (K + 1)) (.glo 11) e S = some (.tup (wordsL.map .str), S) := glo_at rfl
    have t1 : tstE (CC (K + 1)) (.cmp .Eq (.idx (.var 0) (.int (0))) (.glo 4)) e S = some (false, S) := by
      unfold tstE
      rw [evE]
      simp only [e0, g4, bnd, eq_str, Option.map_some, giv, truD, opW_num]
    have t2 : tstE (CC (K + 1)) (.cmp .In (.idx (.var 0) (.int (0))) (.glo 11)) e S = some (true, S) := by
      have hin : cmpD .In (.str (opW o)) (.tup (wordsL.map .str)) S = some (decide (opW o ∈ wordsL)) := in_strs (S := S) (opW o) wordsL
      unfold tstE
      rw [evE]
      simp only [e0, g11, bnd, hin, Option.map_some, giv, truD, opW_in, decide_true]
    have v1 : evE (CC (K + 1)) (.callV 6 (.cons (.idx (.var 0) (.int (1))) .nil) 1) e S = some (.int (a.val ρ), S) := by
      rw [evE]
      show bnd (evEs (CC (K + 1)) (.cons (.idx (.var 0) (.int (1))) .nil) e S) _ = _
      simp only [evEs, e1, bnd]
      exact iha (K + 1) ht.1 (by omega)
    have v2 : evE (CC (K + 1)) (.callV 6 (.cons (.idx (.var 0) (.int (2))) .nil) 1) e S = some (.int (b.val ρ), S) := by
      rw [evE]
      show bnd (evEs (CC (K + 1)) (.cons (.idx (.var 0) (.int (2))) .nil) e S) _ = _
      simp only [evEs, e2, bnd]
      exact ihb (K + 1) ht.2 (by omega)
    have e3 : evE (CC (K + 1)) (.call 5 (.cons (.idx (.var 0) (.int (0))) (.cons (.callV 6 (.cons (.idx (.var 0) (.int (1))) .nil) 1) (.cons (.callV 6 (.cons (.idx (.var 0) (.int (2))) .nil) 1) .nil))) []) e S = some (.int (byW o (a.val ρ) (b.val ρ)), S) := by
      rw [evE]
      simp only [evEs, e0, v1, v2, bnd]
      exact by_ok (L := K) o (Tm.val_in hρ a ht.1) (Tm.val_in hρ b ht.2)
    rw [show c6 = .cons _ _ from rfl, ex_nx (x_no t1), ex_rt ((x_yes t2).trans (ex_rt (x_ret e3)))]
    rfl
theorem d_lam (t : Tm) : isLam t.d = false := by cases t <;> rfl
theorem in_ok {q : Nat} {S : Sto} {ρ : List Nat → Int} {P : List Nat → Prop} (h : Nums S q ρ P) (hρ : ∀ w, P w → 0 ≤ ρ w ∧ ρ w ≤ 65535) (t : Tm) (L : Nat) (ht : t.ok P) (hL : t.dep + 3 ≤ L) : (CC L).fn 7 [t.d, .ref q] S = some (.int (t.val ρ), S) := by
  obtain ⟨K, rfl⟩ : ∃ K, L = K + 1 := ⟨L - 1, by omega⟩
  rw [fn_eq (F := ⟨2, 2, c7⟩) rfl rfl]
  show endD (exSs (CC K) c7 [some t.d, some (.ref q)] S) = _
  have e1 : evE (CC K) (.callL 6 (.cons (.var 0) .nil) 0 [1]) [some t.d, some (.ref q)] S = some (.int (t.val ρ), S) := by
    rw [evE]
    have hv : evEs (CC K) (.cons (.var 0) .nil) [some t.d, some (.ref q)] S = some ([t.d], S) := by simp [evEs, evE, bnd, d_lam]
    rw [hv]
    exact at_ok h hρ t K ht (by omega)
  rw [show c7 = .cons _ _ from rfl, ex_rt (x_ret e1)]
  rfl
end K01
end
section
set_option Elab.async false
set_option linter.all false
set_option maxRecDepth 100000
set_option maxHeartbeats 1000000
namespace K01
open PySem PC
abbrev Ps := List (List Nat × Int)
def pairs (ps : Ps) : List D := ps.map fun p => .tup [.str (sg p.1), .int p.2]
def kvsOf (ps : Ps) : List (Ky × D) := ps.map fun p => (.inr (sg p.1), .int p.2)
def rho (ps : Ps) (w : List Nat) : Int := ((ps.find? fun p => decide (p.1 = w)).map (·.2)).getD 0
theorem om_pairs : ∀ ps : Ps, optMap pairD (pairs ps) = some (kvsOf ps)
  | [] => rfl
  | p :: ps => om_cons rfl (om_pairs ps)
theorem put_new {k : Ky} {v : D} {kvs : List (Ky × D)} (h : ∀ q ∈ kvs, q.1 ≠ k) : putK k v kvs = kvs ++ [(k, v)] := by
  unfold putK
  rw [if_neg]
  simp only [List.any_eq_true, decide_eq_true_eq, not_exists, not_and]
  exact h
theorem fold_new : ∀ (ps : List (Ky × D)) (acc : List (Ky × D)), (ps.map (·.1)).Nodup → (∀ p ∈ ps, ∀ q ∈ acc, q.1 ≠ p.1) → ps.foldl (fun m kv => putK kv.1 kv.2 m) acc = acc ++ ps
  | [], acc, _, _ => by simp
  | p :: ps, acc, hn, hd => by
    rw [List.map_cons, List.nodup_cons] at hn
    rw [List.foldl_cons, put_new (hd p List.mem_cons_self), fold_new ps _ hn.2]
    · simp
    · intro r hr q hq
      rcases List.mem_append.mp hq with hq | hq
      · exact hd r (List.mem_cons_of_mem _ hr) q hq
      · rw [List.mem_singleton.mp hq]
        intro z
        exact hn.1 (List.mem_map.mpr ⟨r, hr, z.symm⟩)
theorem kvs_nodup {ps : Ps} (h : (ps.map (·.1)).Nodup) : ((kvsOf ps).map (·.1)).Nodup := by
  have e : (kvsOf ps).map (·.1) = (ps.map (·.1)).map fun w => (Sum.inr (sg w) : Ky) := by simp [kvsOf, List.map_map, Function.comp_def]
  rw [e]
  refine List.Pairwise.map _ ?_ h
  intro a b hab z
  injection z with z
  exact hab (sg_inj z)
theorem val_kvs (w : List Nat) : ∀ ps : Ps, w ∈ ps.map (·.1) → valK (.inr (sg w)) (kvsOf ps) = some (.int (rho ps w))
  | [], h => by cases h
  | p :: ps, h => by
    unfold valK rho kvsOf
    rw [List.map_cons, List.find?_cons, List.find?_cons]
    by_cases e : p.1 = w
    · simp [e]
    · have e2 : ¬ (Sum.inr (sg p.1) : Ky) = Sum.inr (sg w) := fun z => by
        injection z with z
        exact e (sg_inj z)
      have hw : w ∈ ps.map (·.1) := by
        rw [List.map_cons] at h
        rcases List.mem_cons.mp h with z | z
        · exact absurd z.symm e
        · exact z
      have ih := val_kvs w ps hw
      unfold valK rho kvsOf at ih
      simp only [e, e2, decide_false]
      exact ih
theorem nums_of {ps : Ps} {S : Sto} {q : Nat} (h : S[q]? = some (.dk (kvsOf ps))) : Nums S q (rho ps) (fun w => w ∈ ps.map (·.1)) := ⟨_, h, fun w hw => val_kvs w ps hw⟩
theorem dict_ok {ps : Ps} {S : Sto} {m : Nat} (hn : (ps.map (·.1)).Nodup) (hm : S[m]? = some (.lst (pairs ps))) : dicD (.ref m) S = some (.ref S.length, S ++ [.dk (kvsOf ps)]) := by
  unfold dicD lstD
  simp only [hm, Option.bind_some, om_pairs]
  rw [fold_new _ [] (kvs_nodup hn) (fun _ _ q hq => by cases hq)]
  rfl
theorem of_ok {ps : Ps} {S : Sto} (hn : (ps.map (·.1)).Nodup) (hl : ps.length ≤ 16777216) (hρ : ∀ w ∈ ps.map (·.1), 0 ≤ rho ps w ∧ rho ps w ≤ 65535) (t : Tm) (L : Nat) (ht : t.ok fun w => w ∈ ps.map (·.1)) (hL : t.dep + 4 ≤ L) :
    (CC L).fn 8 [t.d, .tup (pairs ps)] S = some (.int (t.val (rho ps)), S ++ [.lst (pairs ps), .dk (kvsOf ps)]) := by
  obtain ⟨K, rfl⟩ : ∃ K, L = K + 1 := ⟨L - 1, by omega⟩
  rw [fn_eq (F := ⟨2, 2, c8⟩) rfl rfl]
  show endD (exSs (CC K) c8 [some t.d, some (.tup (pairs ps))] S) = _
  let S1 : Sto := S ++ [.lst (pairs ps)]
  let S2 : Sto := S1 ++ [.dk (kvsOf ps)]
  have e1 : evE (CC K) (.col .val (.cons (.var 1) .nil)) [some t.d, some (.tup (pairs ps))] S = some (.ref S.length, S1) := by
    have hv : evEs (CC K) (.cons (.var 1) .nil) [some t.d, some (.tup (pairs ps))] S = some ([.tup (pairs ps)], S) := by simp [evEs, evE, bnd, isLam]
    rw [evE, hv]
    simp only [bnd, itD, itV]
    rw [if_pos (by unfold pairs; rw [List.length_map]; exact hl)]
    rfl
  have e2 : evE (CC K) (.bi .dict (.cons (.col .val (.cons (.var 1) .nil)) .nil)) [some t.d, some (.tup (pairs ps))] S = some (.ref S1.length, S2) := by
    rw [evE]
    simp only [evEs, e1, bnd, biD, bi1]
    exact dict_ok hn (by simp [S1])
  have e3 : evE (CC K) (.call 7 (.cons (.var 0) (.cons (.bi .dict (.cons (.col .val (.cons (.var 1) .nil)) .nil)) .nil)) []) [some t.d, some (.tup (pairs ps))] S = some (.int (t.val (rho ps)), S2) := by
    have hv : evE (CC K) (.var 0) [some t.d, some (.tup (pairs ps))] S = some (t.d, S) := by simp [evE, d_lam]
    rw [evE]
    simp only [evEs, hv, e2, bnd]
    exact in_ok (nums_of (by simp [S2])) hρ t K ht (by omega)
  rw [show c8 = .cons _ _ from rfl, ex_rt (x_ret e3)]
  simp [endD, S2, S1]
end K01
end
section
set_option Elab.async false
set_option linter.all false
set_option maxRecDepth 100000
set_option maxHeartbeats 1000000
namespace K01
open PySem PC
/-! ### the long division -/
abbrev eD (w : D) (q : Nat) (x y : Int) (m : Option D) (f k z : Option D) : En := [some w, some (.ref q), some (.int x), some (.int y), m, f, k, z]
theorem powOk1 (m : Nat) (h : m ≤ 1000) : powOk 1 (m : Int) = true := by
  unfold powOk
  simp only [Bool.and_eq_true, decide_eq_true_eq]
  refine ⟨⟨by omega, by omega⟩, by decide⟩
theorem whl_ok {C : Cal} {S : Sto} {w : D} {q : Nat} {x y : Int} {f k z : Option D} (hy : 0 < y ∧ y ≤ 65535) (hx : x ≤ 65535) : ∀ (j m g : Nat), m + j = 17 → ∃ M, M ≤ 17 ∧ x < y * 2 ^ M ∧
    whlLoop (tstE C (.cmp .LtE (.bin .Mult (.var 3) (.bin .LShift (.int (1)) (.var 4))) (.var 2))) (exSs C (.cons (.set (.name 4) (.bin .Add (.var 4) (.int (1)))) .nil)) (j + g + 1) (eD w q x y (some (.int m)) f k z) S = some (.nx, eD w q x y (some (.int (M : Nat))) f k z, S) := by
  intro j
  induction j with
  | zero =>
    intro m g hm
    have hm2 : m = 17 := by omega
    subst hm2
    refine ⟨17, Nat.le_refl _, by omega, ?_⟩
    have hp : powOk 1 17 = true := by decide
    have hq : ∀ i, mulOk y i = true := fun i => mulL (by omega) (by omega)
    have hn : ¬ y * (1 * 2 ^ 17) ≤ x := by omega
    have ht : tstE C (.cmp .LtE (.bin .Mult (.var 3) (.bin .LShift (.int (1)) (.var 4))) (.var 2)) (eD w q x y (some (.int (17 : Nat))) f k z) S = some (false, S) := by
      have hp2 := powOk1 17 (by decide)
      simp only [tstE, evE, bnd, isLam, List.getElem?_cons_succ, List.getElem?_cons_zero, binD, hp2, hq, giv, cmpD, truD, Option.map_some, if_true, Bool.false_eq_true, if_false]
      simp only [Int.toNat_natCast, hn, decide_false]
    rw [whlLoop, ht]
  | succ j ih =>
    intro m g hm
    have hq : ∀ i, mulOk y i = true := fun i => mulL (by omega) (by omega)
    have hp := powOk1 m (by omega)
    have ht : tstE C (.cmp .LtE (.bin .Mult (.var 3) (.bin .LShift (.int (1)) (.var 4))) (.var 2)) (eD w q x y (some (.int m)) f k z) S = some (decide (y * 2 ^ m ≤ x), S) := by
      simp only [tstE, evE, bnd, isLam, List.getElem?_cons_succ, List.getElem?_cons_zero, binD, hp, hq, giv, cmpD, truD, Option.map_some, if_true, Bool.false_eq_true, if_false, Int.toNat_natCast, Int.one_mul]
    rw [show j + 1 + g + 1 = (j + g + 1) + 1 by omega, whlLoop, ht]
    by_cases h : y * 2 ^ m ≤ x
    · have es : exSs C (.cons (.set (.name 4) (.bin .Add (.var 4) (.int (1)))) .nil) (eD w q x y (some (.int m)) f k z) S = some (.nx, eD w q x y (some (.int (m + 1 : Nat))) f k z, S) := by
        simp [exSs, exS, evE, bnd, bnS, isLam, binD, putT]
      simp only [h, decide_true, es]
      exact ih (m + 1) g (by omega)
    · refine ⟨m, by omega, by omega, ?_⟩
      simp only [h, decide_false]
theorem bits_ok {C : Cal} {S : Sto} {w : D} {q : Nat} {x y : Int} {M z : Option D} (hy : 0 < y ∧ y ≤ 65535) : ∀ (n : Nat) (F : Int) (k : Option D), n ≤ 1000 → y * F ≤ x → x < y * (F + 2 ^ n) →
    ∃ k', forLoop (forB (exSs C (.cons (.ifS (.cmp .LtE (.bin .Mult (.var 3) (.bin .Add (.var 5) (.bin .LShift (.int (1)) (.var 6)))) (.var 2)) (.cons (.set (.name 5) (.bin .Add (.var 5) (.bin .LShift (.int (1)) (.var 6)))) .nil) .nil) .nil)) (.name 6)) ((List.range n).map fun (k : Nat) => D.int (0 + k)).reverse (eD w q x y M (some (.int F)) k z) S = some (.nx, eD w q x y M (some (.int (x / y))) k' z, S)
  | 0, F, k, _, h1, h2 => by
    refine ⟨k, ?_⟩
    have : x / y = F := by
      have h3 : x < y * F + y := by
        have : y * (F + 2 ^ 0) = y * F + y := by rw [Int.mul_add]; simp
        omega
      refine Int.le_antisymm ?_ ?_
      · have := Int.ediv_lt_of_lt_mul hy.1 (show x < (F + 1) * y by rw [Int.add_mul, Int.mul_comm F y]; omega)
        omega
      · exact Int.le_ediv_of_mul_le hy.1 (by rw [Int.mul_comm]; exact h1)
    rw [this]
    rfl
  | n + 1, F, k, hn, h1, h2 => by
    have hq : ∀ i, mulOk y i = true := fun i => mulL (by omega) (by omega)
    have hp := powOk1 n (by omega)
    rw [List.range_succ, List.map_append, List.reverse_append]
    show ∃ k', forLoop _ (D.int (0 + n) :: _) _ _ = _
    rw [forLoop]
    have z0 : (0 : Int) + n = n := by omega
    rw [z0]
    have ht : tstE C (.cmp .LtE (.bin .Mult (.var 3) (.bin .Add (.var 5) (.bin .LShift (.int (1)) (.var 6)))) (.var 2)) (eD w q x y M (some (.int F)) (some (.int n)) z) S = some (decide (y * (F + 2 ^ n) ≤ x), S) := by
      simp only [tstE, evE, bnd, isLam, List.getElem?_cons_succ, List.getElem?_cons_zero, binD, hp, hq, giv, cmpD, truD, Option.map_some, if_true, Bool.false_eq_true, if_false, Int.toNat_natCast, Int.one_mul]
    have hb : forB (exSs C (.cons (.ifS (.cmp .LtE (.bin .Mult (.var 3) (.bin .Add (.var 5) (.bin .LShift (.int (1)) (.var 6)))) (.var 2)) (.cons (.set (.name 5) (.bin .Add (.var 5) (.bin .LShift (.int (1)) (.var 6)))) .nil) .nil) .nil)) (.name 6) (.int n) (eD w q x y M (some (.int F)) k z) S = some (.nx, eD w q x y M (some (.int (if y * (F + 2 ^ n) ≤ x then F + 2 ^ n else F))) (some (.int n)) z, S) := by
      show exSs C _ (eD w q x y M (some (.int F)) (some (.int n)) z) S = _
      by_cases h : y * (F + 2 ^ n) ≤ x
      · rw [decide_eq_true h] at ht
        have es : exSs C (.cons (.set (.name 5) (.bin .Add (.var 5) (.bin .LShift (.int (1)) (.var 6)))) .nil) (eD w q x y M (some (.int F)) (some (.int n)) z) S = some (.nx, eD w q x y M (some (.int (F + 2 ^ n))) (some (.int n)) z, S) := by
          simp [exSs, exS, evE, bnd, bnS, isLam, binD, putT, hp]
        rw [ex_nx ((x_yes ht).trans es), if_pos h]
        simp only [exSs]
      · rw [decide_eq_false h] at ht
        rw [ex_nx (x_no ht), if_neg h]
        simp only [exSs]
    rw [hb]
    simp only
    have e2 : (2 : Int) ^ (n + 1) = 2 ^ n + 2 ^ n := by rw [Int.pow_succ]; omega
    refine bits_ok hy n _ _ (by omega) ?_ ?_
    · split
      · assumption
      · exact h1
    · split
      · rw [e2] at h2
        rw [Int.add_assoc]
        exact h2
      · omega
end K01
end
section
set_option Elab.async false
set_option linter.all false
set_option maxRecDepth 100000
set_option maxHeartbeats 1000000
namespace K01
open PySem PC
theorem Nums.app {S : Sto} {q : Nat} {ρ : List Nat → Int} {P : List Nat → Prop} (h : Nums S q ρ P) (T : Sto) : Nums (S ++ T) q ρ P := by
  obtain ⟨kvs, h1, h2⟩ := h
  exact ⟨kvs, by rw [List.getElem?_append_left (List.getElem?_eq_some_iff.mp h1).1]; exact h1, h2⟩
def dueL (a b c d : D) : List (Ky × D) := ([(.inr "sum", a), (.inr "less", b), (.inr "times", c), (.inr "over", d)] : List (Ky × D)).foldl (fun m kv => putK kv.1 kv.2 m) []
theorem due_val (a b c d : D) : valK (.inr (opW 0)) (dueL a b c d) = some a ∧ valK (.inr (opW 1)) (dueL a b c d) = some b ∧ valK (.inr (opW 2)) (dueL a b c d) = some c ∧ valK (.inr (opW 3)) (dueL a b c d) = some d := by
  refine ⟨?_, ?_, ?_, ?_⟩ <;> kernel_rfl
theorem w_over (o : Fin 6) : decide (opW o = ("over" : Str)) = decide (o = 3) := by revert o; decide +kernel
theorem w_below (o : Fin 6) : decide (opW o = ("below" : Str)) = decide (o = 4) := by revert o; decide +kernel
theorem w_bs (o : Fin 6) : decide (opW o ∈ (["below", "same"] : List Str)) = decide (o = 4 ∨ o = 5) := by revert o; decide +kernel
theorem w_nn (o : Fin 6) : decide (opW o ∈ (["num", "name"] : List Str)) = false := by revert o; decide +kernel
theorem turns_eq : turns = 17 + 99982 + 1 := by decide
def dueI (o : Fin 6) (x y : Int) : Int := match o with
  | 0 => x + y
  | 1 => x + 65536 - y
  | 2 => x * y
  | _ => 0
theorem froz_thaw {S : Sto} {n : Nat} {xs : List D} (h : S[n]? = some (.lst xs)) : thaw S (froz S n) n = S := by
  unfold thaw froz
  simp only [h, List.set_set]
  obtain ⟨hlt, he⟩ := List.getElem?_eq_some_iff.mp h
  rw [← he]
  exact List.set_getElem_self hlt
theorem it_range {M : Nat} (hM : M ≤ 17) {S : Sto} : itD .range [.int (M : Nat)] S = some ((List.range M).map fun (k : Nat) => D.int (0 + k), []) := by
  show itR1 (.int (M : Nat)) = _
  have h : -(2 ^ 62) ≤ (M : Int) ∧ (M : Int) < 2 ^ 62 := by omega
  simp only [itR1, h, and_self, if_true, Int.toNat_natCast]
theorem le_line {n : Nat} (h : n ≤ 17) : n ≤ line := Nat.le_trans h (by decide)
theorem col_any {C : Cal} {e : En} {S S1 : Sto} {a : CE} {v : D} {src : Src} {xs : List D} {st : List Nat} (ha : evE C a e S = some (v, S1)) (hi : itD src [v] S1 = some (xs, st)) (hl : xs.length ≤ line) : evE C (.col src (.cons a .nil)) e S = some (.ref S1.length, S1 ++ [.lst xs]) := by
  rw [evE]
  simp only [evEs, ha, bnd, hi, hl, if_true, PC.new]
theorem rev_lst {M : Nat} {S : Sto} : lstD (.ref S.length) (S ++ [.lst ((List.range M).map fun (k : Nat) => D.int (0 + k))]) = some ((List.range M).map fun (k : Nat) => D.int (0 + k)) := by
  unfold lstD
  simp
theorem rev_any {C : Cal} {e : En} {S S1 : Sto} {x : CE} {d : D} {xs : List D} (c1 : evE C x e S = some (d, S1)) (hl : lstD d S1 = some xs) : evE C (.rev x) e S = some (.ref S1.length, S1 ++ [.lst xs.reverse]) := by
  rw [evE]
  simp only [c1, bnd, hl, PC.new]
theorem col_range {C : Cal} {M i : Nat} (hM : M ≤ 17) {e : En} {S : Sto} (h : evE C (.var i) e S = some (.int (M : Nat), S)) : evE C (.rev (.col .range (.cons (.var i) .nil))) e S = some (.ref (S.length + 1), (S ++ [.lst ((List.range M).map fun (k : Nat) => D.int (0 + k))]) ++ [.lst ((List.range M).map fun (k : Nat) => D.int (0 + k)).reverse]) := by
  have hn : ((List.range M).map fun (k : Nat) => D.int (0 + k)).length ≤ line := by
    rw [List.length_map, List.length_range]
    exact le_line hM
  have := rev_any (col_any h (it_range hM) hn) rev_lst
  rw [List.length_append, List.length_singleton] at this
  exact this
theorem for_val {C : Cal} {i n : Nat} {x : CE} {b : CSs} {e e' : En} {S S2 : Sto} {xs : List D} (hx : evE C x e S = some (.ref n, S2)) (hn : S2[n]? = some (.lst xs)) (hl : forLoop (forB (exSs C b) (.name i)) xs e (froz S2 n) = some (.nx, e', froz S2 n)) : exS C (.for_ (.name i) .val (.cons x .nil) b) e S = some (.nx, e', S2) := by
  have hi : itD .val [.ref n] S2 = some (xs, [n]) := by
    show itV (.ref n) S2 = _
    simp only [itV, hn]
  simp only [exS, evEs, hx, bnd, bnS, hi, List.foldl_cons, List.foldl_nil, hl, froz_thaw hn]
theorem due_ok {q : Nat} {ρ : List Nat → Int} {P : List Nat → Prop} (hρ : ∀ w, P w → 0 ≤ ρ w ∧ ρ w ≤ 65535) : ∀ (t : Tm) (L : Nat) (S : Sto), Nums S q ρ P → t.ok P → t.dep + 1 ≤ L → ∃ T, (CC L).fn 14 [t.d, .ref q] S = some (.int (t.val ρ), S ++ T) := by
  intro t
  induction t with
  | num i =>
    intro L S h ht hL
    obtain ⟨K, rfl⟩ : ∃ K, L = K + 1 := ⟨L - 1, by omega⟩
    refine ⟨[], ?_⟩
    rw [fn_eq (F := ⟨2, 8, c14⟩) rfl rfl]
    let e : En := [some (.tup [.str "num", .int i]), some (.ref q), none, none, none, none, none, none]
    show endD (exSs (CC K) c14 e S) = _
    have i0 : L2.atI [D.str "num", D.int i] 0 = some (.str "num") := rfl
    have i1 : L2.atI [D.str "num", D.int i] 1 = some (.int i) := rfl
    have e0 : evE (CC K) (.idx (.var 0) (.int (0))) e S = some (.str "num", S) := by simp [e, evE, bnd, isLam, idxD, i0, giv]
    have e1 : evE (CC K) (.idx (.var 0) (.int (1))) e S = some (.int i, S) := by simp [e, evE, bnd, isLam, idxD, i1, giv]
    have tp : evE (CC K) (.tupE (.cons (.str "num") (.cons (.str "name") .nil))) e S = some (.tup ((["num", "name"] : List Str).map .str), S) := by
      simp [evE, evEs, bnd, line]
    have t1 : tstE (CC K) (.cmp .In (.idx (.var 0) (.int (0))) (.tupE (.cons (.str "num") (.cons (.str "name") .nil)))) e S = some (true, S) := by
      have hin : cmpD .In (.str "num") (.tup ((["num", "name"] : List Str).map .str)) S = some (decide (("num" : Str) ∈ (["num", "name"] : List Str))) := in_strs (S := S) "num" ["num", "name"]
      unfold tstE
      rw [evE]
      simp only [e0, tp, bnd, hin, Option.map_some, giv, truD]
      rw [show decide (("num" : Str) ∈ (["num", "name"] : List Str)) = true from by decide +kernel]
    have r : evE (CC K) (.ifE (.cmp .Eq (.idx (.var 0) (.int (0))) (.str "num")) (.idx (.var 0) (.int (1))) (.idx (.var 1) (.idx (.var 0) (.int (1))))) e S = some (.int i, S) := by
      have hc : evE (CC K) (.cmp .Eq (.idx (.var 0) (.int (0))) (.str "num")) e S = some (.bl true, S) := by
        rw [evE]
        simp only [e0, ev_s, bnd, eq_str, Option.map_some, giv, decide_true]
      rw [evE, hc]
      simp only [bnd, truD, e1]
    rw [show c14 = .cons _ _ from rfl, ex_rt ((x_yes t1).trans (ex_rt (x_ret r)))]
    simp [endD, Tm.val]
  | name w =>
    intro L S h ht hL
    obtain ⟨K, rfl⟩ : ∃ K, L = K + 1 := ⟨L - 1, by omega⟩
    refine ⟨[], ?_⟩
    rw [fn_eq (F := ⟨2, 8, c14⟩) rfl rfl]
    let e : En := [some (.tup [.str "name", .str (sg w)]), some (.ref q), none, none, none, none, none, none]
    show endD (exSs (CC K) c14 e S) = _
    obtain ⟨kvs, h1, h2⟩ := h
    have i0 : L2.atI [D.str "name", D.str (sg w)] 0 = some (.str "name") := rfl
    have i1 : L2.atI [D.str "name", D.str (sg w)] 1 = some (.str (sg w)) := rfl
    have e0 : evE (CC K) (.idx (.var 0) (.int (0))) e S = some (.str "name", S) := by simp [e, evE, bnd, isLam, idxD, i0, giv]
    have e1 : evE (CC K) (.idx (.var 0) (.int (1))) e S = some (.str (sg w), S) := by simp [e, evE, bnd, isLam, idxD, i1, giv]
    have ev1 : evE (CC K) (.var 1) e S = some (.ref q, S) := by simp [e, evE, isLam]
    have tp : evE (CC K) (.tupE (.cons (.str "num") (.cons (.str "name") .nil))) e S = some (.tup ((["num", "name"] : List Str).map .str), S) := by
      simp [evE, evEs, bnd, line]
    have t1 : tstE (CC K) (.cmp .In (.idx (.var 0) (.int (0))) (.tupE (.cons (.str "num") (.cons (.str "name") .nil)))) e S = some (true, S) := by
      have hin : cmpD .In (.str "name") (.tup ((["num", "name"] : List Str).map .str)) S = some (decide (("name" : Str) ∈ (["num", "name"] : List Str))) := in_strs (S := S) "name" ["num", "name"]
      unfold tstE
      rw [evE]
      simp only [e0, tp, bnd, hin, Option.map_some, giv, truD]
      rw [show decide (("name" : Str) ∈ (["num", "name"] : List Str)) = true from by decide +kernel]
    have r : evE (CC K) (.ifE (.cmp .Eq (.idx (.var 0) (.int (0))) (.str "num")) (.idx (.var 0) (.int (1))) (.idx (.var 1) (.idx (.var 0) (.int (1))))) e S = some (.int (ρ w), S) := by
      have hc : evE (CC K) (.cmp .Eq (.idx (.var 0) (.int (0))) (.str "num")) e S = some (.bl false, S) := by
        rw [evE]
        simp only [e0, ev_s, bnd, eq_str, Option.map_some, giv]
        rw [show decide (("name" : Str) = "num") = false from by decide +kernel]
      have hx : idxD (.ref q) (.str (sg w)) S = some (.int (ρ w)) := by
        simp only [idxD, h1]
        exact h2 w ht
      rw [evE, hc]
      simp only [bnd, truD]
      rw [evE]
      simp only [ev1, e1, bnd, hx, giv, Option.map_some]
    rw [show c14 = .cons _ _ from rfl, ex_rt ((x_yes t1).trans (ex_rt (x_ret r)))]
    simp [endD, Tm.val]
  | op o a b iha ihb =>
    intro L S0 h ht hL
    obtain ⟨K, rfl⟩ : ∃ K, L = K + 1 := ⟨L - 1, by omega⟩
    have hd : (Tm.op o a b).dep = max a.dep b.dep + 1 := rfl
    rw [hd] at hL
    obtain ⟨T1, ha⟩ := iha K S0 h ht.1 (by omega)
    obtain ⟨T2, hb⟩ := ihb K (S0 ++ T1) (h.app T1) ht.2 (by omega)
    rw [List.append_assoc] at hb
    have xin := Tm.val_in hρ a ht.1
    have yin := Tm.val_in hρ b ht.2
    have hval : (Tm.op o a b).val ρ = byW o (a.val ρ) (b.val ρ) := rfl
    rw [hval]
    generalize a.val ρ = x at *
    generalize b.val ρ = y at *
    let S : Sto := S0 ++ (T1 ++ T2)
    let w : D := .tup [.str (opW o), a.d, b.d]
    rw [fn_eq (F := ⟨2, 8, c14⟩) rfl rfl]
    show ∃ T, endD (exSs (CC K) c14 [some w, some (.ref q), none, none, none, none, none, none] S0) = _
    have i0 : L2.atI [D.str (opW o), a.d, b.d] 0 = some (.str (opW o)) := rfl
    have i1 : L2.atI [D.str (opW o), a.d, b.d] 1 = some a.d := rfl
    have i2 : L2.atI [D.str (opW o), a.d, b.d] 2 = some b.d := rfl
    have e0 : ∀ r S, evE (CC K) (.idx (.var 0) (.int (0))) (some w :: r) S = some (.str (opW o), S) := fun r S => by simp [w, evE, bnd, isLam, idxD, i0, giv]
    have e1 : ∀ r S, evE (CC K) (.idx (.var 0) (.int (1))) (some w :: r) S = some (a.d, S) := fun r S => by simp [w, evE, bnd, isLam, idxD, i1, giv]
    have e2 : ∀ r S, evE (CC K) (.idx (.var 0) (.int (2))) (some w :: r) S = some (b.d, S) := fun r S => by simp [w, evE, bnd, isLam, idxD, i2, giv]
    have tin : ∀ (u v : Str) r S, tstE (CC K) (.cmp .In (.idx (.var 0) (.int (0))) (.tupE (.cons (.str u) (.cons (.str v) .nil)))) (some w :: r) S = some (decide (opW o ∈ [u, v]), S) := fun u v r S => by
      have tp : evE (CC K) (.tupE (.cons (.str u) (.cons (.str v) .nil))) (some w :: r) S = some (.tup ([u, v].map .str), S) := by
        simp [evE, evEs, bnd, line]
      have hin : cmpD .In (.str (opW o)) (.tup ([u, v].map .str)) S = some (decide (opW o ∈ [u, v])) := in_strs (S := S) (opW o) [u, v]
      unfold tstE
      rw [evE]
      simp only [e0, tp, bnd, hin, Option.map_some, giv, truD]
    have t1 := tin "num" "name" [some (.ref q), none, none, none, none, none, none] S0
    rw [w_nn] at t1
    have s2 : exS (CC K) (.set (.tup [2, 3]) (.tupE (.cons (.call 14 (.cons (.idx (.var 0) (.int (1))) (.cons (.var 1) .nil)) []) (.cons (.call 14 (.cons (.idx (.var 0) (.int (2))) (.cons (.var 1) .nil)) []) .nil)))) [some w, some (.ref q), none, none, none, none, none, none] S0 = some (.nx, eD w q x y none none none none, S) := by
      have v1 : ∀ r S, evE (CC K) (.var 1) (some w :: some (.ref q) :: r) S = some (.ref q, S) := fun r S => by simp [evE, isLam]
      have c1 : evE (CC K) (.call 14 (.cons (.idx (.var 0) (.int (1))) (.cons (.var 1) .nil)) []) [some w, some (.ref q), none, none, none, none, none, none] S0 = some (.int x, S0 ++ T1) := by
        rw [evE]
        simp only [evEs, e1, v1, bnd, callIx, if_true]
        exact ha
      have c2 : evE (CC K) (.call 14 (.cons (.idx (.var 0) (.int (2))) (.cons (.var 1) .nil)) []) [some w, some (.ref q), none, none, none, none, none, none] (S0 ++ T1) = some (.int y, S) := by
        rw [evE]
        simp only [evEs, e2, v1, bnd, callIx, if_true]
        exact hb
      have c3 : evE (CC K) (.tupE (.cons (.call 14 (.cons (.idx (.var 0) (.int (1))) (.cons (.var 1) .nil)) []) (.cons (.call 14 (.cons (.idx (.var 0) (.int (2))) (.cons (.var 1) .nil)) []) .nil))) [some w, some (.ref q), none, none, none, none, none, none] S0 = some (.tup [.int x, .int y], S) := by
        rw [evE]
        simp only [evEs, c1, c2, bnd]
        rfl
      simp only [exS, c3, bnS]
      rfl
    have s3 : exS (CC K) (.set (.name 4) (.int (0))) (eD w q x y none none none none) S = some (.nx, eD w q x y (some (.int (0 : Nat))) none none none, S) := x_set ev_i
    rw [show c14 = .cons _ _ from rfl, ex_nx (x_no t1), ex_nx s2, ex_nx s3]
    have v2 : ∀ m f k z S, evE (CC K) (.var 2) (eD w q x y m f k z) S = some (.int x, S) := fun m f k z S => by simp [evE, isLam]
    have v3 : ∀ m f k z S, evE (CC K) (.var 3) (eD w q x y m f k z) S = some (.int y, S) := fun m f k z S => by simp [evE, isLam]
    have t4 : tstE (CC K) (.andE (.cmp .Eq (.idx (.var 0) (.int (0))) (.str "over")) (.cmp .Gt (.var 3) (.int (0)))) (eD w q x y (some (.int (0 : Nat))) none none none) S = some (decide (o = 3) && decide (0 < y), S) := by
      have h1 : evE (CC K) (.cmp .Eq (.idx (.var 0) (.int (0))) (.str "over")) (eD w q x y (some (.int (0 : Nat))) none none none) S = some (.bl (decide (o = 3)), S) := by
        rw [evE]
        simp only [e0, ev_s, bnd, eq_str, Option.map_some, giv, w_over]
      have h2 : evE (CC K) (.cmp .Gt (.var 3) (.int (0))) (eD w q x y (some (.int (0 : Nat))) none none none) S = some (.bl (decide (0 < y)), S) := by
        rw [evE]
        simp only [v3, ev_i, bnd, cmpD, Option.map_some, giv]
      unfold tstE
      rw [evE, h1]
      simp only [bnd, truD]
      cases decide (o = 3) with
      | true => simp only [h2, truD, Option.map_some, Bool.true_and]
      | false => simp only [truD, Option.map_some, Bool.false_and]
    by_cases hov : o = 3 ∧ 0 < y
    · obtain ⟨rfl, hy⟩ := hov
      have t4' := t4
      rw [decide_eq_true hy] at t4'
      obtain ⟨M, hM, hxM, hw⟩ := whl_ok (C := CC K) (S := S) (w := w) (q := q) (x := x) (y := y) (f := none) (k := none) (z := none) ⟨hy, yin.2⟩ xin.2 17 0 99982 rfl
      have s5 : exS (CC K) (.whl (.cmp .LtE (.bin .Mult (.var 3) (.bin .LShift (.int (1)) (.var 4))) (.var 2)) (.cons (.set (.name 4) (.bin .Add (.var 4) (.int (1)))) .nil)) (eD w q x y (some (.int (0 : Nat))) none none none) S = some (.nx, eD w q x y (some (.int (M : Nat))) none none none, S) := by
        simp only [exS]
        rw [turns_eq]
        exact hw
      have s6 : exS (CC K) (.set (.name 5) (.int (0))) (eD w q x y (some (.int (M : Nat))) none none none) S = some (.nx, eD w q x y (some (.int (M : Nat))) (some (.int 0)) none none, S) := x_set ev_i
      let xs : List D := (List.range M).map fun (k : Nat) => D.int (0 + k)
      let S1 : Sto := S ++ [.lst xs]
      let S2 : Sto := S1 ++ [.lst xs.reverse]
      have hs2 : S2[S.length + 1]? = some (.lst xs.reverse) := by
        have : S1.length = S.length + 1 := by simp [S1]
        rw [← this]
        simp [S2]
      obtain ⟨k', hk⟩ := bits_ok (C := CC K) (S := froz S2 (S.length + 1)) (w := w) (q := q) (x := x) (y := y) (M := some (.int (M : Nat))) (z := none) ⟨hy, yin.2⟩ M 0 none (by omega) (by omega) (by rw [Int.zero_add]; exact hxM)
      have s7 : exS (CC K) (.for_ (.name 6) .val (.cons (.rev (.col .range (.cons (.var 4) .nil))) .nil) (.cons (.ifS (.cmp .LtE (.bin .Mult (.var 3) (.bin .Add (.var 5) (.bin .LShift (.int (1)) (.var 6)))) (.var 2)) (.cons (.set (.name 5) (.bin .Add (.var 5) (.bin .LShift (.int (1)) (.var 6)))) .nil) .nil) .nil)) (eD w q x y (some (.int (M : Nat))) (some (.int 0)) none none) S = some (.nx, eD w q x y (some (.int (M : Nat))) (some (.int (x / y))) k' none, S2) :=
        for_val (col_range hM (by simp only [evE, isLam, List.getElem?_cons_succ, List.getElem?_cons_zero]; rfl)) hs2 hk
      refine ⟨(T1 ++ T2) ++ [.lst xs] ++ [.lst xs.reverse], ?_⟩
      have r : evE (CC K) (.var 5) (eD w q x y (some (.int (M : Nat))) (some (.int (x / y))) k' none) S2 = some (.int (x / y), S2) := by simp [evE, isLam]
      rw [ex_rt ((x_yes t4').trans ((ex_nx s5).trans ((ex_nx s6).trans ((ex_nx s7).trans (ex_rt (x_ret r))))))]
      have hb : byW 3 x y = x / y := by
        show (if y = 0 then 0 else x / y) = _
        rw [if_neg (by omega)]
      rw [hb]
      simp [endD, S2, S1, S]
    · have t4' := t4
      rw [show (decide (o = 3) && decide (0 < y)) = false by
        rw [← Bool.decide_and]
        exact decide_eq_false hov] at t4'
      rw [ex_nx (x_no t4')]
      have t5 := tin "below" "same" [some (.ref q), some (.int x), some (.int y), some (.int (0 : Nat)), none, none, none] S
      rw [w_bs] at t5
      have lt : ∀ (i j : Nat) (p r : Int), evE (CC K) (.var i) (eD w q x y (some (.int (0 : Nat))) none none none) S = some (.int p, S) → evE (CC K) (.var j) (eD w q x y (some (.int (0 : Nat))) none none none) S = some (.int r, S) → evE (CC K) (.cmp .Lt (.var i) (.var j)) (eD w q x y (some (.int (0 : Nat))) none none none) S = some (.bl (decide (p < r)), S) := fun i j p r h1 h2 => by
        rw [evE]
        simp only [h1, h2, bnd, cmpD, Option.map_some, giv]
      have l23 := lt 2 3 x y (v2 _ _ _ _ _) (v3 _ _ _ _ _)
      have l32 := lt 3 2 y x (v3 _ _ _ _ _) (v2 _ _ _ _ _)
      by_cases h45 : o = 4 ∨ o = 5
      · rw [decide_eq_true h45] at t5
        have r : evE (CC K) (.ifE (.cmp .Eq (.idx (.var 0) (.int (0))) (.str "below")) (.bi .int (.cons (.cmp .Lt (.var 2) (.var 3)) .nil)) (.bi .int (.cons (.andE (.notE (.cmp .Lt (.var 2) (.var 3))) (.notE (.cmp .Lt (.var 3) (.var 2)))) .nil))) (eD w q x y (some (.int (0 : Nat))) none none none) S = some (.int (byW o x y), S) := by
          have h1 : evE (CC K) (.cmp .Eq (.idx (.var 0) (.int (0))) (.str "below")) (eD w q x y (some (.int (0 : Nat))) none none none) S = some (.bl (decide (o = 4)), S) := by
            rw [evE]
            simp only [e0, ev_s, bnd, eq_str, Option.map_some, giv, w_below]
          rw [evE, h1]
          simp only [bnd, truD]
          rcases h45 with rfl | rfl
          · simp only [decide_true]
            rw [evE]
            simp only [evEs, l23, bnd, biD, bi1, giv, Option.map_some]
            show some (D.int (if decide (x < y) = true then 1 else 0), S) = some (.int (if x < y then 1 else 0), S)
            simp only [decide_eq_true_eq]
          · rw [show decide ((5 : Fin 6) = 4) = false from rfl]
            simp only
            have n1 : evE (CC K) (.notE (.cmp .Lt (.var 2) (.var 3))) (eD w q x y (some (.int (0 : Nat))) none none none) S = some (.bl (!decide (x < y)), S) := by
              rw [evE]
              simp only [l23, bnd, truD, Option.map_some, giv]
            have n2 : evE (CC K) (.notE (.cmp .Lt (.var 3) (.var 2))) (eD w q x y (some (.int (0 : Nat))) none none none) S = some (.bl (!decide (y < x)), S) := by
              rw [evE]
              simp only [l32, bnd, truD, Option.map_some, giv]
            have n3 : evE (CC K) (.andE (.notE (.cmp .Lt (.var 2) (.var 3))) (.notE (.cmp .Lt (.var 3) (.var 2)))) (eD w q x y (some (.int (0 : Nat))) none none none) S = some (.bl (decide (x = y)), S) := by
              rw [evE, n1]
              simp only [bnd, truD]
              by_cases q1 : x < y
              · have q2 : ¬ x = y := by omega
                simp only [q1, decide_true, Bool.not_true]
                rw [decide_eq_false q2]
              · by_cases q3 : y < x
                · have q2 : ¬ x = y := by omega
                  simp only [q1, decide_false, Bool.not_false, n2, q3, decide_true, Bool.not_true]
                  rw [decide_eq_false q2]
                · have q2 : x = y := by omega
                  simp only [q1, decide_false, Bool.not_false, n2, q3]
                  rw [decide_eq_true q2]
            rw [evE]
            simp only [evEs, n3, bnd, biD, bi1, giv, Option.map_some]
            show some (D.int (if decide (x = y) = true then 1 else 0), S) = some (.int (if x = y then 1 else 0), S)
            simp only [decide_eq_true_eq]
        refine ⟨T1 ++ T2, ?_⟩
        rw [ex_rt ((x_yes t5).trans (ex_rt (x_ret r)))]
        rfl
      · rw [decide_eq_false h45] at t5
        have dueQ : dueI o x y = dueI o x y := rfl
        let S1 : Sto := S ++ [.dk (dueL (.int (x + y)) (.int (x + 65536 - y)) (.int (x * y)) (.int 0))]
        have hm : mulOk x y = true := mulL (by omega) (by omega)
        have r : evE (CC K) (.idx (.dicE (.cons (.str "sum") (.cons (.str "less") (.cons (.str "times") (.cons (.str "over") .nil)))) (.cons (.bin .Add (.var 2) (.var 3)) (.cons (.bin .Sub (.bin .Add (.var 2) (.int (65536))) (.var 3)) (.cons (.bin .Mult (.var 2) (.var 3)) (.cons (.int (0)) .nil))))) (.idx (.var 0) (.int (0)))) (eD w q x y (some (.int (0 : Nat))) none none none) S = some (.int (dueI o x y), S1) := by
          have b1 : evE (CC K) (.bin .Add (.var 2) (.var 3)) (eD w q x y (some (.int (0 : Nat))) none none none) S = some (.int (x + y), S) := by
            rw [evE]
            simp only [v2, v3, bnd, binD]
          have b0 : evE (CC K) (.bin .Add (.var 2) (.int (65536))) (eD w q x y (some (.int (0 : Nat))) none none none) S = some (.int (x + 65536), S) := by
            rw [evE]
            simp only [v2, ev_i, bnd, binD]
          have b2 : evE (CC K) (.bin .Sub (.bin .Add (.var 2) (.int (65536))) (.var 3)) (eD w q x y (some (.int (0 : Nat))) none none none) S = some (.int (x + 65536 - y), S) := by
            rw [evE]
            simp only [b0, v3, bnd, binD]
          have b3 : evE (CC K) (.bin .Mult (.var 2) (.var 3)) (eD w q x y (some (.int (0 : Nat))) none none none) S = some (.int (x * y), S) := by
            rw [evE]
            simp only [v2, v3, bnd, binD, hm, if_true]
          have d1 : evE (CC K) (.dicE (.cons (.str "sum") (.cons (.str "less") (.cons (.str "times") (.cons (.str "over") .nil)))) (.cons (.bin .Add (.var 2) (.var 3)) (.cons (.bin .Sub (.bin .Add (.var 2) (.int (65536))) (.var 3)) (.cons (.bin .Mult (.var 2) (.var 3)) (.cons (.int (0)) .nil))))) (eD w q x y (some (.int (0 : Nat))) none none none) S = some (.ref S.length, S1) := by
            rw [evE]
            simp only [evEs, ev_s, ev_i, b1, b2, b3, bnd]
            rfl
          have hx : idxD (.ref S.length) (.str (opW o)) S1 = some (.int (dueI o x y)) := by
            have hg : S1[S.length]? = some (.dk (dueL (.int (x + y)) (.int (x + 65536 - y)) (.int (x * y)) (.int 0))) := by simp [S1]
            simp only [idxD, hg]
            obtain ⟨k0, k1, k2, k3⟩ := due_val (.int (x + y)) (.int (x + 65536 - y)) (.int (x * y)) (.int 0)
            match o with
            | 0 => exact k0
            | 1 => exact k1
            | 2 => exact k2
            | 3 => exact k3
            | 4 => exact absurd (.inl rfl) h45
            | 5 => exact absurd (.inr rfl) h45
          rw [evE]
          simp only [d1, e0, bnd, hx, giv, Option.map_some]
        have s6 : exS (CC K) (.set (.name 7) (.idx (.dicE (.cons (.str "sum") (.cons (.str "less") (.cons (.str "times") (.cons (.str "over") .nil)))) (.cons (.bin .Add (.var 2) (.var 3)) (.cons (.bin .Sub (.bin .Add (.var 2) (.int (65536))) (.var 3)) (.cons (.bin .Mult (.var 2) (.var 3)) (.cons (.int (0)) .nil))))) (.idx (.var 0) (.int (0))))) (eD w q x y (some (.int (0 : Nat))) none none none) S = some (.nx, eD w q x y (some (.int (0 : Nat))) none none (some (.int (dueI o x y))), S1) := x_set r
        have fin : evE (CC K) (.bin .Sub (.var 7) (.bin .Mult (.int (65536)) (.bin .FloorDiv (.var 7) (.int (65536))))) (eD w q x y (some (.int (0 : Nat))) none none (some (.int (dueI o x y)))) S1 = some (.int (dueI o x y - 65536 * (dueI o x y / 65536)), S1) := by
          have hm2 : ∀ i, mulOk 65536 i = true := fun i => mulL (by decide) (by decide)
          simp [evE, bnd, isLam, binD, hm2]
        refine ⟨(T1 ++ T2) ++ [.dk (dueL (.int (x + y)) (.int (x + 65536 - y)) (.int (x * y)) (.int 0))], ?_⟩
        have hfin : dueI o x y - 65536 * (dueI o x y / 65536) = byW o x y := by
          match o with
          | 0 => show (x + y) - 65536 * ((x + y) / 65536) = (x + y) % 65536; omega
          | 1 => show (x + 65536 - y) - 65536 * ((x + 65536 - y) / 65536) = (x - y) % 65536; omega
          | 2 => show (x * y) - 65536 * ((x * y) / 65536) = x * y % 65536; omega
          | 3 =>
            have hy0 : y = 0 := by
              have : ¬ 0 < y := fun z => hov ⟨rfl, z⟩
              omega
            show (0 : Int) - 65536 * (0 / 65536) = (if y = 0 then 0 else x / y)
            rw [if_pos hy0]
            rfl
          | 4 => exact absurd (.inl rfl) h45
          | 5 => exact absurd (.inr rfl) h45
        rw [ex_nx (x_no t5), ex_nx s6, ex_rt (x_ret fin), hfin]
        simp [endD, S1, S]
end K01
end
section
set_option Elab.async false
set_option linter.all false
set_option maxRecDepth 100000
set_option maxHeartbeats 1000000
namespace K01
open PySem PC
/-! ### unlike names -/
structure Nm (w : List Nat) : Prop where
  lo : 1 ≤ w.length
  hi : w.length ≤ 8
  az : ∀ c ∈ w, c ∈ AZ
def rotL {α : Type} (k : Nat) (l : List α) : List α := l.drop k ++ l.take k
theorem rot_nodup {α : Type} {l : List α} {k : Nat} (h : l.Nodup) : (rotL k l).Nodup :=
  (List.Perm.nodup_iff List.perm_append_comm).mp (by rw [List.take_append_drop]; exact h)
theorem rot_len {α : Type} {l : List α} {k : Nat} : (rotL k l).length = l.length := by
  unfold rotL
  rw [List.length_append, List.length_drop, List.length_take]
  omega
theorem rot_mem {α : Type} {l : List α} {k : Nat} {c : α} (h : c ∈ rotL k l) : c ∈ l := by
  rcases List.mem_append.mp h with h | h
  · exact List.mem_of_mem_drop h
  · exact List.mem_of_mem_take h
theorem rot_map {α β : Type} {l : List α} {k : Nat} (f : α → β) : rotL k (l.map f) = (rotL k l).map f := by
  simp [rotL, List.map_drop, List.map_take]
theorem az_mem {k : Nat} (h : k < 26) : 97 + k ∈ AZ := List.mem_map.mpr ⟨k, List.mem_range.mpr h, rfl⟩
theorem az_nodup : AZ.Nodup := by decide
def sevens (w : List Nat) : List (List Nat) := (List.range 7).map fun k => w.take (1 + k) ++ [120]
def twenties (w : List Nat) (first at' : Nat) : List (List Nat) := (List.range 26).map fun k => (w.take at' ++ [97 + (first + 7 * k) % 26]) ++ w.drop (at' + 1)
def ones (first : Nat) : List (List Nat) := (rotL first AZ).map fun c => [c]
theorem ones_ok (first : Nat) : (ones first).Nodup ∧ (ones first).length = 26 ∧ ∀ w ∈ ones first, Nm w := by
  refine ⟨?_, by rw [ones, List.length_map, rot_len]; rfl, ?_⟩
  · exact List.Pairwise.map _ (fun a b h e => h (by injection e)) (rot_nodup az_nodup)
  · intro w hw
    obtain ⟨c, hc, rfl⟩ := List.mem_map.mp hw
    refine ⟨Nat.le_refl _, by simp, fun d hd => ?_⟩
    rw [List.mem_singleton.mp hd]
    exact rot_mem hc
theorem nodup_range {α : Type} {f : Nat → α} {n : Nat} (h : ∀ i j, i < n → j < n → f i = f j → i = j) : ((List.range n).map f).Nodup := by
  have h2 : List.Pairwise (fun a b => a < n ∧ b < n ∧ a ≠ b) (List.range n) := by
    refine List.Pairwise.imp_of_mem (R := fun a b => a ≠ b) (fun {a b} ha hb hab => ⟨List.mem_range.mp ha, List.mem_range.mp hb, hab⟩) List.nodup_range
  exact List.Pairwise.map _ (fun a b ⟨ha, hb, hab⟩ e => hab (h a b ha hb e)) h2
theorem sevens_ok {w : List Nat} (hl : w.length = 8) (ha : ∀ c ∈ w, c ∈ AZ) : (sevens w).Nodup ∧ (sevens w).length = 7 ∧ ∀ v ∈ sevens w, Nm v := by
  refine ⟨nodup_range fun i j hi hj e => ?_, by simp [sevens], ?_⟩
  · have := congrArg List.length e
    simp only [List.length_append, List.length_take, List.length_singleton, hl] at this
    omega
  · intro v hv
    obtain ⟨k, hk, rfl⟩ := List.mem_map.mp hv
    have hk := List.mem_range.mp hk
    refine ⟨by simp, by simp only [List.length_append, List.length_take, List.length_singleton, hl]; omega, fun d hd => ?_⟩
    rcases List.mem_append.mp hd with h | h
    · exact ha d (List.mem_of_mem_take h)
    · rw [List.mem_singleton.mp h]
      exact az_mem (k := 23) (by decide)
theorem twenties_ok {w : List Nat} {first p : Nat} (hp : p < 8) (hl : w.length = 8) (ha : ∀ c ∈ w, c ∈ AZ) : (twenties w first p).Nodup ∧ (twenties w first p).length = 26 ∧ ∀ v ∈ twenties w first p, Nm v := by
  refine ⟨nodup_range fun i j hi hj e => ?_, by simp [twenties], ?_⟩
  · have e1 := List.append_cancel_right e
    have e2 := List.append_cancel_left e1
    simp only [List.cons.injEq, and_true] at e2
    omega
  · intro v hv
    obtain ⟨k, hk, rfl⟩ := List.mem_map.mp hv
    refine ⟨by simp only [List.length_append, List.length_singleton]; omega, by simp only [List.length_append, List.length_take, List.length_drop, List.length_singleton, hl]; omega, fun d hd => ?_⟩
    rcases List.mem_append.mp hd with h | h
    · rcases List.mem_append.mp h with h | h
      · exact ha d (List.mem_of_mem_take h)
      · rw [List.mem_singleton.mp h]
        exact az_mem (Nat.mod_lt _ (by decide))
    · exact ha d (List.mem_of_mem_drop h)

def W14 : List Str := ["sums", "les", "time", "overs", "belo", "num", "name", "let", "set", "go", "if", "to", "names", "catch"]
def W14n : List (List Nat) := W14.map fun x => x.cps.toList
theorem w14_map : W14.map D.str = W14n.map fun w => D.str (sg w) := by
  unfold W14n
  rw [List.map_map]
  exact List.map_congr_left fun x _ => by
    show D.str x = D.str (sg x.cps.toList)
    rw [sg_eta]
theorem w14_all : W14n.Nodup ∧ W14n.length = 14 ∧ ∀ w ∈ W14n, 1 ≤ w.length ∧ w.length ≤ 8 ∧ ∀ c ∈ w, c ∈ AZ := by decide +kernel
theorem rows_ok (first : Nat) : (rotL first W14n).Nodup ∧ (rotL first W14n).length = 14 ∧ ∀ w ∈ rotL first W14n, Nm w :=
  ⟨rot_nodup w14_all.1, by rw [rot_len]; exact w14_all.2.1, fun w hw => by
    obtain ⟨h1, h2, h3⟩ := w14_all.2.2 w (rot_mem hw)
    exact ⟨h1, h2, h3⟩⟩
/-! ### small steps -/
theorem ev_v {C : Cal} {e : En} {S : Sto} {i : Nat} {d : D} (h : e[i]? = some (some d)) (hl : isLam d = false) : evE C (.var i) e S = some (d, S) := by
  rw [evE]
  simp only [h, hl, if_false, Bool.false_eq_true]
theorem ev_add {C : Cal} {e : En} {S S1 S2 : Sto} {a b : CE} {l m : List Nat} (ha : evE C a e S = some (.str (sg l), S1)) (hb : evE C b e S1 = some (.str (sg m), S2)) (h : l.length + m.length ≤ line) : evE C (.bin .Add a b) e S = some (.str (sg (l ++ m)), S2) := by
  rw [evE]
  simp only [ha, hb, bnd, binD, sg_len, h, if_true, sg_app]
theorem ev_plus {C : Cal} {e : En} {S S1 S2 : Sto} {a b : CE} {i j : Int} (ha : evE C a e S = some (.int i, S1)) (hb : evE C b e S1 = some (.int j, S2)) : evE C (.bin .Add a b) e S = some (.int (i + j), S2) := by
  rw [evE]
  simp only [ha, hb, bnd, binD]
theorem ev_lo {C : Cal} {e : En} {S : Sto} {a x : CE} {l : List Nat} {k : Nat} (ha : evE C a e S = some (.str (sg l), S)) (hx : evE C x e S = some (.int k, S)) (h : l.length ≤ line) (hk : k ≤ l.length) : evE C (.slc a (.so x) .no) e S = some (.str (sg (l.drop k)), S) := by
  rw [evE]
  simp only [ha, evO, hx, bnd, slcD, sg_len, h, if_true, cut_lo hk]
theorem ev_hi {C : Cal} {e : En} {S : Sto} {a x : CE} {l : List Nat} {k : Nat} (ha : evE C a e S = some (.str (sg l), S)) (hx : evE C x e S = some (.int k, S)) (h : l.length ≤ line) (hk : k ≤ l.length) : evE C (.slc a .no (.so x)) e S = some (.str (sg (l.take k)), S) := by
  rw [evE]
  simp only [ha, evO, hx, bnd, slcD, sg_len, h, if_true, cut_hi hk]
theorem cutL_hi {α : Type} {l : List α} {k : Nat} : cutL l none (some (k : Int)) = l.take k := by
  unfold cutL
  rw [HT.sIx_nat, HT.sIx_none, Nat.sub_zero, List.drop_zero, ← List.take_eq_take_min]
theorem cutL_lo {α : Type} {l : List α} {k : Nat} (h : k ≤ l.length) : cutL l (some (k : Int)) none = l.drop k := by
  unfold cutL
  rw [HT.sIx_nat, HT.sIx_none, Nat.min_eq_left h]
  exact List.take_of_length_le (by simp)
theorem it_rng {M : Nat} (hM : M ≤ 100) {S : Sto} : itD .range [.int (M : Nat)] S = some ((List.range M).map fun (k : Nat) => D.int (0 + k), []) := by
  show itR1 (.int (M : Nat)) = _
  have h : -(2 ^ 62) ≤ (M : Int) ∧ (M : Int) < 2 ^ 62 := by omega
  simp only [itR1, h, and_self, if_true, Int.toNat_natCast]
theorem lc_any {C : Cal} {e : En} {S S2 : Sto} {elt : CE} {ifs : CEs} {src : Src} {k : Nat} {i : Int} {xs ys : List D} (hi : itD src [.int i] S = some (xs, [])) (hl : ys.length ≤ 100) (h : lcLoop (lcTn (tstEs C ifs) (evE C elt) (.name k) (e.set k none)) xs S = some (ys, S2)) :
    evE C (.lc elt (.name k) src (.cons (.int i) .nil) ifs [k]) e S = some (.ref S2.length, S2 ++ [.lst ys]) := by
  have hl2 : ys.length < line := Nat.lt_of_le_of_lt hl (by decide)
  rw [evE]
  simp only [evEs, ev_i, bnd, lcRun, hi, wipe, List.foldl_nil, h, hl2, if_true, PC.new]
theorem lc_rng {C : Cal} {e : En} {S S2 : Sto} {elt : CE} {ifs : CEs} {k M : Nat} {i : Int} {ys : List D} (hi : i = (M : Nat)) (hM : M ≤ 100) (hl : ys.length ≤ 100) (h : lcLoop (lcTn (tstEs C ifs) (evE C elt) (.name k) (e.set k none)) ((List.range M).map fun (k : Nat) => D.int (0 + k)) S = some (ys, S2)) :
    evE C (.lc elt (.name k) .range (.cons (.int i) .nil) ifs [k]) e S = some (.ref S2.length, S2 ++ [.lst ys]) := by
  subst hi
  exact lc_any (it_rng hM) hl h
theorem loop_nat {t : En → Sto → Re Bool} {f : En → Sto → Re D} {tg : Tg} {e : En} {S : Sto} {g : Nat → D} : ∀ ks : List Nat, (∀ k ∈ ks, lcTn t f tg e (.int (0 + (k : Nat))) S = some (some (g k), S)) → lcLoop (lcTn t f tg e) (ks.map fun (k : Nat) => D.int (0 + k)) S = some (ks.map g, S)
  | [], _ => rfl
  | x :: xs, h => by
    rw [List.map_cons, lcLoop, h x List.mem_cons_self]
    simp only [loop_nat xs fun y hy => h y (List.mem_cons_of_mem _ hy)]
    rfl
theorem join_sg : ∀ cs : List Nat, Str.join "" (cs.map fun k => sg [k]) = sg cs
  | [] => rfl
  | [k] => rfl
  | k :: j :: r => by
    have ih := join_sg (j :: r)
    rw [List.map_cons] at ih
    rw [List.map_cons, List.map_cons]
    show sg [k] ++ "" ++ Str.join "" (sg [j] :: r.map fun k => sg [k]) = _
    rw [ih, show ("" : Str) = sg [] from by decide +kernel, sg_app, sg_app]
    rfl
theorem om_str1 (cs : List Nat) : optMap strD (cs.map fun k => D.str (sg [k])) = some (cs.map fun k => sg [k]) := by
  induction cs with
  | nil => rfl
  | cons k r ih => exact om_cons rfl ih
theorem ev_lst {C : Cal} {e : En} {S S1 : Sto} {es : CEs} {xs : List D} (h : evEs C es e S = some (xs, S1)) (hl : xs.length ≤ 100) : evE C (.lstE es) e S = some (.ref S1.length, S1 ++ [.lst xs]) := by
  have hl2 : xs.length ≤ line := Nat.le_trans hl (by decide)
  rw [evE]
  simp only [h, bnd, hl2, if_true, PC.new]
theorem ev_tup {C : Cal} {e : En} {S S1 : Sto} {es : CEs} {xs : List D} (h : evEs C es e S = some (xs, S1)) (hl : xs.length ≤ 100) : evE C (.tupE es) e S = some (.tup xs, S1) := by
  have hl2 : xs.length ≤ line := Nat.le_trans hl (by decide)
  rw [evE]
  simp only [h, bnd, hl2, if_true]
theorem es_nil {C : Cal} {e : En} {S : Sto} : evEs C .nil e S = some ([], S) := by rw [evEs]
theorem es_cons {C : Cal} {e : En} {S S1 S2 : Sto} {a : CE} {r : CEs} {x : D} {xs : List D} (ha : evE C a e S = some (x, S1)) (hr : evEs C r e S1 = some (xs, S2)) : evEs C (.cons a r) e S = some (x :: xs, S2) := by
  rw [evEs]
  simp only [ha, hr, bnd]
/-- "".join of one-letter texts -/
theorem ev_join {C : Cal} {e : En} {S S1 : Sto} {a : CE} {m : Nat} {cs : List Nat} (ha : evE C a e S = some (.ref m, S1)) (hm : S1[m]? = some (.lst (cs.map fun k => D.str (sg [k])))) (hl : cs.length ≤ 100) : evE C (.meth (.str "") "join" (.cons a .nil)) e S = some (.str (sg cs), S1) := by
  have hs : ((cs.map fun k => sg [k]).map (·.length)).sum = cs.length := by
    rw [List.map_map]
    clear hm hl
    induction cs with
    | nil => rfl
    | cons k r ih => rw [List.map_cons, List.sum_cons, ih, List.length_cons, Nat.add_comm]; rfl
  have hj : metD (.str "") "join" [.ref m] S1 = some (.str (sg cs), S1) := by
    have hm2 : mJoin (.str "") (.ref m) S1 = some (.str (sg cs), S1) := by
      unfold mJoin
      have hq : (seqD (.ref m) S1).bind (optMap strD) = some (cs.map fun k => sg [k]) := by
        show (lstD (.ref m) S1).bind _ = _
        unfold lstD
        simp only [hm, Option.bind_some, om_str1]
      simp only [hq]
      rw [if_pos]
      · rw [show Txt.join "" (cs.map fun k => sg [k]) = sg cs from (StrLaws.glued_eq_join _ _).trans (join_sg cs)]
      · rw [hs, show ("" : Str).length = 0 from by decide +kernel, Nat.mul_zero]
        exact Nat.le_trans hl (by decide)
    rw [← hm2]
    rfl
  rw [evE]
  simp only [ev_s, bnd, metK, evEs, ha, hj, if_true]
end K01
end
section
set_option Elab.async false
set_option linter.all false
set_option maxRecDepth 100000
set_option maxHeartbeats 1000000
namespace K01
open PySem PC
def uE (n cnt so fi p : Nat) (w : Option D) (k : Option D) (ws : Option D) (sm : Option D) : En := [some (.ref n), some (.int (cnt : Nat)), some (.str (sg AZ)), some (.int (so : Nat)), some (.int (fi : Nat)), some (.int (p : Nat)), w, k, ws, sm]
/-- the seven beginnings -/
theorem lc_sevens {C : Cal} {n cnt so fi p : Nat} {ws sm : Option D} {S : Sto} {cs : List Nat} (hl : cs.length = 8) :
    evE C (.lc (.bin .Add (.slc (.var 6) .no (.so (.bin .Add (.int (1)) (.var 7)))) (.str "x")) (.name 7) .range (.cons (.int (7)) .nil) .nil [7]) (uE n cnt so fi p (some (.str (sg cs))) none ws sm) S = some (.ref S.length, S ++ [.lst ((sevens cs).map fun w => .str (sg w))]) := by
  refine lc_rng (M := 7) rfl (by decide) (by simp [sevens]) ?_
  rw [show (sevens cs).map (fun w => D.str (sg w)) = (List.range 7).map fun k => D.str (sg (cs.take (1 + k) ++ [120])) by
    unfold sevens
    rw [List.map_map]
    rfl]
  refine loop_nat _ fun k hk => ?_
  have hk := List.mem_range.mp hk
  show lcTn _ _ _ (uE n cnt so fi p (some (.str (sg cs))) none ws sm) _ _ = _
  have hv : evE C (.var 7) (uE n cnt so fi p (some (.str (sg cs))) (some (.int (0 + (k : Nat)))) ws sm) S = some (.int (0 + (k : Nat)), S) := ev_v rfl rfl
  have hp := ev_plus (C := C) (ev_i (i := 1)) hv
  rw [show (1 : Int) + (0 + (k : Nat)) = ((1 + k : Nat) : Int) by omega] at hp
  have hw : evE C (.var 6) (uE n cnt so fi p (some (.str (sg cs))) (some (.int (0 + (k : Nat)))) ws sm) S = some (.str (sg cs), S) := ev_v rfl rfl
  have hx : evE C (.str "x") (uE n cnt so fi p (some (.str (sg cs))) (some (.int (0 + (k : Nat)))) ws sm) S = some (.str (sg [120]), S) := by
    rw [ev_s, show ("x" : Str) = sg [120] from by decide +kernel]
  have hc := ev_hi hw hp (by rw [hl]; decide) (by omega)
  have ha := ev_add hc hx (by
    rw [List.length_take, hl]
    exact Nat.le_trans (Nat.add_le_add (Nat.min_le_right _ _) (Nat.le_refl 1)) (by decide))
  have e1 : putT (.name 7) (.int (0 + (k : Nat))) (uE n cnt so fi p (some (.str (sg cs))) none ws sm) = some (uE n cnt so fi p (some (.str (sg cs))) (some (.int (0 + (k : Nat)))) ws sm) := rfl
  simp only [lcTn, e1, tstEs, ha]
/-- the twenty-six -/
theorem lc_twenties {C : Cal} {n cnt so fi p : Nat} {ws sm : Option D} {S : Sto} {cs : List Nat} (hl : cs.length = 8) (hp8 : p < 8) :
    evE C (.lc (.bin .Add (.bin .Add (.slc (.var 6) .no (.so (.var 5))) (.idx (.var 2) (.bin .Mod (.bin .Add (.var 4) (.bin .Mult (.int (7)) (.var 7))) (.int (26))))) (.slc (.var 6) (.so (.bin .Add (.var 5) (.int (1)))) .no)) (.name 7) .range (.cons (.int (26)) .nil) .nil [7]) (uE n cnt so fi p (some (.str (sg cs))) none ws sm) S = some (.ref S.length, S ++ [.lst ((twenties cs fi p).map fun w => .str (sg w))]) := by
  refine lc_rng (M := 26) rfl (by decide) (by simp [twenties]) ?_
  rw [show (twenties cs fi p).map (fun w => D.str (sg w)) = (List.range 26).map fun k => D.str (sg ((cs.take p ++ [97 + (fi + 7 * k) % 26]) ++ cs.drop (p + 1))) by
    unfold twenties
    rw [List.map_map]
    rfl]
  refine loop_nat _ fun k hk => ?_
  have hk := List.mem_range.mp hk
  show lcTn _ _ _ (uE n cnt so fi p (some (.str (sg cs))) none ws sm) _ _ = _
  let e : En := uE n cnt so fi p (some (.str (sg cs))) (some (.int (0 + (k : Nat)))) ws sm
  have h2 : evE C (.var 2) e S = some (.str (sg AZ), S) := ev_v rfl rfl
  have h4 : evE C (.var 4) e S = some (.int (fi : Nat), S) := ev_v rfl rfl
  have h5 : evE C (.var 5) e S = some (.int (p : Nat), S) := ev_v rfl rfl
  have h6 : evE C (.var 6) e S = some (.str (sg cs), S) := ev_v rfl rfl
  have h7 : evE C (.var 7) e S = some (.int (0 + (k : Nat)), S) := ev_v rfl rfl
  have hm : evE C (.bin .Mult (.int (7)) (.var 7)) e S = some (.int (7 * (0 + (k : Nat))), S) := by
    have hq : mulOk 7 (0 + (k : Nat)) = true := mulL (by decide) (by decide)
    rw [evE]
    simp only [ev_i, h7, bnd, binD, hq, if_true]
  have hs := ev_plus h4 hm
  have hi : evE C (.bin .Mod (.bin .Add (.var 4) (.bin .Mult (.int (7)) (.var 7))) (.int (26))) e S = some (.int (((fi + 7 * k) % 26 : Nat) : Int), S) := by
    rw [evE]
    simp only [hs, ev_i, bnd, binD]
    rw [if_pos (by decide), show ((fi : Int) + 7 * (0 + (k : Nat))) % 26 = (((fi + 7 * k) % 26 : Nat) : Int) by omega]
  have hx : evE C (.idx (.var 2) (.bin .Mod (.bin .Add (.var 4) (.bin .Mult (.int (7)) (.var 7))) (.int (26)))) e S = some (.str (sg [97 + (fi + 7 * k) % 26]), S) := by
    have hr : AZ[(fi + 7 * k) % 26]? = some (97 + (fi + 7 * k) % 26) := by
      rw [List.getElem?_map, List.getElem?_range (Nat.mod_lt _ (by decide))]
      rfl
    have hd : idxD (.str (sg AZ)) (.int (((fi + 7 * k) % 26 : Nat) : Int)) S = some (.str (sg [97 + (fi + 7 * k) % 26])) := by
      show (if (sg AZ).length ≤ line then (L2.atI (sg AZ).cps.toList (((fi + 7 * k) % 26 : Nat) : Int)).map fun c => D.str ⟨#[c]⟩ else none) = _
      rw [if_pos (by rw [sg_len]; decide), sg_tl, atI_nat hr]
      rfl
    rw [evE]
    simp only [h2, hi, bnd, hd, giv, Option.map_some]
  have ha := ev_hi h6 h5 (by rw [hl]; decide) (by omega)
  have hp1 := ev_plus h5 (ev_i (i := 1))
  rw [show (p : Int) + 1 = ((p + 1 : Nat) : Int) by omega] at hp1
  have hz := ev_lo h6 hp1 (by rw [hl]; decide) (by omega)
  have hb := ev_add ha hx (by
    rw [List.length_take, hl]
    exact Nat.le_trans (Nat.add_le_add (Nat.min_le_right _ _) (Nat.le_refl 1)) (by decide))
  have hc := ev_add hb hz (by
    rw [List.length_append, List.length_take, List.length_drop, hl]
    exact Nat.le_trans (Nat.add_le_add (Nat.add_le_add (Nat.min_le_right _ _) (Nat.le_refl 1)) (Nat.sub_le _ _)) (by decide))
  have e1 : putT (.name 7) (.int (0 + (k : Nat))) (uE n cnt so fi p (some (.str (sg cs))) none ws sm) = some e := rfl
  simp only [lcTn, e1, tstEs, hc]
/-- list(..)[:count] -/
theorem col_cut {C : Cal} {e : En} {S : Sto} {a : CE} {v : D} {xs : List D} {st : List Nat} {cnt i : Nat} (ha : evE C a e S = some (v, S)) (hi : itD .val [v] S = some (xs, st)) (hl : xs.length ≤ 100) (he : e[i]? = some (some (.int (cnt : Nat)))) :
    evE C (.slc (.col .val (.cons a .nil)) .no (.so (.var i))) e S = some (.ref (S.length + 1), (S ++ [.lst xs]) ++ [.lst (xs.take cnt)]) := by
  have hl2 : xs.length ≤ line := Nat.le_trans hl (by decide)
  have c1 : evE C (.col .val (.cons a .nil)) e S = some (.ref S.length, S ++ [.lst xs]) := by
    rw [evE]
    simp only [evEs, ha, bnd, hi, hl2, if_true, PC.new]
  have hv : evE C (.var i) e (S ++ [.lst xs]) = some (.int (cnt : Nat), S ++ [.lst xs]) := ev_v he rfl
  have hs : (S ++ [Ob.lst xs])[S.length]? = some (.lst xs) := by simp
  rw [evE]
  simp only [c1, evO, hv, bnd, slcD, hs, cutL_hi, PC.new, List.length_append, List.length_singleton]
end K01
end
section
set_option Elab.async false
set_option linter.all false
set_option maxRecDepth 100000
set_option maxHeartbeats 1000000
namespace K01
open PySem PC
theorem at_app {S : Sto} {m : Nat} {o : Ob} (h : S[m]? = some o) (T : Sto) : (S ++ T)[m]? = some o := by
  rw [List.getElem?_append_left (List.getElem?_eq_some_iff.mp h).1]
  exact h
theorem at_set {S : Sto} {m k : Nat} {o x : Ob} (h : S[m]? = some o) (hk : k ≠ m) : (S.set k x)[m]? = some o := (List.getElem?_set_ne hk).trans h
theorem at_own {S : Sto} {m : Nat} {o x : Ob} (h : S[m]? = some o) : (S.set m x)[m]? = some x := List.getElem?_set_self (List.getElem?_eq_some_iff.mp h).1
theorem at_new {S : Sto} {o : Ob} : (S ++ [o])[S.length]? = some o := by simp
theorem Frm.set_ {n c k : Nat} {S S1 : Sto} {x : Ob} (f : Frm n c S S1) (h : S.length ≤ k) : Frm n c S (S1.set k x) :=
  ⟨by rw [List.length_set]; exact f.le, fun m h1 h2 h3 => (List.getElem?_set_ne (by omega)).trans (f.eq m h1 h2 h3)⟩
theorem Dk.set_ {n c k : Nat} {S : Sto} {x : Ob} (d : Dk n c S) (hn : k ≠ n) (hc : k ≠ c) : Dk n c (S.set k x) := by
  obtain ⟨a, b, e, q1, q2, q3⟩ := d.at_
  exact ⟨d.ne, a, b, e, at_set q1 hn, at_set q2 hc, q3⟩
theorem x_app {C : Cal} {e : En} {S S1 : Sto} {o a : CE} {m : Nat} {xs ys : List D} {v : D} (ho : evE C o e S = some (.ref m, S)) (hm : S[m]? = some (.lst xs)) (ha : evE C a e S = some (v, S1)) (hm1 : S1[m]? = some (.lst ys)) (hl : ys.length ≤ 100) :
    exS C (.exp (.meth o "append" (.cons a .nil))) e S = some (.nx, e, S1.set m (.lst (ys ++ [v]))) := by
  refine x_exp (d := .non) ?_
  have hp : metD (.ref m) "append" [v] S1 = some (.non, S1.set m (.lst (ys ++ [v]))) := by
    show mAppend (.ref m) v S1 = _
    unfold mAppend
    simp only [hm1]
    rw [if_pos (Nat.lt_of_le_of_lt hl (by decide))]
  rw [evE]
  simp only [ho, bnd, metK, hm, if_true, evEs, ha, hp]
theorem ev_rot {C : Cal} {e : En} {S : Sto} {a x : CE} {m k : Nat} {xs : List D} (ha : ∀ T, evE C a e (S ++ T) = some (.ref m, S ++ T)) (hx : ∀ T, evE C x e (S ++ T) = some (.int (k : Nat), S ++ T)) (hm : S[m]? = some (.lst xs)) (hk : k ≤ xs.length) (hl : xs.length ≤ 100) :
    evE C (.bin .Add (.slc a (.so x) .no) (.slc a .no (.so x))) e S = some (.ref (S.length + 2), S ++ [.lst (xs.drop k), .lst (xs.take k), .lst (xs.drop k ++ xs.take k)]) := by
  have ha0 := ha []
  have hx0 := hx []
  rw [List.append_nil] at ha0 hx0
  have c1 : evE C (.slc a (.so x) .no) e S = some (.ref S.length, S ++ [.lst (xs.drop k)]) := by
    rw [evE]
    simp only [ha0, evO, hx0, bnd, slcD, hm, cutL_lo hk, PC.new]
  have c2 : evE C (.slc a .no (.so x)) e (S ++ [.lst (xs.drop k)]) = some (.ref (S.length + 1), (S ++ [.lst (xs.drop k)]) ++ [.lst (xs.take k)]) := by
    rw [evE]
    simp only [ha, evO, hx, bnd, slcD, at_app hm, cutL_hi, PC.new, List.length_append, List.length_singleton]
  have g1 : ((S ++ [Ob.lst (xs.drop k)]) ++ [.lst (xs.take k)])[S.length]? = some (.lst (xs.drop k)) := at_app at_new _
  have g2 : ((S ++ [Ob.lst (xs.drop k)]) ++ [.lst (xs.take k)])[S.length + 1]? = some (.lst (xs.take k)) := by
    have := at_new (S := S ++ [Ob.lst (xs.drop k)]) (o := .lst (xs.take k))
    rwa [List.length_append, List.length_singleton] at this
  have hle : (xs.drop k).length + (xs.take k).length ≤ line := by
    rw [List.length_drop, List.length_take, Nat.min_eq_left hk, Nat.sub_add_cancel hk]
    exact Nat.le_trans hl (by decide)
  rw [evE]
  simp only [c1, c2, bnd, binD, g1, g2, hle, if_true, PC.new]
  simp
theorem unlike_ok {L n c cnt : Nat} {S : Sto} (d : Dk n c S) (h1 : 1 ≤ cnt) :
    ∃ (ws : List (List Nat)) (m : Nat) (S' : Sto), (CC (L + 2)).fn 12 [.ref n, .int (cnt : Nat)] S = some (.ref m, S') ∧ S'[m]? = some (.lst (ws.map fun w => .str (sg w))) ∧ S.length ≤ m ∧ ws.Nodup ∧ 1 ≤ ws.length ∧ ws.length ≤ cnt ∧ (∀ w ∈ ws, Nm w) ∧ Dk n c S' ∧ Frm n c S S' := by
  rw [show L + 2 = (L + 1) + 1 from rfl, fn_eq (F := ⟨2, 10, c12⟩) rfl rfl]
  show ∃ (ws : List (List Nat)) (m : Nat) (S' : Sto), endD (exSs (CC (L + 1)) c12 [some (.ref n), some (.int (cnt : Nat)), none, none, none, none, none, none, none, none] S) = _ ∧ _
  let e1 : En := [some (.ref n), some (.int (cnt : Nat)), some (.str (sg AZ)), none, none, none, none, none, none, none]
  have s1 : exS (CC (L + 1)) (.set (.name 2) (.str "abcdefghijklmnopqrstuvwxyz")) [some (.ref n), some (.int (cnt : Nat)), none, none, none, none, none, none, none, none] S = some (.nx, e1, S) := by
    rw [x_set ev_s, AZ_eq]
    rfl
  obtain ⟨so, S1, q1, so4, d1, f1⟩ := ev_draw (L := L) (w := 4) (e := e1) d rfl (by decide) (by decide)
  obtain ⟨fi, S2, q2, fi26, d2, f2⟩ := ev_draw (L := L) (w := 26) (e := e1) d1 rfl (by decide) (by decide)
  obtain ⟨p, S3, q3, p8, d3, f3⟩ := ev_draw (L := L) (w := 8) (e := e1) d2 rfl (by decide) (by decide)
  have q1' : evE (CC (L + 1)) (.call 10 (.cons (.var 0) (.cons (.int (4)) .nil)) []) e1 S = some (.int (so : Nat), S1) := q1
  have q2' : evE (CC (L + 1)) (.call 10 (.cons (.var 0) (.cons (.int (26)) .nil)) []) e1 S1 = some (.int (fi : Nat), S2) := q2
  have q3' : evE (CC (L + 1)) (.call 10 (.cons (.var 0) (.cons (.int (8)) .nil)) []) e1 S2 = some (.int (p : Nat), S3) := q3
  have s2 : exS (CC (L + 1)) (.set (.tup [3, 4, 5]) (.tupE (.cons (.call 10 (.cons (.var 0) (.cons (.int (4)) .nil)) []) (.cons (.call 10 (.cons (.var 0) (.cons (.int (26)) .nil)) []) (.cons (.call 10 (.cons (.var 0) (.cons (.int (8)) .nil)) []) .nil))))) e1 S = some (.nx, uE n cnt so fi p none none none none, S3) := by
    have : evE (CC (L + 1)) (.tupE (.cons (.call 10 (.cons (.var 0) (.cons (.int (4)) .nil)) []) (.cons (.call 10 (.cons (.var 0) (.cons (.int (26)) .nil)) []) (.cons (.call 10 (.cons (.var 0) (.cons (.int (8)) .nil)) []) .nil)))) e1 S = some (.tup [.int (so : Nat), .int (fi : Nat), .int (p : Nat)], S3) := by
      rw [evE]
      simp only [evEs, q1', q2', q3', bnd]
      rfl
    simp only [exS, this, bnS]
    rfl
  have f123 := f1.trans (f2.trans f3)
  clear q1 q2 q3 q1' q2' q3' f1 f2 f3 d1 d2
  -- the word
  obtain ⟨cs, S4, q4, l4, m4, d4, f4⟩ := loop_letters (L := L) (n := n) (c := c) (e := (uE n cnt so fi p none none none none).set 7 none) (fun _ => rfl) (fun _ => rfl) ((List.range 8).map fun (k : Nat) => D.int (0 + k)) S3 d3
  rw [List.length_map, List.length_range] at l4
  have hlc := lc_rng (i := 8) (M := 8) rfl (by decide) (by rw [List.length_map, l4]; decide) q4
  have hj := ev_join hlc at_new (by rw [l4]; decide)
  have s3 : exS (CC (L + 1)) (.set (.name 6) (.meth (.str "") "join" (.cons (.lc (.idx (.var 2) (.call 10 (.cons (.var 0) (.cons (.int (26)) .nil)) [])) (.name 7) .range (.cons (.int (8)) .nil) .nil [7]) .nil))) (uE n cnt so fi p none none none none) S3 = some (.nx, uE n cnt so fi p (some (.str (sg cs))) none none none, S4 ++ [.lst (cs.map fun k => .str (sg [k]))]) := x_set hj
  have d5 := d4.app [.lst (cs.map fun k => .str (sg [k]))]
  have f5 := f123.trans (f4.trans (Frm.app [.lst (cs.map fun k => .str (sg [k]))]))
  generalize S4 ++ [Ob.lst (cs.map fun k => .str (sg [k]))] = A at *
  clear hj hlc q4 f4 d4 f123 d3
  -- the words
  have s4 : exS (CC (L + 1)) (.set (.name 8) (.lstE (.cons (.str "sums") (.cons (.str "les") (.cons (.str "time") (.cons (.str "overs") (.cons (.str "belo") (.cons (.str "num") (.cons (.str "name") (.cons (.str "let") (.cons (.str "set") (.cons (.str "go") (.cons (.str "if") (.cons (.str "to") (.cons (.str "names") (.cons (.str "catch") .nil)))))))))))))))) (uE n cnt so fi p (some (.str (sg cs))) none none none) A = some (.nx, uE n cnt so fi p (some (.str (sg cs))) none (some (.ref A.length)) none, A ++ [.lst (W14n.map fun w => .str (sg w))]) := by
    refine x_set ?_
    rw [evE, ← w14_map]
    simp only [evEs, ev_s, bnd]
    rw [if_pos (by decide)]
    rfl
  have b8 : (A ++ [Ob.lst (W14n.map fun w => .str (sg w))])[A.length]? = some (.lst (W14n.map fun w => .str (sg w))) := at_new
  have d6 := d5.app [.lst (W14n.map fun w => .str (sg w))]
  have f6 := f5.trans (Frm.app [.lst (W14n.map fun w => .str (sg w))])
  have a8 : S.length ≤ A.length := f5.le
  generalize A.length = m8 at *
  generalize A ++ [Ob.lst (W14n.map fun w => .str (sg w))] = B at *
  clear d5 f5
  -- the sorts
  let rot : D := .str (sg (rotL fi AZ))
  have s5 : exS (CC (L + 1)) (.set (.name 9) (.lstE (.cons (.bin .Add (.slc (.var 2) (.so (.var 4)) .no) (.slc (.var 2) .no (.so (.var 4)))) (.cons (.lc (.bin .Add (.slc (.var 6) .no (.so (.bin .Add (.int (1)) (.var 7)))) (.str "x")) (.name 7) .range (.cons (.int (7)) .nil) .nil [7]) .nil)))) (uE n cnt so fi p (some (.str (sg cs))) none (some (.ref m8)) none) B = some (.nx, uE n cnt so fi p (some (.str (sg cs))) none (some (.ref m8)) (some (.ref (B.length + 1))), (B ++ [.lst ((sevens cs).map fun w => .str (sg w))]) ++ [.lst [rot, .ref B.length]]) := by
    refine x_set ?_
    have v2 : evE (CC (L + 1)) (.var 2) (uE n cnt so fi p (some (.str (sg cs))) none (some (.ref m8)) none) B = some (.str (sg AZ), B) := ev_v rfl rfl
    have v4 : evE (CC (L + 1)) (.var 4) (uE n cnt so fi p (some (.str (sg cs))) none (some (.ref m8)) none) B = some (.int (fi : Nat), B) := ev_v rfl rfl
    have hle : fi ≤ AZ.length := by rw [List.length_map, List.length_range]; omega
    have hr := ev_add (ev_lo v2 v4 (by decide) hle) (ev_hi v2 v4 (by decide) hle) (by
      rw [List.length_drop, List.length_take, Nat.min_eq_left hle, Nat.sub_add_cancel hle]
      decide)
    have hs := lc_sevens (C := CC (L + 1)) (n := n) (cnt := cnt) (so := so) (fi := fi) (p := p) (ws := some (.ref m8)) (sm := none) (S := B) l4
    have := ev_lst (es_cons hr (es_cons hs es_nil)) (show 2 ≤ 100 by decide)
    rw [List.length_append, List.length_singleton] at this
    exact this
  have g7 : (B ++ [Ob.lst ((sevens cs).map fun w => .str (sg w))])[B.length]? = some (.lst ((sevens cs).map fun w => .str (sg w))) := at_new
  have b7 := at_app g7 [.lst [rot, .ref B.length]]
  have b9 : ((B ++ [Ob.lst ((sevens cs).map fun w => .str (sg w))]) ++ [.lst [rot, .ref B.length]])[B.length + 1]? = some (.lst [rot, .ref B.length]) := by
    have := at_new (S := B ++ [Ob.lst ((sevens cs).map fun w => .str (sg w))]) (o := .lst [rot, .ref B.length])
    rwa [List.length_append, List.length_singleton] at this
  have b8' := at_app (at_app b8 [.lst ((sevens cs).map fun w => .str (sg w))]) [.lst [rot, .ref B.length]]
  have d7 := (d6.app [.lst ((sevens cs).map fun w => .str (sg w))]).app [.lst [rot, .ref B.length]]
  have f7 := (f6.trans (Frm.app [.lst ((sevens cs).map fun w => .str (sg w))])).trans (Frm.app [.lst [rot, .ref B.length]])
  have l7 := f6.le
  have l8 : m8 < B.length := (List.getElem?_eq_some_iff.mp b8).1
  generalize hB : B.length = m7 at *
  generalize (B ++ [Ob.lst ((sevens cs).map fun w => .str (sg w))]) ++ [Ob.lst [rot, .ref m7]] = G at *
  clear g7 b8 d6 f6
  -- the twenty-six
  let v9 : En := uE n cnt so fi p (some (.str (sg cs))) none (some (.ref m8)) (some (.ref (m7 + 1)))
  have h26 := lc_twenties (C := CC (L + 1)) (n := n) (cnt := cnt) (so := so) (fi := fi) (p := p) (ws := some (.ref m8)) (sm := some (.ref (m7 + 1))) (S := G) l4 p8
  have e9 : ∀ T, evE (CC (L + 1)) (.var 9) v9 T = some (.ref (m7 + 1), T) := fun T => ev_v rfl rfl
  have s6 := x_app (e9 G) b9 h26 (at_app b9 _) (show 2 ≤ 100 by decide)
  have lG : m7 + 1 < G.length := (List.getElem?_eq_some_iff.mp b9).1
  have c6 : ((G ++ [Ob.lst ((twenties cs fi p).map fun w => .str (sg w))]).set (m7 + 1) (.lst ([rot, .ref m7] ++ [.ref G.length])))[G.length]? = some (.lst ((twenties cs fi p).map fun w => .str (sg w))) := at_set at_new (by omega)
  have c7 : ((G ++ [Ob.lst ((twenties cs fi p).map fun w => .str (sg w))]).set (m7 + 1) (.lst ([rot, .ref m7] ++ [.ref G.length])))[m7]? = some (.lst ((sevens cs).map fun w => .str (sg w))) := at_set (at_app b7 _) (by omega)
  have c8 : ((G ++ [Ob.lst ((twenties cs fi p).map fun w => .str (sg w))]).set (m7 + 1) (.lst ([rot, .ref m7] ++ [.ref G.length])))[m8]? = some (.lst (W14n.map fun w => .str (sg w))) := at_set (at_app b8' _) (by omega)
  have c9 : ((G ++ [Ob.lst ((twenties cs fi p).map fun w => .str (sg w))]).set (m7 + 1) (.lst ([rot, .ref m7] ++ [.ref G.length])))[m7 + 1]? = some (.lst ([rot, .ref m7] ++ [.ref G.length])) := at_own (at_app b9 _)
  have nlt := d.lt
  have d8 := (d7.app [.lst ((twenties cs fi p).map fun w => .str (sg w))]).set_ (k := m7 + 1) (x := .lst ([rot, .ref m7] ++ [.ref G.length])) (by omega) (by omega)
  have f8 := (f7.trans (Frm.app [.lst ((twenties cs fi p).map fun w => .str (sg w))])).set_ (k := m7 + 1) (x := .lst ([rot, .ref m7] ++ [.ref G.length])) (by omega)
  generalize (G ++ [Ob.lst ((twenties cs fi p).map fun w => .str (sg w))]).set (m7 + 1) (.lst ([rot, .ref m7] ++ [.ref G.length])) = H at *
  generalize G.length = m6 at *
  clear b7 b9 b8' d7 f7 h26 hB
  -- the rows' words
  have hmod : ∀ T, evE (CC (L + 1)) (.bin .Mod (.var 4) (.int (14))) v9 T = some (.int ((fi % 14 : Nat) : Int), T) := fun T => by
    have v4 : evE (CC (L + 1)) (.var 4) v9 T = some (.int (fi : Nat), T) := ev_v rfl rfl
    rw [evE]
    simp only [v4, ev_i, bnd, binD]
    rw [if_pos (by decide)]
    rfl
  have e8 : ∀ T, evE (CC (L + 1)) (.var 8) v9 T = some (.ref m8, T) := fun T => ev_v rfl rfl
  have hW : (W14n.map fun w => D.str (sg w)).length = 14 := by rw [List.length_map]; exact w14_all.2.1
  have hrot := ev_rot (C := CC (L + 1)) (e := v9) (S := H) (a := .var 8) (x := .bin .Mod (.var 4) (.int (14))) (fun T => e8 _) (fun T => hmod _) c8 (by rw [hW]; exact Nat.le_of_lt (Nat.mod_lt _ (by decide))) (by rw [hW]; decide)
  have hrw : (W14n.map fun w => D.str (sg w)).drop (fi % 14) ++ (W14n.map fun w => D.str (sg w)).take (fi % 14) = (rotL (fi % 14) W14n).map fun w => D.str (sg w) := rot_map _
  rw [hrw] at hrot
  have s7 := x_app (e9 H) c9 hrot (at_app c9 _) (show 3 ≤ 100 by decide)
  have lH : m7 + 1 < H.length := (List.getElem?_eq_some_iff.mp c9).1
  have g5 : (H ++ [Ob.lst ((W14n.map fun w => D.str (sg w)).drop (fi % 14)), .lst ((W14n.map fun w => D.str (sg w)).take (fi % 14)), .lst ((rotL (fi % 14) W14n).map fun w => .str (sg w))])[H.length + 2]? = some (.lst ((rotL (fi % 14) W14n).map fun w => .str (sg w))) := by simp
  have k5 := at_set (k := m7 + 1) (x := .lst (([rot, .ref m7] ++ [.ref m6]) ++ [.ref (H.length + 2)])) g5 (by omega)
  have l6 : m6 ≠ m7 + 1 := by
    intro z
    rw [z, c9] at c6
    have := congrArg (fun o : Option Ob => match o with | some (.lst xs) => xs.length | _ => 0) c6
    simp [twenties] at this
  have k6 := at_set (k := m7 + 1) (x := .lst (([rot, .ref m7] ++ [.ref m6]) ++ [.ref (H.length + 2)])) (at_app c6 [Ob.lst ((W14n.map fun w => D.str (sg w)).drop (fi % 14)), .lst ((W14n.map fun w => D.str (sg w)).take (fi % 14)), .lst ((rotL (fi % 14) W14n).map fun w => .str (sg w))]) (Ne.symm l6)
  have k7 := at_set (k := m7 + 1) (x := .lst (([rot, .ref m7] ++ [.ref m6]) ++ [.ref (H.length + 2)])) (at_app c7 [Ob.lst ((W14n.map fun w => D.str (sg w)).drop (fi % 14)), .lst ((W14n.map fun w => D.str (sg w)).take (fi % 14)), .lst ((rotL (fi % 14) W14n).map fun w => .str (sg w))]) (by omega)
  have k9 := at_own (x := .lst (([rot, .ref m7] ++ [.ref m6]) ++ [.ref (H.length + 2)])) (at_app c9 [Ob.lst ((W14n.map fun w => D.str (sg w)).drop (fi % 14)), .lst ((W14n.map fun w => D.str (sg w)).take (fi % 14)), .lst ((rotL (fi % 14) W14n).map fun w => .str (sg w))])
  have d9 := (d8.app [Ob.lst ((W14n.map fun w => D.str (sg w)).drop (fi % 14)), .lst ((W14n.map fun w => D.str (sg w)).take (fi % 14)), .lst ((rotL (fi % 14) W14n).map fun w => .str (sg w))]).set_ (k := m7 + 1) (x := .lst (([rot, .ref m7] ++ [.ref m6]) ++ [.ref (H.length + 2)])) (by omega) (by omega)
  have f9 := (f8.trans (Frm.app [Ob.lst ((W14n.map fun w => D.str (sg w)).drop (fi % 14)), .lst ((W14n.map fun w => D.str (sg w)).take (fi % 14)), .lst ((rotL (fi % 14) W14n).map fun w => .str (sg w))])).set_ (k := m7 + 1) (x := .lst (([rot, .ref m7] ++ [.ref m6]) ++ [.ref (H.length + 2)])) (by omega)
  generalize hU : (H ++ [Ob.lst ((W14n.map fun w => D.str (sg w)).drop (fi % 14)), .lst ((W14n.map fun w => D.str (sg w)).take (fi % 14)), .lst ((rotL (fi % 14) W14n).map fun w => .str (sg w))]).set (m7 + 1) (.lst (([rot, .ref m7] ++ [.ref m6]) ++ [.ref (H.length + 2)])) = U at *
  generalize H.length + 2 = m5 at *
  -- the end
  have fin : ∀ (v : D) (full : List (List Nat)) (st : List Nat), L2.atI [rot, D.ref m7, D.ref m6, D.ref m5] (so : Nat) = some v → itD .val [v] U = some (full.map (fun w => D.str (sg w)), st) → full.Nodup → 1 ≤ full.length → full.length ≤ 100 → (∀ w ∈ full, Nm w) →
      ∃ (ws : List (List Nat)) (m : Nat) (S' : Sto), endD (exSs (CC (L + 1)) c12 [some (.ref n), some (.int (cnt : Nat)), none, none, none, none, none, none, none, none] S) = some (.ref m, S') ∧ S'[m]? = some (.lst (ws.map fun w => .str (sg w))) ∧ S.length ≤ m ∧ ws.Nodup ∧ 1 ≤ ws.length ∧ ws.length ≤ cnt ∧ (∀ w ∈ ws, Nm w) ∧ Dk n c S' ∧ Frm n c S S' := by
    intro v full st hv hi hn h1f hf hnm
    have v3 : evE (CC (L + 1)) (.var 3) v9 U = some (.int (so : Nat), U) := ev_v rfl rfl
    have hx : evE (CC (L + 1)) (.idx (.var 9) (.var 3)) v9 U = some (v, U) := by
      have : idxD (.ref (m7 + 1)) (.int (so : Nat)) U = some v := by
        simp only [idxD, k9]
        exact hv
      rw [evE]
      simp only [e9, v3, bnd, this, giv, Option.map_some]
    have r := col_cut (C := CC (L + 1)) (e := v9) (cnt := cnt) (i := 1) hx hi (by rw [List.length_map]; exact hf) rfl
    refine ⟨full.take cnt, U.length + 1, (U ++ [.lst (full.map fun w => .str (sg w))]) ++ [.lst ((full.map fun w => .str (sg w)).take cnt)], ?_, ?_, Nat.le_trans f9.le (Nat.le_succ _), (List.take_sublist _ _).nodup hn, by rw [List.length_take]; omega, by rw [List.length_take]; omega, fun w hw => hnm w (List.mem_of_mem_take hw), (d9.app _).app _, (f9.trans (Frm.app _)).trans (Frm.app _)⟩
    · rw [show c12 = .cons _ (.cons _ (.cons _ (.cons _ (.cons _ (.cons _ (.cons _ (.cons _ .nil))))))) from rfl, ex_nx s1, ex_nx s2, ex_nx s3, ex_nx s4, ex_nx s5, ex_nx s6, ex_nx s7, ex_rt (x_ret r)]
      rfl
    · have := at_new (S := U ++ [Ob.lst (full.map fun w => .str (sg w))]) (o := .lst ((full.map fun w => .str (sg w)).take cnt))
      rw [List.length_append, List.length_singleton] at this
      rw [this, List.map_take]
  have itr : ∀ (m : Nat) (xs : List D), U[m]? = some (.lst xs) → itD .val [.ref m] U = some (xs, [m]) := fun m xs h => by
    show itV (.ref m) U = _
    simp only [itV, h]
  obtain ⟨o1, o2, o3⟩ := ones_ok fi
  obtain ⟨p1, p2, p3⟩ := sevens_ok l4 m4
  obtain ⟨t1, t2, t3⟩ := twenties_ok (first := fi) p8 l4 m4
  obtain ⟨r1, r2, r3⟩ := rows_ok (fi % 14)
  rcases (by omega : so = 0 ∨ so = 1 ∨ so = 2 ∨ so = 3) with rfl | rfl | rfl | rfl
  · refine fin rot (ones fi) [] rfl ?_ o1 (by rw [o2]; decide) (by rw [o2]; decide) o3
    show some ((sg (rotL fi AZ)).cps.toList.map fun c => D.str ⟨#[c]⟩, ([] : List Nat)) = _
    rw [sg_tl, ones, List.map_map]
    rfl
  · exact fin (.ref m7) (sevens cs) [m7] rfl (itr _ _ k7) p1 (by rw [p2]; decide) (by rw [p2]; decide) p3
  · exact fin (.ref m6) (twenties cs fi p) [m6] rfl (itr _ _ k6) t1 (by rw [t2]; decide) (by rw [t2]; decide) t3
  · exact fin (.ref m5) (rotL (fi % 14) W14n) [m5] rfl (itr _ _ k5) r1 (by rw [r2]; decide) (by rw [r2]; decide) r3
end K01
end
section
set_option Elab.async false
set_option linter.all false
set_option maxRecDepth 100000
set_option maxHeartbeats 1000000
namespace K01
open PySem PC
/-- a pick, written -/
theorem ev_pick {L n c m : Nat} {e : En} {S S1 : Sto} {a : CE} {ys : List D} (h0 : e[0]? = some (some (.ref n))) (ha : evE (CC (L + 2)) a e S = some (.ref m, S1)) (d : Dk n c S1) (hm : S1[m]? = some (.lst ys)) (hn : m ≠ n) (hc : m ≠ c) (hl0 : 0 < ys.length) (hl : ys.length ≤ 100) :
    ∃ x S', evE (CC (L + 2)) (.call 11 (.cons (.var 0) (.cons a .nil)) []) e S = some (x, S') ∧ x ∈ ys ∧ Dk n c S' ∧ Frm n c S1 S' := by
  obtain ⟨i, x, S', e1, hi, hx, d1, f1⟩ := pick_ok (L := L) d hm hn hc hl0 (Nat.lt_of_le_of_lt hl (by decide))
  refine ⟨x, S', ?_, List.mem_of_getElem? hx, d1, f1⟩
  rw [evE]
  have hv : evE (CC (L + 2)) (.var 0) e S = some (.ref n, S) := ev_v h0 rfl
  simp only [es_cons hv (es_cons ha es_nil), bnd, callIx, if_true]
  exact e1
theorem ev_sub {C : Cal} {e : En} {S S1 S2 : Sto} {a b : CE} {i j : Int} (ha : evE C a e S = some (.int i, S1)) (hb : evE C b e S1 = some (.int j, S2)) : evE C (.bin .Sub a b) e S = some (.int (i - j), S2) := by
  rw [evE]
  simp only [ha, hb, bnd, binD]
theorem ev_idx0 {C : Cal} {e : En} {S : Sto} {i q : Nat} {x : D} (h : e[i]? = some (some (.ref q))) (hq : S[q]? = some (.lst [x])) : evE C (.idx (.var i) (.int 0)) e S = some (x, S) := by
  rw [evE]
  have h1 : idxD (.ref q) (.int 0) S = some x := by
    simp only [idxD, hq]
    rfl
  simp only [ev_v (C := C) (S := S) h rfl, ev_i, bnd, h1, giv, Option.map_some]
theorem x_left {C : Cal} {e : En} {S : Sto} {i q : Nat} {x : Int} {y : Int} {b : CE} (h : e[i]? = some (some (.ref q))) (hq : S[q]? = some (.lst [.int x])) (hb : evE C b e S = some (.int y, S)) : exS C (.setI (.var i) (.int 0) b) e S = some (.nx, e, S.set q (.lst [.int y])) := by
  have h1 : setD (.ref q) (.int 0) (.int y) S = some (S.set q (.lst [.int y])) := by
    simp only [setD, hq]
    rfl
  simp only [exS, hb, bnS, ev_v (C := C) (S := S) h rfl, ev_i, h1, Option.map_some]
theorem ev_lt {C : Cal} {e : En} {S S1 S2 : Sto} {a b : CE} {i j : Int} (ha : evE C a e S = some (.int i, S1)) (hb : evE C b e S1 = some (.int j, S2)) : evE C (.cmp .Lt a b) e S = some (.bl (decide (i < j)), S2) := by
  rw [evE]
  simp only [ha, hb, bnd, cmpD, Option.map_some, giv]
theorem ev_eq {C : Cal} {e : En} {S S1 S2 : Sto} {a b : CE} {i j : Int} (ha : evE C a e S = some (.int i, S1)) (hb : evE C b e S1 = some (.int j, S2)) : evE C (.cmp .Eq a b) e S = some (.bl (decide (i = j)), S2) := by
  rw [evE]
  simp only [ha, hb, bnd, (eq_int i j).1, Option.map_some, giv]
theorem ev_or {C : Cal} {e : En} {S S1 S2 : Sto} {a b : CE} {p q : Bool} (ha : evE C a e S = some (.bl p, S1)) (hb : evE C b e S1 = some (.bl q, S1)) : evE C (.orE a b) e S = some (.bl (p || q), S1) := by
  rw [evE, ha]
  simp only [bnd, truD]
  cases p with
  | true => simp
  | false => simp [hb]
theorem ev_if {C : Cal} {e : En} {S S1 S2 : Sto} {c a b : CE} {p : Bool} {r : D} (hc : evE C c e S = some (.bl p, S1)) (ha : p = true → evE C a e S1 = some (r, S2)) (hb : p = false → evE C b e S1 = some (r, S2)) : evE C (.ifE c a b) e S = some (r, S2) := by
  rw [evE, hc]
  simp only [bnd, truD]
  cases p with
  | true => exact ha rfl
  | false => exact hb rfl
theorem tst_of {C : Cal} {e : En} {S S1 : Sto} {a : CE} {p : Bool} (ha : evE C a e S = some (.bl p, S1)) : tstE C a e S = some (p, S1) := by
  unfold tstE
  rw [ha]
  rfl
/-- all but the deck and what is left stays -/
structure Fr3 (n c q : Nat) (S S' : Sto) : Prop where
  le : S.length ≤ S'.length
  eq : ∀ m, m < S.length → m ≠ n → m ≠ c → m ≠ q → S'[m]? = S[m]?
theorem Fr3.of {n c q : Nat} {S S' : Sto} (f : Frm n c S S') : Fr3 n c q S S' := ⟨f.le, fun m h1 h2 h3 _ => f.eq m h1 h2 h3⟩
theorem Fr3.trans {n c q : Nat} {S S1 S2 : Sto} (a : Fr3 n c q S S1) (b : Fr3 n c q S1 S2) : Fr3 n c q S S2 := ⟨Nat.le_trans a.le b.le, fun m h1 h2 h3 h4 => (b.eq m (Nat.lt_of_lt_of_le h1 a.le) h2 h3 h4).trans (a.eq m h1 h2 h3 h4)⟩
theorem Fr3.set_ {n c q : Nat} {S : Sto} {x : Ob} : Fr3 n c q S (S.set q x) := ⟨by rw [List.length_set]; exact Nat.le_refl _, fun m _ _ _ h => List.getElem?_set_ne (Ne.symm h)⟩
theorem Fr3.at_ {n c q m : Nat} {S S' : Sto} {o : Ob} (a : Fr3 n c q S S') (h : S[m]? = some o) (h1 : m ≠ n) (h2 : m ≠ c) (h3 : m ≠ q) : S'[m]? = some o := (a.eq m (List.getElem?_eq_some_iff.mp h).1 h1 h2 h3).trans h
/-- from outside: what is left was new -/
theorem Fr3.out {n c q : Nat} {S S1 S2 : Sto} (a : Frm n c S S1) (b : Fr3 n c q S1 S2) (h : S.length ≤ q) : Frm n c S S2 := ⟨Nat.le_trans a.le b.le, fun m h1 h2 h3 => (b.eq m (Nat.lt_of_lt_of_le h1 a.le) h2 h3 (by omega)).trans (a.eq m h1 h2 h3)⟩
def numL : List Int := [0, 1, 2, 7, 255, 256, 257, 32767, 32768, 65534, 65535]
theorem numL_in {i : Int} (h : i ∈ numL) : 0 ≤ i ∧ i ≤ 65535 := by
  have q : ∀ i ∈ numL, 0 ≤ i ∧ i ≤ 65535 := by decide
  exact q i h
def sE (n m : Nat) (k : Int) (q : Nat) (way num a b : Option D) : En := [some (.ref n), some (.ref m), some (.int k), some (.ref q), way, num, a, b]
theorem rec_ok {C : Cal} {n m q j k : Nat} {ws : List (List Nat)} {t : Tm} {S S' : Sto} {way num a b : Option D} (hk : k = j + 1) (h : C.fn 13 [.ref n, .ref m, .int (j : Nat), .ref q] S = some (t.d, S')) : evE C (.call 13 (.cons (.var 0) (.cons (.var 1) (.cons (.bin .Sub (.var 2) (.int (1))) (.cons (.var 3) .nil)))) []) (sE n m (k : Nat) q way num a b) S = some (t.d, S') := by
  have hs := ev_sub (C := C) (ev_v (C := C) (e := sE n m (k : Nat) q way num a b) (S := S) (i := 2) rfl rfl) (ev_i (i := 1))
  rw [show ((k : Nat) : Int) - 1 = (j : Nat) by omega] at hs
  rw [evE]
  simp only [es_cons (ev_v (C := C) (e := sE n m (k : Nat) q way num a b) (S := S) (i := 0) rfl rfl) (es_cons (ev_v (C := C) (e := sE n m (k : Nat) q way num a b) (S := S) (i := 1) rfl rfl) (es_cons hs (es_cons (ev_v (C := C) (e := sE n m (k : Nat) q way num a b) (S := S) (i := 3) rfl rfl) es_nil))), bnd, callIx, if_true]
  exact h
theorem word_ok {C : Cal} {n m k q way : Nat} {num a b : Option D} {S : Sto} (h2 : 2 ≤ way) (h8 : way < 8) : ∃ o : Fin 6, ∃ T, evE C (.idx (.lstE (.cons (.str "sum") (.cons (.str "less") (.cons (.str "times") (.cons (.str "over") (.cons (.str "below") (.cons (.str "same") .nil))))))) (.bin .Sub (.var 4) (.int (2)))) (sE n m (k : Nat) q (some (.int (way : Nat))) num a b) S = some (.str (opW o), S ++ [T]) := by
  have hl : evE C (.lstE (.cons (.str "sum") (.cons (.str "less") (.cons (.str "times") (.cons (.str "over") (.cons (.str "below") (.cons (.str "same") .nil))))))) (sE n m (k : Nat) q (some (.int (way : Nat))) num a b) S = some (.ref S.length, S ++ [.lst (wordsL.map .str)]) := ev_lst (es_cons ev_s (es_cons ev_s (es_cons ev_s (es_cons ev_s (es_cons ev_s (es_cons ev_s es_nil)))))) (show 6 ≤ 100 by decide)
  have hs := ev_sub (C := C) (ev_v (C := C) (e := sE n m (k : Nat) q (some (.int (way : Nat))) num a b) (S := S ++ [.lst (wordsL.map .str)]) (i := 4) rfl rfl) (ev_i (i := 2))
  refine ⟨⟨way - 2, by omega⟩, .lst (wordsL.map .str), ?_⟩
  have hx : idxD (.ref S.length) (.int ((way : Nat) - 2)) (S ++ [.lst (wordsL.map .str)]) = some (.str (opW ⟨way - 2, by omega⟩)) := by
    have g : (S ++ [Ob.lst (wordsL.map .str)])[S.length]? = some (.lst (wordsL.map .str)) := at_new
    simp only [idxD, g]
    rcases (by omega : way = 2 ∨ way = 3 ∨ way = 4 ∨ way = 5 ∨ way = 6 ∨ way = 7) with rfl | rfl | rfl | rfl | rfl | rfl <;> rfl
  rw [evE]
  simp only [hl, hs, bnd, hx, giv, Option.map_some]
theorem sum_step {n c m q : Nat} {ws : List (List Nat)} (hw0 : 1 ≤ ws.length) (hw : ws.length ≤ 100) (hmn : m ≠ n) (hmc : m ≠ c) (hqn : q ≠ n) (hqc : q ≠ c) (hqm : q ≠ m) (k : Nat) : (∀ j, k = j + 1 → ∀ (L : Nat) (S : Sto) (x : Int), Dk n c S → S[m]? = some (.lst (ws.map fun w => .str (sg w))) → S[q]? = some (.lst [.int x]) →
    ∃ (t : Tm) (S' : Sto) (y : Int), (CC (L + 3 + j)).fn 13 [.ref n, .ref m, .int (j : Nat), .ref q] S = some (t.d, S') ∧ t.ok (· ∈ ws) ∧ t.dep ≤ j ∧ Dk n c S' ∧ S'[q]? = some (.lst [.int y]) ∧ Fr3 n c q S S') → ∀ (L : Nat) (S : Sto) (x : Int), Dk n c S → S[m]? = some (.lst (ws.map fun w => .str (sg w))) → S[q]? = some (.lst [.int x]) →
    ∃ (t : Tm) (S' : Sto) (y : Int), (CC (L + 3 + k)).fn 13 [.ref n, .ref m, .int (k : Nat), .ref q] S = some (t.d, S') ∧ t.ok (· ∈ ws) ∧ t.dep ≤ k ∧ Dk n c S' ∧ S'[q]? = some (.lst [.int y]) ∧ Fr3 n c q S S' := by
  intro ih L S x d hm hq
  rw [show L + 3 + k = (L + k + 2) + 1 by omega, fn_eq (F := ⟨4, 8, c13⟩) rfl rfl]
  show ∃ (t : Tm) (S' : Sto) (y : Int), endD (exSs (CC (L + k + 2)) c13 (sE n m (k : Nat) q none none none none) S) = _ ∧ _
  obtain ⟨way, S1, q1, way8, d1, f1⟩ := ev_draw (L := L + k + 1) (w := 8) (e := sE n m (k : Nat) q none none none none) d rfl (by decide) (by decide)
  have s1 : exS (CC (L + k + 2)) (.set (.name 4) (.call 10 (.cons (.var 0) (.cons (.int (8)) .nil)) [])) (sE n m (k : Nat) q none none none none) S = some (.nx, sE n m (k : Nat) q (some (.int (way : Nat))) none none none, S1) := x_set q1
  have hm1 := f1.at_ hm hmn hmc
  have hq1 := f1.at_ hq hqn hqc
  let e1 : En := sE n m (k : Nat) q (some (.int (way : Nat))) none none none
  have s2 : exS (CC (L + k + 2)) (.setI (.var 3) (.int (0)) (.bin .Sub (.idx (.var 3) (.int (0))) (.int (1)))) e1 S1 = some (.nx, e1, S1.set q (.lst [.int (x - 1)])) := x_left rfl hq1 (ev_sub (ev_idx0 rfl hq1) ev_i)
  have d2 := d1.set_ (x := .lst [.int (x - 1)]) hqn hqc
  have hm2 := at_set (x := .lst [.int (x - 1)]) hm1 hqm
  have hq2 := at_own (x := .lst [.int (x - 1)]) hq1
  have f2 := (Fr3.of (q := q) f1).trans (Fr3.set_ (x := .lst [.int (x - 1)]))
  generalize S1.set q (.lst [.int (x - 1)]) = S2 at *
  have t3 : tstE (CC (L + k + 2)) (.orE (.cmp .Lt (.var 2) (.int (2))) (.orE (.cmp .Lt (.idx (.var 3) (.int (0))) (.int (2))) (.cmp .Lt (.var 4) (.int (2))))) e1 S2 = some (decide (((k : Nat) : Int) < 2) || (decide (x - 1 < 2) || decide (((way : Nat) : Int) < 2)), S2) :=
    tst_of (ev_or (S2 := S2) (ev_lt (ev_v rfl rfl) ev_i) (ev_or (S2 := S2) (ev_lt (ev_idx0 rfl hq2) ev_i) (ev_lt (ev_v rfl rfl) ev_i)))
  cases hb : (decide (((k : Nat) : Int) < 2) || (decide (x - 1 < 2) || decide (((way : Nat) : Int) < 2))) with
  | true =>
    rw [hb] at t3
    have hl : evE (CC (L + k + 2)) (.lstE (.cons (.int (0)) (.cons (.int (1)) (.cons (.int (2)) (.cons (.int (7)) (.cons (.int (255)) (.cons (.int (256)) (.cons (.int (257)) (.cons (.int (32767)) (.cons (.int (32768)) (.cons (.int (65534)) (.cons (.int (65535)) .nil)))))))))))) e1 S2 = some (.ref S2.length, S2 ++ [.lst (numL.map .int)]) :=
      ev_lst (es_cons ev_i (es_cons ev_i (es_cons ev_i (es_cons ev_i (es_cons ev_i (es_cons ev_i (es_cons ev_i (es_cons ev_i (es_cons ev_i (es_cons ev_i (es_cons ev_i es_nil))))))))))) (show 11 ≤ 100 by decide)
    have lt2 := d2.lt
    obtain ⟨v, S3, q3, hv, d3, f3⟩ := ev_pick (L := L + k) (e := e1) rfl hl (d2.app [.lst (numL.map .int)]) at_new (by omega) (by omega) (by decide) (by decide)
    obtain ⟨i, hi, rfl⟩ := List.mem_map.mp hv
    have s4 : exS (CC (L + k + 2)) (.set (.name 5) (.call 11 (.cons (.var 0) (.cons (.lstE (.cons (.int (0)) (.cons (.int (1)) (.cons (.int (2)) (.cons (.int (7)) (.cons (.int (255)) (.cons (.int (256)) (.cons (.int (257)) (.cons (.int (32767)) (.cons (.int (32768)) (.cons (.int (65534)) (.cons (.int (65535)) .nil)))))))))))) .nil)) [])) e1 S2 = some (.nx, sE n m (k : Nat) q (some (.int (way : Nat))) (some (.int i)) none none, S3) := x_set q3
    have f3' := (Frm.app (n := n) (c := c) (S := S2) [.lst (numL.map .int)]).trans f3
    let e2 : En := sE n m (k : Nat) q (some (.int (way : Nat))) (some (.int i)) none none
    obtain ⟨r, S4, q5, r3, d4, f4⟩ := ev_draw (L := L + k + 1) (w := 3) (e := e2) d3 rfl (by decide) (by decide)
    have q5' : evE (CC (L + k + 2)) (.call 10 (.cons (.var 0) (.cons (.int (3)) .nil)) []) e2 S3 = some (.int (r : Nat), S4) := q5
    have hc := ev_eq q5' (ev_i (i := 0))
    have f24 := f3'.trans f4
    by_cases hr : r = 0
    · subst hr
      have hv1 : evE (CC (L + k + 2)) (.tupE (.cons (.str "num") (.cons (.var 5) .nil))) e2 S4 = some ((Tm.num i).d, S4) := ev_tup (es_cons ev_s (es_cons (ev_v rfl rfl) es_nil)) (show 2 ≤ 100 by decide)
      have r := ev_if (b := .tupE (.cons (.str "name") (.cons (.call 11 (.cons (.var 0) (.cons (.var 1) .nil)) []) .nil))) hc (fun _ => hv1) (fun z => absurd z (by decide))
      refine ⟨.num i, S4, x - 1, ?_, numL_in hi, Nat.zero_le _, d4, f24.at_ hq2 hqn hqc, f2.trans (.of f24)⟩
      rw [show c13 = .cons _ (.cons _ (.cons _ _)) from rfl, ex_nx s1, ex_nx s2, ex_rt ((x_yes t3).trans ((ex_nx s4).trans (ex_rt (x_ret r))))]
      rfl
    · obtain ⟨v, S5, q6, hv, d5, f5⟩ := ev_pick (L := L + k) (e := e2) (a := .var 1) rfl (ev_v rfl rfl) d4 (f24.at_ hm2 hmn hmc) hmn hmc (by rw [List.length_map]; exact hw0) (by rw [List.length_map]; exact hw)
      obtain ⟨w, hw, rfl⟩ := List.mem_map.mp hv
      have hv1 : evE (CC (L + k + 2)) (.tupE (.cons (.str "name") (.cons (.call 11 (.cons (.var 0) (.cons (.var 1) .nil)) []) .nil))) e2 S4 = some ((Tm.name w).d, S5) := ev_tup (es_cons ev_s (es_cons q6 es_nil)) (show 2 ≤ 100 by decide)
      have r := ev_if (a := .tupE (.cons (.str "num") (.cons (.var 5) .nil))) hc (fun z => absurd (of_decide_eq_true z) (by omega)) (fun _ => hv1)
      have f25 := f24.trans f5
      refine ⟨.name w, S5, x - 1, ?_, hw, Nat.zero_le _, d5, f25.at_ hq2 hqn hqc, f2.trans (.of f25)⟩
      rw [show c13 = .cons _ (.cons _ (.cons _ _)) from rfl, ex_nx s1, ex_nx s2, ex_rt ((x_yes t3).trans ((ex_nx s4).trans (ex_rt (x_ret r))))]
      rfl
  | false =>
    rw [hb] at t3
    simp only [Bool.or_eq_false_iff, decide_eq_false_iff_not] at hb
    obtain ⟨hk2, _, hy2⟩ := hb
    obtain ⟨j, hj⟩ : ∃ j, k = j + 1 := ⟨k - 1, by omega⟩
    have s5 : exS (CC (L + k + 2)) (.setI (.var 3) (.int (0)) (.bin .Sub (.idx (.var 3) (.int (0))) (.int (2)))) e1 S2 = some (.nx, e1, S2.set q (.lst [.int (x - 1 - 2)])) := x_left rfl hq2 (ev_sub (ev_idx0 rfl hq2) ev_i)
    have d3 := d2.set_ (x := .lst [.int (x - 1 - 2)]) hqn hqc
    have hm3 := at_set (x := .lst [.int (x - 1 - 2)]) hm2 hqm
    have hq3 := at_own (x := .lst [.int (x - 1 - 2)]) hq2
    have f3 := f2.trans (Fr3.set_ (x := .lst [.int (x - 1 - 2)]))
    generalize S2.set q (.lst [.int (x - 1 - 2)]) = S3 at *
    obtain ⟨a, S4, y, q4, oka, depa, d4, hq4, f4⟩ := ih j hj L S3 _ d3 hm3 hq3
    have hm4 := f4.at_ hm3 hmn hmc (Ne.symm hqm)
    rw [show L + 3 + j = L + k + 2 by omega] at q4
    have s6 : exS (CC (L + k + 2)) (.set (.name 6) (.call 13 (.cons (.var 0) (.cons (.var 1) (.cons (.bin .Sub (.var 2) (.int (1))) (.cons (.var 3) .nil)))) [])) e1 S3 = some (.nx, sE n m (k : Nat) q (some (.int (way : Nat))) none (some a.d) none, S4) := x_set (rec_ok (ws := ws) hj q4)
    let e2 : En := sE n m (k : Nat) q (some (.int (way : Nat))) none (some a.d) none
    have s7 : exS (CC (L + k + 2)) (.setI (.var 3) (.int (0)) (.bin .Add (.idx (.var 3) (.int (0))) (.int (1)))) e2 S4 = some (.nx, e2, S4.set q (.lst [.int (y + 1)])) := x_left rfl hq4 (ev_plus (ev_idx0 rfl hq4) ev_i)
    have d5 := d4.set_ (x := .lst [.int (y + 1)]) hqn hqc
    have hm5 := at_set (x := .lst [.int (y + 1)]) hm4 hqm
    have hq5 := at_own (x := .lst [.int (y + 1)]) hq4
    have f5 := (f3.trans f4).trans (Fr3.set_ (x := .lst [.int (y + 1)]))
    generalize S4.set q (.lst [.int (y + 1)]) = S5 at *
    obtain ⟨b, S6, y2, q6, okb, depb, d6, hq6, f6⟩ := ih j hj L S5 _ d5 hm5 hq5
    rw [show L + 3 + j = L + k + 2 by omega] at q6
    have s8 : exS (CC (L + k + 2)) (.set (.name 7) (.call 13 (.cons (.var 0) (.cons (.var 1) (.cons (.bin .Sub (.var 2) (.int (1))) (.cons (.var 3) .nil)))) [])) e2 S5 = some (.nx, sE n m (k : Nat) q (some (.int (way : Nat))) none (some a.d) (some b.d), S6) := x_set (rec_ok (ws := ws) hj q6)
    let e3 : En := sE n m (k : Nat) q (some (.int (way : Nat))) none (some a.d) (some b.d)
    obtain ⟨o, T, hw⟩ := word_ok (C := CC (L + k + 2)) (n := n) (m := m) (k := k) (q := q) (num := none) (a := some a.d) (b := some b.d) (S := S6) (way := way) (by omega) way8
    have va : evE (CC (L + k + 2)) (.var 6) e3 (S6 ++ [T]) = some (a.d, S6 ++ [T]) := ev_v rfl (d_lam a)
    have vb : evE (CC (L + k + 2)) (.var 7) e3 (S6 ++ [T]) = some (b.d, S6 ++ [T]) := ev_v rfl (d_lam b)
    have r := ev_tup (es_cons hw (es_cons va (es_cons vb es_nil))) (show 3 ≤ 100 by decide)
    refine ⟨.op o a b, S6 ++ [T], y2, ?_, ⟨oka, okb⟩, ?_, d6.app _, at_app hq6 _, (f5.trans f6).trans (.of (.app _))⟩
    · rw [show c13 = .cons _ (.cons _ (.cons _ (.cons _ (.cons _ (.cons _ (.cons _ (.cons _ .nil))))))) from rfl, ex_nx s1, ex_nx s2, ex_nx (x_no t3), ex_nx s5, ex_nx s6, ex_nx s7, ex_nx s8, ex_rt (x_ret r)]
      rfl
    · show max a.dep b.dep + 1 ≤ k
      omega
theorem sum_of_ok {n c m q : Nat} {ws : List (List Nat)} (hw0 : 1 ≤ ws.length) (hw : ws.length ≤ 100) (hmn : m ≠ n) (hmc : m ≠ c) (hqn : q ≠ n) (hqc : q ≠ c) (hqm : q ≠ m) : ∀ (k L : Nat) (S : Sto) (x : Int), Dk n c S → S[m]? = some (.lst (ws.map fun w => .str (sg w))) → S[q]? = some (.lst [.int x]) →
    ∃ (t : Tm) (S' : Sto) (y : Int), (CC (L + 3 + k)).fn 13 [.ref n, .ref m, .int (k : Nat), .ref q] S = some (t.d, S') ∧ t.ok (· ∈ ws) ∧ t.dep ≤ k ∧ Dk n c S' ∧ S'[q]? = some (.lst [.int y]) ∧ Fr3 n c q S S' := by
  intro k
  induction k with
  | zero => exact sum_step hw0 hw hmn hmc hqn hqc hqm 0 fun j hj => by omega
  | succ j ih =>
    refine sum_step hw0 hw hmn hmc hqn hqc hqm (j + 1) fun i hi => ?_
    have hij : i = j := by omega
    rw [hij]
    exact ih
end K01
end
section
set_option Elab.async false
set_option linter.all false
set_option maxRecDepth 100000
set_option maxHeartbeats 1000000
namespace K01
open PySem PC
/-! ### how long reprs are -/
theorem short_len {p : PyData} (h : p.leavesShort 100 = true) (hb : p.bulk ≤ 100000) : (PyData.shown p).length ≤ line := by
  have h1 := PyData.shown_le_bulk 100 (by decide) p h
  have h2 : (100 + 2) * p.bulk + 100 ≤ (100 + 2) * 100000 + 100 := Nat.add_le_add_right (Nat.mul_le_mul_left _ hb) _
  exact Nat.le_trans (Nat.le_trans h1 h2) (by decide)
theorem repr_of {d : D} {p : PyData} {S : Sto} (h : rdP 60 S d = some p) (hn : repOk p = true) (hs : p.showable = true) (hl : p.leavesShort 100 = true) (hb : p.bulk ≤ 100000) : reprD d S = some (PyData.shown p) := by
  unfold reprD
  rw [h]
  simp only
  rw [if_pos ⟨hn, hs, short_len hl hb⟩]
/-- texts of few signs -/
structure Tx (l : List Nat) : Prop where
  len : l.length ≤ 60
  sig : ∀ c ∈ l, c < 16 ^ 8
theorem Tx.leaf {l : List Nat} (h : Tx l) {B : Nat} : PyData.leavesShort B (.str (sg l)) = true := by
  simp only [PyData.leavesShort, sg_tl, List.all_eq_true, decide_eq_true_eq]
  exact h.sig
theorem Tx.size {l : List Nat} (h : Tx l) : (sg l).cps.size ≤ 60 := by
  have := h.len
  simpa [sg] using this
theorem Tx.str {l : List Nat} (h : Tx l) : ∀ S, Itm S (.str (sg l)) := fun S =>
  ⟨.str _ (by rw [sg_len]; exact Nat.le_trans h.len (by decide)), _, fun T => repr_of (p := .str (sg l)) rfl rfl rfl h.leaf (by
    simp only [PyData.bulk]
    exact Nat.le_trans h.size (by decide))⟩
theorem Tx.tup {l : List Nat} (h : Tx l) : ∀ S, Itm S (.tup [.str (sg l)]) := fun S =>
  ⟨.tup _, _, fun T => repr_of (p := .tuple [.str (sg l)]) rfl rfl rfl (by
    show (PyData.leavesShort 100 (.str (sg l)) && true) = true
    rw [h.leaf]
    rfl) (by
    simp only [PyData.bulk, PyData.bulkAll]
    exact Nat.le_trans (Nat.add_le_add_right (Nat.add_le_add_right h.size 1) 0) (by decide))⟩
theorem Tx.lst {l : List Nat} (h : Tx l) {k : Nat} {S : Sto} (hk : S[k]? = some (.lst [.str (sg l)])) : Itm S (.ref k) :=
  ⟨.lst k _ hk, _, fun T => repr_of (p := .list [.str (sg l)]) (rd_lst (at_app hk T)) rfl rfl (by
    show (PyData.leavesShort 100 (.str (sg l)) && true) = true
    rw [h.leaf]
    rfl) (by
    simp only [PyData.bulk, PyData.bulkAll]
    exact Nat.le_trans (Nat.add_le_add_right (Nat.add_le_add_right h.size 1) 0) (by decide))⟩
theorem bl_itm (b : Bool) : ∀ S, Itm S (.bl b) := fun S => ⟨.bl b, _, fun T => repr_of (p := .bool b) rfl rfl rfl rfl (by simp only [PyData.bulk]; decide)⟩
def shI (i : Int) : Bool := decide (i.natAbs.log2 < 1920) && decide ((toString i : Str).length ≤ 100)
theorem int_itm {i : Int} (h : shI i = true) : ∀ S, Itm S (.int i) := fun S => by
  unfold shI at h
  rw [Bool.and_eq_true] at h
  exact ⟨.int i, _, fun T => repr_of (p := .int i) rfl rfl h.1 h.2 (by simp only [PyData.bulk]; decide)⟩
theorem int_tup {i : Int} (h : shI i = true) : ∀ S, Itm S (.tup [.int i]) := fun S => by
  unfold shI at h
  rw [Bool.and_eq_true] at h
  exact ⟨.tup _, _, fun T => repr_of (p := .tuple [.int i]) rfl rfl (by
    simp only [PyData.showable, PyData.showableAll, Bool.and_true]
    exact h.1) (by
    simp only [PyData.leavesShort, PyData.leavesShortAll, Bool.and_true]
    exact h.2) (by simp only [PyData.bulk, PyData.bulkAll]; decide)⟩
/-- a thing that stays as it is, as long as one number of the store below b does -/
def Thg (b : Nat) (S : Sto) (d : D) : Prop := (∀ S : Sto, Itm S d) ∨ ∃ (k : Nat) (o : Ob), k < b ∧ S[k]? = some o ∧ ∀ S : Sto, S[k]? = some o → Itm S d
theorem Thg.itm {b : Nat} {S : Sto} {d : D} (h : Thg b S d) : Itm S d := by
  rcases h with h | ⟨k, o, _, h1, h2⟩
  · exact h S
  · exact h2 S h1
theorem Thg.set_ {b : Nat} {S : Sto} {d : D} {x : Ob} (h : Thg b S d) : Thg b (S.set b x) d := by
  rcases h with h | ⟨k, o, hk, h1, h2⟩
  · exact .inl h
  · exact .inr ⟨k, o, hk, at_set h1 (by omega), h2⟩
theorem Nm.tx {w : List Nat} (h : Nm w) {a b : List Nat} (ha : a.length ≤ 10) (hb : b.length ≤ 10) (ha2 : ∀ c ∈ a, c < 128) (hb2 : ∀ c ∈ b, c < 128) : Tx (a ++ (w ++ b)) := by
  refine ⟨?_, fun c hc => ?_⟩
  · have := h.hi
    rw [List.length_append, List.length_append]
    omega
  · rcases List.mem_append.mp hc with hc | hc
    · exact Nat.lt_trans (ha2 c hc) (by decide)
    · rcases List.mem_append.mp hc with hc | hc
      · obtain ⟨k, hk, rfl⟩ := List.mem_map.mp (h.az c hc)
        have := List.mem_range.mp hk
        exact Nat.lt_trans (show 97 + k < 128 by omega) (by decide)
      · exact Nat.lt_trans (hb2 c hc) (by decide)
theorem az_lt {c : Nat} (h : c ∈ AZ) : c < 128 := by
  obtain ⟨k, hk, rfl⟩ := List.mem_map.mp h
  have := List.mem_range.mp hk
  show 97 + k < 128
  omega
theorem tx_of {l : List Nat} (h1 : l.length ≤ 60) (h2 : ∀ c ∈ l, c < 128) : Tx l := ⟨h1, fun c hc => Nat.lt_trans (h2 c hc) (by decide)⟩
theorem words_nm : ∀ x ∈ wordsL, 1 ≤ x.cps.toList.length ∧ x.cps.toList.length ≤ 8 ∧ ∀ c ∈ x.cps.toList, c ∈ AZ := by decide +kernel
theorem word_nm {x : Str} (h : x ∈ wordsL) : Nm x.cps.toList := by
  obtain ⟨h1, h2, h3⟩ := words_nm x h
  exact ⟨h1, h2, h3⟩
theorem upper_sg {l : List Nat} (h : ∀ c ∈ l, c < 128) : Txt.upper (sg l) = sg (l.map PyProof.Rows.up1) := by
  rw [PyProof.Rows.upper_ascii (x := sg l) (fun c hc => h c (by rwa [sg_tl] at hc))]
  exact TL.ext_tl (by
    show ((sg l).cps.map PyProof.Rows.up1).toList = _
    rw [Array.toList_map, sg_tl]
    rfl)
theorem up_lt {c : Nat} (h : c < 128) : PyProof.Rows.up1 c < 128 := by
  unfold PyProof.Rows.up1
  split <;> omega
/-! ### steps with texts -/
theorem ev_upper {C : Cal} {e : En} {S : Sto} {a : CE} {l : List Nat} (ha : evE C a e S = some (.str (sg l), S)) (hl : l.length ≤ 60) (h : ∀ c ∈ l, c < 128) : evE C (.meth a "upper" .nil) e S = some (.str (sg (l.map PyProof.Rows.up1)), S) := by
  have hm : metD (.str (sg l)) "upper" [] S = some (.str (sg (l.map PyProof.Rows.up1)), S) := by
    show mUpper (.str (sg l)) S = _
    unfold mUpper
    simp only
    rw [if_pos (by rw [sg_len]; exact Nat.le_trans hl (by decide)), upper_sg h]
  rw [evE]
  simp only [ha, bnd, metK, if_true, evEs, hm]
theorem ev_twice {C : Cal} {e : En} {S : Sto} {a : CE} {l : List Nat} (ha : evE C a e S = some (.str (sg l), S)) (hl : l.length ≤ 60) : evE C (.bin .Mult a (.int (2))) e S = some (.str (sg (l ++ l)), S) := by
  have hb : binD .Mult (.str (sg l)) (.int 2) S = some (.str (sg (l ++ l)), S) := by
    have hc : 0 ≤ (2 : Int) ∧ (2 : Int) ≤ 1000 ∧ (sg l).length * (2 : Int).toNat ≤ line := ⟨by decide, by decide, by
      rw [sg_len]
      exact Nat.le_trans (Nat.mul_le_mul_right _ hl) (by decide)⟩
    simp only [binD, hc, and_self, if_true, sg_tl]
    congr 4
    simp
  rw [evE]
  simp only [ha, ev_i, bnd, hb]
theorem ev_neg {C : Cal} {e : En} {S : Sto} {i : Int} : evE C (.neg (.int i)) e S = some (.int (-i), S) := by
  rw [evE]
  simp only [ev_i, bnd]
theorem cut_but (l : List Nat) : ∃ k, L2.cutS (sg l) none (some (-1)) = sg (l.take k) := by
  unfold L2.cutS
  rw [HT.sIx_none, sg_tl]
  exact ⟨_, rfl⟩
theorem ev_but {C : Cal} {e : En} {S : Sto} {a : CE} {l : List Nat} (ha : evE C a e S = some (.str (sg l), S)) (hl : l.length ≤ 60) : ∃ k, evE C (.slc a .no (.so (.neg (.int (1))))) e S = some (.str (sg (l.take k)), S) := by
  obtain ⟨k, hk⟩ := cut_but l
  refine ⟨k, ?_⟩
  rw [evE]
  simp only [ha, evO, ev_neg, bnd, slcD, sg_len]
  rw [if_pos (Nat.le_trans hl (by decide)), hk]
theorem ev_len {C : Cal} {e : En} {S : Sto} {a : CE} {l : List Nat} (ha : evE C a e S = some (.str (sg l), S)) (hl : l.length ≤ 60) : evE C (.bi .len (.cons a .nil)) e S = some (.int (l.length : Nat), S) := by
  rw [evE]
  simp only [evEs, ha, bnd, biD, bi1, lenD, sg_len]
  rw [if_pos (Nat.le_trans hl (by decide))]
  rfl
theorem ev_drawX {L n c w : Nat} {e : En} {S : Sto} {a : CE} (d : Dk n c S) (h0 : e[0]? = some (some (.ref n))) (ha : evE (CC (L + 1)) a e S = some (.int (w : Nat), S)) (hw : 0 < w) (hw2 : w < 1073741824) :
    ∃ r S', evE (CC (L + 1)) (.call 10 (.cons (.var 0) (.cons a .nil)) []) e S = some (.int (r : Nat), S') ∧ r < w ∧ Dk n c S' ∧ Frm n c S S' := by
  obtain ⟨r, S', e1, r0, r1, d1, f1⟩ := draw_ok (L := L) (ways := (w : Int)) d (by omega) (by omega)
  have er : r = (r.toNat : Int) := by omega
  refine ⟨r.toNat, S', ?_, by omega, d1, f1⟩
  rw [← er, evE]
  simp only [es_cons (ev_v h0 rfl) (es_cons ha es_nil), bnd, callIx, if_true]
  exact e1
theorem ev_cat {C : Cal} {e : En} {S S1 : Sto} {a b : CE} {m k : Nat} {xs ys : List D} (ha : evE C a e S = some (.ref m, S)) (hb : evE C b e S = some (.ref k, S1)) (hm : S1[m]? = some (.lst xs)) (hk : S1[k]? = some (.lst ys)) (hx : xs.length ≤ 100) (hy : ys.length ≤ 100) : evE C (.bin .Add a b) e S = some (.ref S1.length, S1 ++ [.lst (xs ++ ys)]) := by
  have hle : xs.length + ys.length ≤ line := Nat.le_trans (Nat.add_le_add hx hy) (by decide)
  rw [evE]
  simp only [ha, hb, bnd, binD, hm, hk, hle, if_true, PC.new]
theorem all_nil {P : D → Prop} : ∀ d ∈ ([] : List D), P d := fun d h => by cases h
theorem all_cons {P : D → Prop} {x : D} {xs : List D} (h : P x) (hs : ∀ d ∈ xs, P d) : ∀ d ∈ x :: xs, P d := fun d hd => by
  rcases List.mem_cons.mp hd with rfl | hd
  · exact h
  · exact hs d hd
theorem all_app {P : D → Prop} {xs ys : List D} (h : ∀ d ∈ xs, P d) (hs : ∀ d ∈ ys, P d) : ∀ d ∈ xs ++ ys, P d := fun d hd => by
  rcases List.mem_append.mp hd with hd | hd
  · exact h d hd
  · exact hs d hd
end K01
end
section
set_option Elab.async false
set_option linter.all false
set_option maxRecDepth 100000
set_option maxHeartbeats 1000000
namespace K01
open PySem PC
def nums : List Int := [0, 3, 4, 65535, 65536, 1, 2, 255, 10 ^ 39, 32768]
theorem nums_ok : ∀ i ∈ nums, shI i = true ∧ shI (i + 1) = true ∧ shI (i - 1) = true ∧ shI (0 - i) = true ∧ i.natAbs.log2 < 1920 ∧ (toString i : Str).cps.toList.length ≤ 60 ∧ ∀ c ∈ (toString i : Str).cps.toList, c < 128 := by decide +kernel
def sgL : List Nat := ("az0 _.-\n{`AZ" : Str).cps.toList
theorem sgL_ok : sgL.length = 12 ∧ ∀ c ∈ sgL, c < 128 := by decide +kernel
theorem a_sg : ("a" : Str) = sg [97] := by decide +kernel
def tE (n : Nat) (nm wd p s sm nu : Option D) : En := [some (.ref n), nm, wd, p, s, sm, nu]
theorem ev_call12 {L n c : Nat} {e : En} {S : Sto} (d : Dk n c S) (h0 : e[0]? = some (some (.ref n))) : 
    ∃ (ws : List (List Nat)) (m : Nat) (S' : Sto), evE (CC (L + 2)) (.call 12 (.cons (.var 0) (.cons (.int (8)) .nil)) []) e S = some (.ref m, S') ∧ S'[m]? = some (.lst (ws.map fun w => .str (sg w))) ∧ S.length ≤ m ∧ 1 ≤ ws.length ∧ ws.length ≤ 8 ∧ (∀ w ∈ ws, Nm w) ∧ Dk n c S' ∧ Frm n c S S' := by
  obtain ⟨ws, m, S', h1, h2, h3, _, h5, h6, h7, h8, h9⟩ := unlike_ok (L := L) (cnt := 8) d (by decide)
  refine ⟨ws, m, S', ?_, h2, h3, h5, h6, h7, h8, h9⟩
  rw [evE]
  simp only [es_cons (ev_v h0 rfl) (es_cons (ev_i (i := 8)) es_nil), bnd, callIx, if_true]
  exact h1
theorem things_ok {L n c : Nat} {S : Sto} (d : Dk n c S) : ∃ (m : Nat) (ds : List D) (S' : Sto), (CC (L + 3)).fn 18 [.ref n] S = some (.ref m, S') ∧ S'[m]? = some (.lst ds) ∧ (∀ x ∈ ds, Thg m S' x) ∧ ds.length ≤ 100 ∧ S.length ≤ m ∧ Dk n c S' ∧ Frm n c S S' := by
  rw [show L + 3 = (L + 2) + 1 from rfl, fn_eq (F := ⟨1, 7, c18⟩) rfl rfl]
  show ∃ (m : Nat) (ds : List D) (S' : Sto), endD (exSs (CC (L + 2)) c18 (tE n none none none none none none) S) = _ ∧ _
  -- a name
  obtain ⟨ws, m0, S0, q0, hm0, lm0, ws1, ws8, wsn, d0, f0⟩ := ev_call12 (L := L) (e := tE n none none none none none none) d rfl
  have lt := d.lt
  obtain ⟨v, S1, q1, hv, d1, f1⟩ := ev_pick (L := L) (e := tE n none none none none none none) rfl q0 d0 hm0 (by omega) (by omega) (by rw [List.length_map]; exact ws1) (by rw [List.length_map]; omega)
  obtain ⟨w, hw, rfl⟩ := List.mem_map.mp hv
  have wn := wsn w hw
  have wl := wn.hi
  have f01 := f0.trans f1
  have s1 : exS (CC (L + 2)) (.set (.name 1) (.call 11 (.cons (.var 0) (.cons (.call 12 (.cons (.var 0) (.cons (.int (8)) .nil)) []) .nil)) [])) (tE n none none none none none none) S = some (.nx, tE n (some (.str (sg w))) none none none none none, S1) := x_set q1
  clear q0 q1 f0 f1 hm0
  -- a word
  have hl2 : evE (CC (L + 2)) (.lstE (.cons (.str "sum") (.cons (.str "less") (.cons (.str "times") (.cons (.str "over") (.cons (.str "below") (.cons (.str "same") .nil))))))) (tE n (some (.str (sg w))) none none none none none) S1 = some (.ref S1.length, S1 ++ [.lst (wordsL.map .str)]) := ev_lst (es_cons ev_s (es_cons ev_s (es_cons ev_s (es_cons ev_s (es_cons ev_s (es_cons ev_s es_nil)))))) (show 6 ≤ 100 by decide)
  have lt1 := d1.lt
  obtain ⟨v2, S2, q2, hv2, d2, f2⟩ := ev_pick (L := L) (e := tE n (some (.str (sg w))) none none none none none) rfl hl2 (d1.app [.lst (wordsL.map .str)]) at_new (by omega) (by omega) (show 0 < 6 by decide) (show 6 ≤ 100 by decide)
  obtain ⟨x, hx, rfl⟩ := List.mem_map.mp hv2
  have un := word_nm hx
  rw [← sg_eta x] at q2
  generalize x.cps.toList = u at *
  have ul := un.hi
  have f02 := (f01.trans (Frm.app [.lst (wordsL.map .str)])).trans f2
  have s2 : exS (CC (L + 2)) (.set (.name 2) (.call 11 (.cons (.var 0) (.cons (.lstE (.cons (.str "sum") (.cons (.str "less") (.cons (.str "times") (.cons (.str "over") (.cons (.str "below") (.cons (.str "same") .nil))))))) .nil)) [])) (tE n (some (.str (sg w))) none none none none none) S1 = some (.nx, tE n (some (.str (sg w))) (some (.str (sg u))) none none none none, S2) := x_set q2
  clear q2 hl2 f2 d1 f01 hv2
  -- a place, a sign
  let e2 : En := tE n (some (.str (sg w))) (some (.str (sg u))) none none none none
  have hn1 := ev_plus (ev_len (C := CC (L + 2)) (e := e2) (S := S2) (a := .var 1) (l := w) (ev_v rfl rfl) (by omega)) (ev_i (i := 1))
  rw [show ((w.length : Nat) : Int) + 1 = ((w.length + 1 : Nat) : Int) by omega] at hn1
  obtain ⟨p, S3, q3, p3, d3, f3⟩ := ev_drawX (L := L + 1) (e := e2) d2 rfl hn1 (by omega) (by omega)
  have hcol := col_any (C := CC (L + 2)) (e := e2) (S := S3) (a := .str "az0 _.-\n{`AZ") (src := .val) ev_s (show itD .val [.str "az0 _.-\n{`AZ"] S3 = some (sgL.map fun c => D.str (sg [c]), []) from rfl) (by
    rw [List.length_map, sgL_ok.1]
    decide)
  have lt3 := d3.lt
  obtain ⟨v4, S4, q4, hv4, d4, f4⟩ := ev_pick (L := L) (e := e2) rfl hcol (d3.app [.lst (sgL.map fun c => D.str (sg [c]))]) at_new (by omega) (by omega) (by rw [List.length_map, sgL_ok.1]; decide) (by rw [List.length_map, sgL_ok.1]; decide)
  obtain ⟨s, hs, rfl⟩ := List.mem_map.mp hv4
  have s128 := sgL_ok.2 s hs
  have f04 := f02.trans (f3.trans ((Frm.app [.lst (sgL.map fun c => D.str (sg [c]))]).trans f4))
  have s3 : exS (CC (L + 2)) (.set (.tup [3, 4]) (.tupE (.cons (.call 10 (.cons (.var 0) (.cons (.bin .Add (.bi .len (.cons (.var 1) .nil)) (.int (1))) .nil)) []) (.cons (.call 11 (.cons (.var 0) (.cons (.col .val (.cons (.str "az0 _.-\n{`AZ") .nil)) .nil)) []) .nil)))) e2 S2 = some (.nx, tE n (some (.str (sg w))) (some (.str (sg u))) (some (.int (p : Nat))) (some (.str (sg [s]))) none none, S4) := by
    have ht := ev_tup (es_cons q3 (es_cons q4 es_nil)) (show 2 ≤ 100 by decide)
    simp only [exS, ht, bnS]
    rfl
  clear q3 q4 hcol hn1 f3 f4 f02 d2 d3 hv4
  -- the first eight
  let e3 : En := tE n (some (.str (sg w))) (some (.str (sg u))) (some (.int (p : Nat))) (some (.str (sg [s]))) none none
  have w128 : ∀ c ∈ w, c < 128 := fun c hc => az_lt (wn.az c hc)
  have u128 : ∀ c ∈ u, c < 128 := fun c hc => az_lt (un.az c hc)
  have v1 : ∀ T, evE (CC (L + 2)) (.var 1) e3 T = some (.str (sg w), T) := fun T => ev_v rfl rfl
  have v3 : ∀ T, evE (CC (L + 2)) (.var 3) e3 T = some (.int (p : Nat), T) := fun T => ev_v rfl rfl
  have va : ∀ (e : En) T, evE (CC (L + 2)) (.str "a") e T = some (.str (sg [97]), T) := fun e T => by rw [ev_s, a_sg]
  have b1 := ev_add (v1 S4) (va e3 S4) (Nat.le_trans (Nat.add_le_add_right wl 1) (by decide))
  obtain ⟨k1, b2⟩ := ev_but (v1 S4) (by omega)
  have b3 := ev_upper (v1 S4) (by omega) w128
  have b4 := ev_add (ev_add (ev_hi (v1 S4) (v3 S4) (Nat.le_trans wl (by decide)) (by omega)) (show evE (CC (L + 2)) (.var 4) e3 S4 = some (.str (sg [s]), S4) from ev_v rfl rfl) (Nat.le_trans (Nat.add_le_add_right (Nat.le_trans (List.length_take_le' _ _) wl) 1) (by decide))) (ev_lo (v1 S4) (v3 S4) (Nat.le_trans wl (by decide)) (by omega)) (by
    rw [List.length_append, List.length_take, List.length_drop]
    exact Nat.le_trans (Nat.add_le_add (Nat.add_le_add_right (Nat.le_trans (Nat.min_le_right _ _) wl) 1) (Nat.le_trans (Nat.sub_le _ _) wl)) (by decide))
  have b5 := ev_tup (es_cons (v1 S4) es_nil) (show 1 ≤ 100 by decide)
  have b6 := ev_lst (es_cons (v1 S4) es_nil) (show 1 ≤ 100 by decide)
  have b7 := ev_twice (v1 (S4 ++ [.lst [.str (sg w)]])) (by omega)
  have hA := ev_lst (es_cons (v1 S4) (es_cons b1 (es_cons b2 (es_cons b3 (es_cons b4 (es_cons b5 (es_cons b6 (es_cons b7 es_nil)))))))) (show 8 ≤ 100 by decide)
  let A : List D := [.str (sg w), .str (sg (w ++ [97])), .str (sg (w.take k1)), .str (sg (w.map PyProof.Rows.up1)), .str (sg ((w.take p ++ [s]) ++ w.drop p)), .tup [.str (sg w)], .ref S4.length, .str (sg (w ++ w))]
  have s4 : exS (CC (L + 2)) (.set (.name 5) (.lstE (.cons (.var 1) (.cons (.bin .Add (.var 1) (.str "a")) (.cons (.slc (.var 1) .no (.so (.neg (.int (1))))) (.cons (.meth (.var 1) "upper" .nil) (.cons (.bin .Add (.bin .Add (.slc (.var 1) .no (.so (.var 3))) (.var 4)) (.slc (.var 1) (.so (.var 3)) .no)) (.cons (.tupE (.cons (.var 1) .nil)) (.cons (.lstE (.cons (.var 1) .nil)) (.cons (.bin .Mult (.var 1) (.int (2))) .nil)))))))))) e3 S4 = some (.nx, tE n (some (.str (sg w))) (some (.str (sg u))) (some (.int (p : Nat))) (some (.str (sg [s]))) (some (.ref (S4 ++ [Ob.lst [.str (sg w)]]).length)) none, (S4 ++ [.lst [.str (sg w)]]) ++ [.lst A]) := x_set hA
  have tA : ∀ (b : Nat) (T : Sto), S4.length < b → T[S4.length]? = some (.lst [.str (sg w)]) → ∀ y ∈ A, Thg b T y := fun b T hb hT =>
    all_cons (.inl (tx_of (by omega) w128).str) (all_cons (.inl (tx_of (by simp only [List.length_append, List.length_singleton]; omega) (fun c hc => by
      rcases List.mem_append.mp hc with hc | hc
      · exact w128 c hc
      · rw [List.mem_singleton.mp hc]; decide)).str) (all_cons (.inl (tx_of (Nat.le_trans (List.length_take_le' _ _) (by omega)) (fun c hc => w128 c (List.mem_of_mem_take hc))).str)
      (all_cons (.inl (tx_of (by rw [List.length_map]; omega) (fun c hc => by
        obtain ⟨x, hx, rfl⟩ := List.mem_map.mp hc
        exact up_lt (w128 x hx))).str)
      (all_cons (.inl (tx_of (by
          rw [List.length_append, List.length_append, List.length_take, List.length_drop, List.length_singleton]
          omega) (fun c hc => by
        rcases List.mem_append.mp hc with hc | hc
        · rcases List.mem_append.mp hc with hc | hc
          · exact w128 c (List.mem_of_mem_take hc)
          · rw [List.mem_singleton.mp hc]; exact s128
        · exact w128 c (List.mem_of_mem_drop hc))).str)
      (all_cons (.inl (tx_of (by omega) w128).tup)
      (all_cons (.inr ⟨S4.length, _, hb, hT, fun S h => (tx_of (by omega) w128).lst h⟩)
      (all_cons (.inl (tx_of (by rw [List.length_append]; omega) (fun c hc => by
        rcases List.mem_append.mp hc with hc | hc
        · exact w128 c hc
        · exact w128 c hc)).str) all_nil)))))))
  have lA : A.length = 8 := rfl
  have g4 := at_app (at_new (S := S4) (o := .lst [.str (sg w)])) [.lst A]
  have g5 := at_new (S := S4 ++ [.lst [.str (sg w)]]) (o := .lst A)
  have lt4 : S4.length < (S4 ++ [Ob.lst [.str (sg w)]]).length := by simp
  have d6 := (d4.app [.lst [.str (sg w)]]).app [.lst A]
  have f6 := (f04.trans (Frm.app [.lst [.str (sg w)]])).trans (Frm.app [.lst A])
  have l6 : (S4 ++ [Ob.lst [.str (sg w)]]).length < ((S4 ++ [Ob.lst [.str (sg w)]]) ++ [Ob.lst A]).length := by simp
  have lS := f04.le
  clear hA b1 b2 b3 b4 b5 b6 b7 v1 v3
  clear_value A
  generalize (S4 ++ [Ob.lst [.str (sg w)]]) ++ [Ob.lst A] = S6 at *
  generalize (S4 ++ [Ob.lst [.str (sg w)]]).length = j at *
  generalize S4.length = k at *
  -- the next seven
  let e4 : En := tE n (some (.str (sg w))) (some (.str (sg u))) (some (.int (p : Nat))) (some (.str (sg [s]))) (some (.ref j)) none
  have v2 : ∀ T, evE (CC (L + 2)) (.var 2) e4 T = some (.str (sg u), T) := fun T => ev_v rfl rfl
  have b1 := ev_add (v2 S6) (va e4 S6) (Nat.le_trans (Nat.add_le_add_right ul 1) (by decide))
  obtain ⟨k2, b2⟩ := ev_but (v2 S6) (by omega)
  have b3 := ev_add (va e4 S6) (v2 S6) (Nat.le_trans (Nat.add_le_add_left ul 1) (by decide))
  have b4 := ev_upper (v2 S6) (by omega) u128
  have b5 := ev_twice (v2 S6) (by omega)
  have b6 := ev_tup (es_cons (v2 S6) es_nil) (show 1 ≤ 100 by decide)
  have hB := ev_lst (es_cons (v2 S6) (es_cons b1 (es_cons b2 (es_cons b3 (es_cons b4 (es_cons b5 (es_cons b6 es_nil))))))) (show 7 ≤ 100 by decide)
  let B : List D := [.str (sg u), .str (sg (u ++ [97])), .str (sg (u.take k2)), .str (sg ([97] ++ u)), .str (sg (u.map PyProof.Rows.up1)), .str (sg (u ++ u)), .tup [.str (sg u)]]
  have lB : B.length = 7 := rfl
  have a97 : ∀ c ∈ [97], c < 128 := by decide
  have tB : ∀ y ∈ B, ∀ S, Itm S y :=
    all_cons (P := fun y => ∀ S, Itm S y) (tx_of (by omega) u128).str (all_cons (tx_of (by simp only [List.length_append, List.length_singleton]; omega) (fun c hc => by
      rcases List.mem_append.mp hc with hc | hc
      · exact u128 c hc
      · exact a97 c hc)).str (all_cons (tx_of (Nat.le_trans (List.length_take_le' _ _) (by omega)) (fun c hc => u128 c (List.mem_of_mem_take hc))).str
      (all_cons (tx_of (by simp only [List.length_append, List.length_singleton]; omega) (fun c hc => by
      rcases List.mem_append.mp hc with hc | hc
      · exact a97 c hc
      · exact u128 c hc)).str
      (all_cons (tx_of (by rw [List.length_map]; omega) (fun c hc => by
        obtain ⟨x, hx, rfl⟩ := List.mem_map.mp hc
        exact up_lt (u128 x hx))).str
      (all_cons (tx_of (by rw [List.length_append]; omega) (fun c hc => by
        rcases List.mem_append.mp hc with hc | hc
        · exact u128 c hc
        · exact u128 c hc)).str
      (all_cons (tx_of (by omega) u128).tup all_nil))))))
  have hAB := ev_cat (C := CC (L + 2)) (e := e4) (S := S6) (a := .var 5) (ev_v rfl rfl) hB (at_app g5 [.lst B]) at_new (by omega) (show 7 ≤ 100 by decide)
  have s5 : exS (CC (L + 2)) (.set (.name 5) (.bin .Add (.var 5) (.lstE (.cons (.var 2) (.cons (.bin .Add (.var 2) (.str "a")) (.cons (.slc (.var 2) .no (.so (.neg (.int (1))))) (.cons (.bin .Add (.str "a") (.var 2)) (.cons (.meth (.var 2) "upper" .nil) (.cons (.bin .Mult (.var 2) (.int (2))) (.cons (.tupE (.cons (.var 2) .nil)) .nil)))))))))) e4 S6 = some (.nx, tE n (some (.str (sg w))) (some (.str (sg u))) (some (.int (p : Nat))) (some (.str (sg [s]))) (some (.ref (S6 ++ [Ob.lst B]).length)) none, (S6 ++ [.lst B]) ++ [.lst (A ++ B)]) := x_set hAB
  have h4 := at_app (at_app g4 [.lst B]) [.lst (A ++ B)]
  have h5 := at_new (S := S6 ++ [.lst B]) (o := .lst (A ++ B))
  have d7 := (d6.app [.lst B]).app [.lst (A ++ B)]
  have f7 := (f6.trans (Frm.app [.lst B])).trans (Frm.app [.lst (A ++ B)])
  have l7 : S6.length < (S6 ++ [Ob.lst B]).length := by simp
  clear hAB hB b1 b2 b3 b4 b5 b6 v2 g5 g4
  clear_value B
  generalize (S6 ++ [Ob.lst B]) ++ [Ob.lst (A ++ B)] = S7 at *
  generalize (S6 ++ [Ob.lst B]).length = j2 at *
  -- a number
  let e5 : En := tE n (some (.str (sg w))) (some (.str (sg u))) (some (.int (p : Nat))) (some (.str (sg [s]))) (some (.ref j2)) none
  have hp : evE (CC (L + 2)) (.bin .Pow (.int (10)) (.int (39))) e5 S7 = some (.int (10 ^ 39), S7) := by
    rw [evE]
    simp only [ev_i, bnd, binD]
    rw [if_pos (by decide)]
    rfl
  have hN := ev_lst (es_cons (ev_i (C := CC (L + 2)) (e := e5) (S := S7) (i := 0)) (es_cons (ev_i (i := 3)) (es_cons (ev_i (i := 4)) (es_cons (ev_i (i := 65535)) (es_cons (ev_i (i := 65536)) (es_cons (ev_i (i := 1)) (es_cons (ev_i (i := 2)) (es_cons (ev_i (i := 255)) (es_cons hp (es_cons (ev_i (i := 32768)) es_nil)))))))))) (show 10 ≤ 100 by decide)
  have lt7 := d7.lt
  obtain ⟨v6, S8, q6, hv6, d8, f8⟩ := ev_pick (L := L) (e := e5) rfl hN (d7.app [.lst (nums.map .int)]) (at_new (o := .lst (nums.map .int))) (by omega) (by omega) (show 0 < 10 by decide) (show 10 ≤ 100 by decide)
  obtain ⟨i, hi, rfl⟩ := List.mem_map.mp hv6
  obtain ⟨i1, i2, i3, i4, i5, i6, i7⟩ := nums_ok i hi
  have s6 : exS (CC (L + 2)) (.set (.name 6) (.call 11 (.cons (.var 0) (.cons (.lstE (.cons (.int (0)) (.cons (.int (3)) (.cons (.int (4)) (.cons (.int (65535)) (.cons (.int (65536)) (.cons (.int (1)) (.cons (.int (2)) (.cons (.int (255)) (.cons (.bin .Pow (.int (10)) (.int (39))) (.cons (.int (32768)) .nil))))))))))) .nil)) [])) e5 S7 = some (.nx, tE n (some (.str (sg w))) (some (.str (sg u))) (some (.int (p : Nat))) (some (.str (sg [s]))) (some (.ref j2)) (some (.int i)), S8) := x_set q6
  have fs := (Frm.app (n := n) (c := c) (S := S7) [.lst (nums.map .int)]).trans f8
  have k4 := fs.at_ h4 (by omega) (by omega)
  have k5 := fs.at_ h5 (by omega) (by omega)
  have f78 := f7.trans fs
  have l8 : j2 < S8.length := (List.getElem?_eq_some_iff.mp k5).1
  clear q6 hN f8 hv6 h4 h5
  -- the last seven
  let e6 : En := tE n (some (.str (sg w))) (some (.str (sg u))) (some (.int (p : Nat))) (some (.str (sg [s]))) (some (.ref j2)) (some (.int i))
  have v6 : ∀ T, evE (CC (L + 2)) (.var 6) e6 T = some (.int i, T) := fun T => ev_v rfl rfl
  have c1 := ev_plus (v6 S8) (ev_i (i := 1))
  have c2 := ev_sub (v6 S8) (ev_i (i := 1))
  have c3 := ev_sub (ev_i (i := 0)) (v6 S8)
  have c4 : evE (CC (L + 2)) (.bi .str (.cons (.var 6) .nil)) e6 S8 = some (.str (sg (toString i : Str).cps.toList), S8) := by
    rw [evE, sg_eta]
    simp only [es_cons (v6 S8) es_nil, bnd, biD, bi1, i5, if_true, giv, Option.map_some]
  have c5 : evE (CC (L + 2)) (.cmp .Gt (.var 6) (.int (0))) e6 S8 = some (.bl (decide (0 < i)), S8) := by
    rw [evE]
    simp only [v6, ev_i, bnd, cmpD, Option.map_some, giv]
  have c6 := ev_tup (es_cons (v6 S8) es_nil) (show 1 ≤ 100 by decide)
  have hC := ev_lst (es_cons (v6 S8) (es_cons c1 (es_cons c2 (es_cons c3 (es_cons c4 (es_cons c5 (es_cons c6 es_nil))))))) (show 7 ≤ 100 by decide)
  let Z : List D := [.int i, .int (i + 1), .int (i - 1), .int (0 - i), .str (sg (toString i : Str).cps.toList), .bl (decide (0 < i)), .tup [.int i]]
  have tZ : ∀ y ∈ Z, ∀ S, Itm S y :=
    all_cons (P := fun y => ∀ S, Itm S y) (int_itm i1) (all_cons (int_itm i2) (all_cons (int_itm i3) (all_cons (int_itm i4) (all_cons (tx_of i6 i7).str (all_cons (bl_itm _) (all_cons (int_tup i1) all_nil))))))
  have lZ : Z.length = 7 := rfl
  have hABC := ev_cat (C := CC (L + 2)) (e := e6) (S := S8) (a := .var 5) (ev_v rfl rfl) hC (at_app k5 [.lst Z]) at_new (by rw [List.length_append]; omega) (show 7 ≤ 100 by decide)
  refine ⟨(S8 ++ [Ob.lst Z]).length, (A ++ B) ++ Z, (S8 ++ [.lst Z]) ++ [.lst ((A ++ B) ++ Z)], ?_, at_new, ?_, by rw [List.length_append, List.length_append]; omega, ?_, (d8.app _).app _, (f78.trans (Frm.app _)).trans (Frm.app _)⟩
  · rw [show c18 = .cons _ (.cons _ (.cons _ (.cons _ (.cons _ (.cons _ (.cons _ .nil)))))) from rfl, ex_nx s1, ex_nx s2, ex_nx s3, ex_nx s4, ex_nx s5, ex_nx s6, ex_rt (x_ret hABC)]
    rfl
  · refine all_app (all_app (tA _ _ ?_ (at_app (at_app k4 _) _)) fun y hy => .inl (tB y hy)) fun y hy => .inl (tZ y hy)
    rw [List.length_append]
    omega
  · have := f78.le
    rw [List.length_append]
    omega
end K01
end
section
set_option Elab.async false
set_option linter.all false
set_option maxRecDepth 100000
set_option maxHeartbeats 1000000
namespace K01
open PySem PC
/-! ### the repr of a term -/
theorem log_small {i : Int} (h0 : 0 ≤ i) (h1 : i ≤ 65535) : i.natAbs.log2 < 17 := by
  have h : i.natAbs < 2 ^ 17 := by
    have : (2 : Nat) ^ 17 = 131072 := by decide
    omega
  by_cases hz : i.natAbs = 0
  · rw [hz]
    decide
  · exact (Nat.log2_lt hz).mpr h
theorem shI_small {i : Int} (h0 : 0 ≤ i) (h1 : i ≤ 65535) : shI i = true := by
  have h := log_small h0 h1
  unfold shI
  rw [Bool.and_eq_true, decide_eq_true_eq, decide_eq_true_eq]
  refine ⟨by omega, ?_⟩
  have h2 := int_text_length_le (a := i) (k := 17) (by decide) h
  have h3 : (toString i : Str).length = (toString i : String).length := PySem.ofString_length _
  rw [h3]
  omega
def Tm.p : Tm → PyData
  | .num i => .tuple [.str "num", .int i]
  | .name w => .tuple [.str "name", .str (sg w)]
  | .op o a b => .tuple [.str (opW o), a.p, b.p]
theorem Tm.rd {S : Sto} : ∀ (t : Tm) (k : Nat), t.dep + 2 ≤ k → rdP k S t.d = some t.p
  | .num i, k, h => by
    obtain ⟨j, rfl⟩ : ∃ j, k = j + 2 := ⟨k - 2, by omega⟩
    rfl
  | .name w, k, h => by
    obtain ⟨j, rfl⟩ : ∃ j, k = j + 2 := ⟨k - 2, by omega⟩
    rfl
  | .op o a b, k, h => by
    have hd : (Tm.op o a b).dep = max a.dep b.dep + 1 := rfl
    obtain ⟨j, rfl⟩ : ∃ j, k = j + 2 := ⟨k - 2, by omega⟩
    show (optMap (rdP (j + 1) S) [.str (opW o), a.d, b.d]).map PyData.tuple = _
    rw [om_cons rd_str (om_cons (Tm.rd a (j + 1) (by omega)) (om_cons (Tm.rd b (j + 1) (by omega)) rfl))]
    rfl
theorem opW_small (o : Fin 6) : (opW o).cps.size ≤ 5 ∧ (opW o).cps.toList.all (fun c => decide (c < 16 ^ 8)) = true := by
  revert o
  decide +kernel
theorem Tm.facts {P : List Nat → Prop} (hP : ∀ w, P w → Nm w) : ∀ t : Tm, t.ok P → noD t.p = true ∧ t.p.showable = true ∧ t.p.leavesShort 100 = true ∧ t.p.bulk + 8 ≤ 100 * 2 ^ t.dep
  | .num i, h => by
    have hs := shI_small h.1 h.2
    unfold shI at hs
    rw [Bool.and_eq_true] at hs
    refine ⟨rfl, ?_, ?_, ?_⟩
    · simp only [Tm.p, PyData.showable, PyData.showableAll, Bool.and_true, Bool.true_and]
      exact hs.1
    · show (PyData.leavesShort 100 (.str "num") && (PyData.leavesShort 100 (.int i) && true)) = true
      rw [show PyData.leavesShort 100 (.str "num") = true from by decide +kernel, show PyData.leavesShort 100 (.int i) = true from hs.2]
      rfl
    · simp only [Tm.p, PyData.bulk, PyData.bulkAll, Tm.dep]
      decide +kernel
  | .name w, h => by
    have hw := hP w h
    have hx : Tx w := tx_of (Nat.le_trans hw.hi (by decide)) fun c hc => az_lt (hw.az c hc)
    refine ⟨rfl, rfl, ?_, ?_⟩
    · show (PyData.leavesShort 100 (.str "name") && (PyData.leavesShort 100 (.str (sg w)) && true)) = true
      rw [show PyData.leavesShort 100 (.str "name") = true from by decide +kernel, hx.leaf]
      rfl
    · have h4 : (("name" : Str)).cps.size = 4 := by decide +kernel
      have hz := hx.size
      simp only [Tm.p, PyData.bulk, PyData.bulkAll, Tm.dep, h4]
      omega
  | .op o a b, h => by
    obtain ⟨a1, a2, a3, a4⟩ := Tm.facts hP a h.1
    obtain ⟨b1, b2, b3, b4⟩ := Tm.facts hP b h.2
    have ho := opW_small o
    refine ⟨?_, ?_, ?_, ?_⟩
    · show (true && (noD a.p && (noD b.p && true))) = true
      rw [a1, b1]
      rfl
    · show (true && (a.p.showable && (b.p.showable && true))) = true
      rw [a2, b2]
      rfl
    · show (PyData.leavesShort 100 (.str (opW o)) && (PyData.leavesShort 100 a.p && (PyData.leavesShort 100 b.p && true))) = true
      rw [a3, b3, show PyData.leavesShort 100 (.str (opW o)) = true from ho.2]
      rfl
    · have hd : (Tm.op o a b).dep = max a.dep b.dep + 1 := rfl
      have pa : 2 ^ a.dep ≤ 2 ^ (max a.dep b.dep) := Nat.pow_le_pow_right (by decide) (Nat.le_max_left _ _)
      have pb : 2 ^ b.dep ≤ 2 ^ (max a.dep b.dep) := Nat.pow_le_pow_right (by decide) (Nat.le_max_right _ _)
      rw [hd, Nat.pow_succ]
      simp only [Tm.p, PyData.bulk, PyData.bulkAll]
      omega
theorem Tm.repr {P : List Nat → Prop} (hP : ∀ w, P w → Nm w) {t : Tm} (h : t.ok P) (hd : t.dep ≤ 6) (S : Sto) : reprD t.d S = some (PyData.shown t.p) := by
  obtain ⟨h1, h2, h3, h4⟩ := Tm.facts hP t h
  have h5 : 100 * 2 ^ t.dep ≤ 100 * 2 ^ 6 := Nat.mul_le_mul_left _ (Nat.pow_le_pow_right (by decide) hd)
  refine repr_of (Tm.rd t 60 (by omega)) ?_ h2 h3 ?_
  · unfold repOk
    rw [h1]
    rfl
  · have : 100 * 2 ^ 6 ≤ 100000 := by decide
    omega
/-- the repr of a list of two numbers -/
def two (v : Int) : Str := PyData.shown (.list [.int v, .int v])
theorem two_repr {v : Int} (h0 : 0 ≤ v) (h1 : v ≤ 65535) {S : Sto} {m : Nat} (hm : S[m]? = some (.lst [.int v, .int v])) : reprD (.ref m) S = some (two v) := by
  have hs := shI_small h0 h1
  unfold shI at hs
  rw [Bool.and_eq_true] at hs
  refine repr_of (p := .list [.int v, .int v]) (rd_lst hm) rfl ?_ ?_ ?_
  · simp only [PyData.showable, PyData.showableAll, Bool.and_true, Bool.and_self]
    exact hs.1
  · show (PyData.leavesShort 100 (.int v) && (PyData.leavesShort 100 (.int v) && true)) = true
    rw [show PyData.leavesShort 100 (.int v) = true from hs.2]
    rfl
  · simp only [PyData.bulk, PyData.bulkAll]
    decide
/-! ### numbers by names, from behind -/
theorem rho_at : ∀ (ps : Ps), (ps.map (·.1)).Nodup → ∀ p ∈ ps, rho ps p.1 = p.2
  | [], _, p, h => by cases h
  | x :: ps, hn, p, h => by
    rw [List.map_cons, List.nodup_cons] at hn
    unfold rho
    rw [List.find?_cons]
    rcases List.mem_cons.mp h with rfl | h
    · simp
    · have e : ¬ x.1 = p.1 := fun z => hn.1 (List.mem_map.mpr ⟨p, h, z.symm⟩)
      simp only [e, decide_false]
      exact rho_at ps hn.2 p h
theorem rho_rev {ps : Ps} (hn : (ps.map (·.1)).Nodup) {w : List Nat} (h : w ∈ ps.map (·.1)) : rho ps.reverse w = rho ps w := by
  obtain ⟨p, hp, rfl⟩ := List.mem_map.mp h
  rw [rho_at ps hn p hp]
  refine rho_at ps.reverse ?_ p (List.mem_reverse.mpr hp)
  rw [List.map_reverse]
  exact (List.Perm.nodup_iff (List.reverse_perm _)).mpr hn
theorem val_rho {ρ σ : List Nat → Int} {P : List Nat → Prop} (h : ∀ w, P w → ρ w = σ w) : ∀ t : Tm, t.ok P → t.val ρ = t.val σ
  | .num i, _ => rfl
  | .name w, q => h w q
  | .op o a b, q => by
    show byW o (a.val ρ) (b.val ρ) = byW o (a.val σ) (b.val σ)
    rw [val_rho h a q.1, val_rho h b q.2]
theorem Tm.ok_mono {P Q : List Nat → Prop} (h : ∀ w, P w → Q w) : ∀ t : Tm, t.ok P → t.ok Q
  | .num i, q => q
  | .name w, q => h w q
  | .op o a b, q => ⟨Tm.ok_mono h a q.1, Tm.ok_mono h b q.2⟩
end K01
end
section
set_option Elab.async false
set_option linter.all false
set_option maxRecDepth 100000
set_option maxHeartbeats 1000000
namespace K01
open PySem PC
theorem ev_drawI {L n c w i : Nat} {e : En} {S : Sto} {a : CE} (d : Dk n c S) (h0 : e[i]? = some (some (.ref n))) (ha : evE (CC (L + 1)) a e S = some (.int (w : Nat), S)) (hw : 0 < w) (hw2 : w < 1073741824) :
    ∃ r S', evE (CC (L + 1)) (.call 10 (.cons (.var i) (.cons a .nil)) []) e S = some (.int (r : Nat), S') ∧ r < w ∧ Dk n c S' ∧ Frm n c S S' := by
  obtain ⟨r, S', e1, r0, r1, d1, f1⟩ := draw_ok (L := L) (ways := (w : Int)) d (by omega) (by omega)
  have er : r = (r.toNat : Int) := by omega
  refine ⟨r.toNat, S', ?_, by omega, d1, f1⟩
  rw [← er, evE]
  simp only [es_cons (ev_v h0 rfl) (es_cons ha es_nil), bnd, callIx, if_true]
  exact e1
theorem ev_pickI {L n c m j : Nat} {e : En} {S S1 : Sto} {a : CE} {ys : List D} (h0 : e[j]? = some (some (.ref n))) (ha : evE (CC (L + 2)) a e S = some (.ref m, S1)) (d : Dk n c S1) (hm : S1[m]? = some (.lst ys)) (hn : m ≠ n) (hc : m ≠ c) (hl0 : 0 < ys.length) (hl : ys.length ≤ 100) :
    ∃ x S', evE (CC (L + 2)) (.call 11 (.cons (.var j) (.cons a .nil)) []) e S = some (x, S') ∧ x ∈ ys ∧ Dk n c S' ∧ Frm n c S1 S' := by
  obtain ⟨i, x, S', e1, hi, hx, d1, f1⟩ := pick_ok (L := L) d hm hn hc hl0 (Nat.lt_of_le_of_lt hl (by decide))
  refine ⟨x, S', ?_, List.mem_of_getElem? hx, d1, f1⟩
  rw [evE]
  have hv : evE (CC (L + 2)) (.var j) e S = some (.ref n, S) := ev_v h0 rfl
  simp only [es_cons hv (es_cons ha es_nil), bnd, callIx, if_true]
  exact e1
theorem lc_val {C : Cal} {e : En} {S S1 S2 : Sto} {elt a : CE} {ifs : CEs} {k m : Nat} {xs ys : List D} (ha : evE C a e S = some (.ref m, S1)) (hm : S1[m]? = some (.lst xs)) (h : lcLoop (lcTn (tstEs C ifs) (evE C elt) (.name k) (e.set k none)) xs (S1.set m (.fro xs)) = some (ys, S2)) (hl : ys.length ≤ 100) :
    evE C (.lc elt (.name k) .val (.cons a .nil) ifs [k]) e S = some (.ref S2.length, S2.set m (.lst xs) ++ [.lst ys]) := by
  have hl2 : ys.length < line := Nat.lt_of_le_of_lt hl (by decide)
  have hi : itD .val [.ref m] S1 = some (xs, [m]) := by
    show itV (.ref m) S1 = _
    simp only [itV, hm]
  have hf : froz S1 m = S1.set m (.fro xs) := by
    unfold froz
    simp only [hm]
  have ht : thaw S1 S2 m = S2.set m (.lst xs) := by
    unfold thaw
    simp only [hm]
  rw [evE]
  simp only [es_cons ha es_nil, bnd, lcRun, hi, wipe, List.foldl_cons, List.foldl_nil, hf, h, ht, hl2, if_true, PC.new, List.length_set]
def pairE : CE := .tupE (.cons (.var 7) (.cons (.ifE (.cmp .Eq (.call 10 (.cons (.var 1) (.cons (.int (2)) .nil)) []) (.int (1))) (.call 11 (.cons (.var 1) (.cons (.var 5) .nil)) []) (.call 10 (.cons (.var 1) (.cons (.int (65536)) .nil)) [])) .nil))
theorem loop_pairs {L n c q : Nat} {e : En} {lots : List Int} (h1 : ∀ x, (e.set 7 x)[1]? = some (some (.ref n))) (h5 : ∀ x, (e.set 7 x)[5]? = some (some (.ref q))) (h7 : ∀ x, (e.set 7 x)[7]? = some x) (hqn : q ≠ n) (hqc : q ≠ c) (hl0 : 0 < lots.length) (hl : lots.length ≤ 100) (hb : ∀ i ∈ lots, 0 ≤ i ∧ i ≤ 65535) : ∀ (ws : List (List Nat)) (S : Sto), Dk n c S → S[q]? = some (.lst (lots.map .int)) →
    ∃ (ps : Ps) (S' : Sto), lcLoop (lcTn (tstEs (CC (L + 2)) .nil) (evE (CC (L + 2)) pairE) (.name 7) e) (ws.map fun w => .str (sg w)) S = some (pairs ps, S') ∧ ps.map (·.1) = ws ∧ (∀ p ∈ ps, 0 ≤ p.2 ∧ p.2 ≤ 65535) ∧ Dk n c S' ∧ Frm n c S S'
  | [], S, d, hq => ⟨[], S, rfl, rfl, fun p h => (by cases h), d, .refl⟩
  | w :: ws, S, d, hq => by
    have hv : evE (CC (L + 2)) (.var 7) (e.set 7 (some (.str (sg w)))) S = some (.str (sg w), S) := ev_v (h7 _) rfl
    obtain ⟨r, S1, e1, r2, d1, f1⟩ := ev_drawI (L := L + 1) (w := 2) (a := .int 2) (e := e.set 7 (some (.str (sg w)))) d (h1 _) ev_i (by decide) (by decide)
    have hc := ev_eq e1 (ev_i (i := 1))
    have hq1 := f1.at_ hq hqn hqc
    obtain ⟨i, S2, hi, i0, i1, d2, f2⟩ : ∃ (i : Int) (S2 : Sto), evE (CC (L + 2)) (.ifE (.cmp .Eq (.call 10 (.cons (.var 1) (.cons (.int (2)) .nil)) []) (.int (1))) (.call 11 (.cons (.var 1) (.cons (.var 5) .nil)) []) (.call 10 (.cons (.var 1) (.cons (.int (65536)) .nil)) [])) (e.set 7 (some (.str (sg w)))) S = some (.int i, S2) ∧ 0 ≤ i ∧ i ≤ 65535 ∧ Dk n c S2 ∧ Frm n c S1 S2 := by
      by_cases hr : ((r : Nat) : Int) = 1
      · obtain ⟨x, S2, e2, hx, d2, f2⟩ := ev_pickI (L := L) (j := 1) (a := .var 5) (e := e.set 7 (some (.str (sg w)))) (h1 _) (ev_v (h5 _) rfl) d1 hq1 hqn hqc (by rw [List.length_map]; exact hl0) (by rw [List.length_map]; exact hl)
        obtain ⟨i, hi, rfl⟩ := List.mem_map.mp hx
        exact ⟨i, S2, ev_if hc (fun _ => e2) (fun z => absurd hr (of_decide_eq_false z)), (hb i hi).1, (hb i hi).2, d2, f2⟩
      · obtain ⟨i, S2, e2, i2, d2, f2⟩ := ev_drawI (L := L + 1) (w := 65536) (a := .int 65536) (e := e.set 7 (some (.str (sg w)))) d1 (h1 _) ev_i (by decide) (by decide)
        exact ⟨i, S2, ev_if hc (fun z => absurd (of_decide_eq_true z) hr) (fun _ => e2), by omega, by omega, d2, f2⟩
    have hp := ev_tup (es_cons hv (es_cons hi es_nil)) (show 2 ≤ 100 by decide)
    obtain ⟨ps, S3, e3, hps, hbs, d3, f3⟩ := loop_pairs (L := L) h1 h5 h7 hqn hqc hl0 hl hb ws S2 d2 (f2.at_ hq1 hqn hqc)
    refine ⟨(w, i) :: ps, S3, ?_, by rw [List.map_cons, hps], fun p hp => ?_, d3, f1.trans (f2.trans f3)⟩
    · have ht : lcTn (tstEs (CC (L + 2)) .nil) (evE (CC (L + 2)) pairE) (.name 7) e (.str (sg w)) S = some (some (.tup [.str (sg w), .int i]), S2) := by
        simp only [lcTn, putT, tstEs, pairE, hp]
      rw [List.map_cons, lcLoop, ht]
      simp only
      rw [e3]
      rfl
    · rcases List.mem_cons.mp hp with rfl | hp
      · exact ⟨i0, i1⟩
      · exact hbs p hp
/-! ### all things are told rightly -/
theorem loop_right {L : Nat} {e : En} {S : Sto} {f : En → Sto → Re D} (h12 : ∀ x, (e.set 12 x)[12]? = some x) : ∀ (xs : List D) (T : Sto), (∀ x ∈ xs, Itm S x) → ∃ T', lcLoop (lcTn (tstEs (CC (L + 4)) (.cons (.notE (.call 17 (.cons (.var 12) .nil) [])) .nil)) f (.name 12) e) xs (S ++ T) = some ([], S ++ T')
  | [], T, _ => ⟨T, rfl⟩
  | x :: xs, T, h => by
    have hx := (h x List.mem_cons_self).app T
    obtain ⟨U, hU⟩ := right_ok (L := L) hx
    obtain ⟨V, hV⟩ := loop_right (L := L) (f := f) h12 xs (T ++ U) fun y hy => h y (List.mem_cons_of_mem _ hy)
    refine ⟨V, ?_⟩
    have hc : evE (CC (L + 4)) (.call 17 (.cons (.var 12) .nil) []) (e.set 12 (some x)) (S ++ T) = some (.bl true, S ++ (T ++ U)) := by
      rw [evE]
      simp only [es_cons (ev_v (h12 _) hx.kd.lam) es_nil, bnd, callIx, if_true]
      rw [hU, List.append_assoc]
    have hn : evE (CC (L + 4)) (.notE (.call 17 (.cons (.var 12) .nil) [])) (e.set 12 (some x)) (S ++ T) = some (.bl false, S ++ (T ++ U)) := by
      rw [evE]
      simp only [hc, bnd, truD, Option.map_some, giv, Bool.not_true]
    have ht : lcTn (tstEs (CC (L + 4)) (.cons (.notE (.call 17 (.cons (.var 12) .nil) [])) .nil)) f (.name 12) e x (S ++ T) = some (none, S ++ (T ++ U)) := by
      simp only [lcTn, putT, tstEs, hn, bnd, truD]
    rw [lcLoop, ht]
    simp only
    rw [hV]
    rfl
def rightE (a : CE) : CE := .lc (.var 12) (.name 12) .val (.cons a .nil) (.cons (.notE (.call 17 (.cons (.var 12) .nil) [])) .nil) [12]
theorem set_back {S : Sto} {m : Nat} {x y : Ob} (h : S[m]? = some x) : (S.set m y).set m x = S := by
  rw [List.set_set]
  obtain ⟨hlt, he⟩ := List.getElem?_eq_some_iff.mp h
  rw [← he]
  exact List.set_getElem_self hlt
theorem set_app {S T : Sto} {m : Nat} {x : Ob} (h : m < S.length) : (S ++ T).set m x = S.set m x ++ T := List.set_append_left _ _ h
theorem ev_right {L m : Nat} {e : En} {S S1 : Sto} {a : CE} {xs : List D} (h12 : ∀ x, ((e.set 12 none).set 12 x)[12]? = some x) (ha : evE (CC (L + 4)) a e S = some (.ref m, S1)) (hm : S1[m]? = some (.lst xs)) (ht : ∀ x ∈ xs, Thg m S1 x) :
    ∃ T, evE (CC (L + 4)) (.cmp .Eq (rightE a) (.lstE .nil)) e S = some (.bl true, S1 ++ T) ∧ evE (CC (L + 4)) (.cmp .NotEq (rightE a) (.lstE .nil)) e S = some (.bl false, S1 ++ T) := by
  have hlt : m < S1.length := (List.getElem?_eq_some_iff.mp hm).1
  obtain ⟨T, hT⟩ := loop_right (L := L) (e := e.set 12 none) (S := S1.set m (.fro xs)) (f := evE (CC (L + 4)) (.var 12)) h12 xs [] fun x hx => ((ht x hx).set_).itm
  rw [List.append_nil] at hT
  have hlc := lc_val (elt := .var 12) ha hm hT (Nat.zero_le _)
  rw [set_app (by rw [List.length_set]; exact hlt), set_back hm] at hlc
  rw [List.length_append, List.length_set, ← List.length_append] at hlc
  have hn := ev_lst (C := CC (L + 4)) (e := e) (S := (S1 ++ T) ++ [.lst []]) es_nil (Nat.zero_le _)
  have hq : eqD (.ref (S1 ++ T).length) (.ref ((S1 ++ T) ++ [Ob.lst []]).length) (((S1 ++ T) ++ [.lst []]) ++ [.lst []]) = some true := by
    simp only [eqD, rd_nil (at_app at_new _), rd_nil at_new, eqv_nil]
    rfl
  have hs : ((S1 ++ T) ++ [Ob.lst []]) ++ [Ob.lst []] = S1 ++ (T ++ [.lst [], .lst []]) := by simp
  refine ⟨T ++ [.lst [], .lst []], ?_, ?_⟩
  · rw [evE]
    simp only [rightE, hlc, hn, bnd, cmpD, hq, Option.map_some, giv]
    rw [hs]
  · rw [evE]
    simp only [rightE, hlc, hn, bnd, cmpD, hq, Option.map_some, giv, Bool.not_true]
    rw [hs]
end K01
end
section
set_option Elab.async false
set_option linter.all false
set_option maxRecDepth 100000
set_option maxHeartbeats 1000000
namespace K01
open PySem PC
def lE (x : D) (n : Nat) (t nm gr lots prs y own due kept told it odd : Option D) : En := [some x, some (.ref n), t, nm, gr, lots, prs, y, own, due, kept, told, it, odd]
def lots1 : List Int := [65535, 65534, 32768, 65280, 256, 1]
def lots2 : List Int := [0, 1, 2, 3, 5, 10]
theorem ev_repr {C : Cal} {e : En} {S S1 : Sto} {a : CE} {d : D} {x : Str} (ha : evE C a e S = some (d, S1)) (hr : reprD d S1 = some x) : evE C (.bi .repr (.cons a .nil)) e S = some (.str x, S1) := by
  rw [evE]
  simp only [es_cons ha es_nil, bnd, biD, bi1, hr, Option.map_some, giv]
theorem ev_tuple {C : Cal} {e : En} {S S1 : Sto} {a : CE} {m : Nat} {xs : List D} (ha : evE C a e S = some (.ref m, S1)) (hm : S1[m]? = some (.lst xs)) : evE C (.bi .tuple (.cons a .nil)) e S = some (.tup xs, S1) := by
  rw [evE]
  simp only [es_cons ha es_nil, bnd, biD, bi1, tupD, hm, giv, Option.map_some]
theorem lst_at {S : Sto} {m : Nat} {xs : List D} (hm : S[m]? = some (.lst xs)) : lstD (.ref m) S = some xs := by
  unfold lstD
  simp only [hm]
theorem pairs_rev (ps : Ps) : (pairs ps).reverse = pairs ps.reverse := by
  unfold pairs
  rw [List.map_reverse]
/-- what the law draws ahead of a term: names, numbers for them -/
theorem draws_ok {L n c : Nat} {x : D} {t nm gr lots prs y own due kept told it odd : Option D} {S : Sto} (d : Dk n c S) :
    ∃ (ps : Ps) (m3 m6 : Nat) (gr' lots' : Option D) (S' : Sto),
      (∀ r : CSs, exSs (CC (L + 10)) (.cons (.set (.name 3) (.call 12 (.cons (.var 1) (.cons (.bin .Add (.int (1)) (.call 10 (.cons (.var 1) (.cons (.int (6)) .nil)) [])) .nil)) [])) (.cons (.set (.name 4) (.cmp .Eq (.call 10 (.cons (.var 1) (.cons (.int (2)) .nil)) []) (.int (1)))) (.cons (.set (.name 5) (.ifE (.var 4) (.lstE (.cons (.int (65535)) (.cons (.int (65534)) (.cons (.int (32768)) (.cons (.int (65280)) (.cons (.int (256)) (.cons (.int (1)) .nil))))))) (.lstE (.cons (.int (0)) (.cons (.int (1)) (.cons (.int (2)) (.cons (.int (3)) (.cons (.int (5)) (.cons (.int (10)) .nil))))))))) (.cons (.set (.name 6) (.lc pairE (.name 7) .val (.cons (.var 3) .nil) .nil [7])) r)))) (lE x n t nm gr lots prs y own due kept told it odd) S
        = exSs (CC (L + 10)) r (lE x n t (some (.ref m3)) gr' lots' (some (.ref m6)) y own due kept told it odd) S') ∧
      S'[m3]? = some (.lst ((ps.map (·.1)).map fun w => .str (sg w))) ∧ S'[m6]? = some (.lst (pairs ps)) ∧ m3 ≠ n ∧ m3 ≠ c ∧ m6 ≠ n ∧ m6 ≠ c ∧ (ps.map (·.1)).Nodup ∧ 1 ≤ ps.length ∧ ps.length ≤ 100 ∧ (∀ w ∈ ps.map (·.1), Nm w) ∧ (∀ p ∈ ps, 0 ≤ p.2 ∧ p.2 ≤ 65535) ∧ Dk n c S' := by
  have lt := d.lt
  let e0 : En := lE x n t nm gr lots prs y own due kept told it odd
  -- names
  obtain ⟨r, S1, q1, r6, d1, f1⟩ := ev_drawI (L := L + 9) (i := 1) (w := 6) (a := .int 6) (e := e0) d rfl ev_i (by decide) (by decide)
  have hp := ev_plus (ev_i (i := 1)) q1
  rw [show (1 : Int) + (r : Nat) = ((1 + r : Nat) : Int) by omega] at hp
  obtain ⟨ws, m3, S2, q2, hm2, l2, wnd, ws1, wsc, wsn, d2, f2⟩ := unlike_ok (L := L + 8) (cnt := 1 + r) d1 (by omega)
  have h3 : evE (CC (L + 10)) (.call 12 (.cons (.var 1) (.cons (.bin .Add (.int (1)) (.call 10 (.cons (.var 1) (.cons (.int (6)) .nil)) [])) .nil)) []) e0 S = some (.ref m3, S2) := by
    rw [evE]
    simp only [es_cons (ev_v (C := CC (L + 10)) (e := e0) (S := S) (i := 1) rfl rfl) (es_cons hp es_nil), bnd, callIx, if_true]
    exact q2
  have s1 : exS (CC (L + 10)) (.set (.name 3) (.call 12 (.cons (.var 1) (.cons (.bin .Add (.int (1)) (.call 10 (.cons (.var 1) (.cons (.int (6)) .nil)) [])) .nil)) [])) e0 S = some (.nx, lE x n t (some (.ref m3)) gr lots prs y own due kept told it odd, S2) := x_set h3
  have mn : m3 ≠ n := by have := f1.le; omega
  have mc : m3 ≠ c := by have := f1.le; omega
  clear q1 hp q2 h3 f1 f2 d1 l2
  -- great or not
  obtain ⟨g, S3, q3, g2, d3, f3⟩ := ev_drawI (L := L + 9) (i := 1) (w := 2) (a := .int 2) (e := lE x n t (some (.ref m3)) gr lots prs y own due kept told it odd) d2 rfl ev_i (by decide) (by decide)
  have s2 : exS (CC (L + 10)) (.set (.name 4) (.cmp .Eq (.call 10 (.cons (.var 1) (.cons (.int (2)) .nil)) []) (.int (1)))) (lE x n t (some (.ref m3)) gr lots prs y own due kept told it odd) S2 = some (.nx, lE x n t (some (.ref m3)) (some (.bl (decide (((g : Nat) : Int) = 1)))) lots prs y own due kept told it odd, S3) := x_set (ev_eq q3 ev_i)
  have hm3 := f3.at_ hm2 mn mc
  generalize decide (((g : Nat) : Int) = 1) = b at *
  clear q3 f3 hm2 d2
  -- the numbers
  obtain ⟨ls, hls, ls0, lsl, s3⟩ : ∃ ls : List Int, (∀ i ∈ ls, 0 ≤ i ∧ i ≤ 65535) ∧ 0 < ls.length ∧ ls.length ≤ 100 ∧ exS (CC (L + 10)) (.set (.name 5) (.ifE (.var 4) (.lstE (.cons (.int (65535)) (.cons (.int (65534)) (.cons (.int (32768)) (.cons (.int (65280)) (.cons (.int (256)) (.cons (.int (1)) .nil))))))) (.lstE (.cons (.int (0)) (.cons (.int (1)) (.cons (.int (2)) (.cons (.int (3)) (.cons (.int (5)) (.cons (.int (10)) .nil))))))))) (lE x n t (some (.ref m3)) (some (.bl b)) lots prs y own due kept told it odd) S3 = some (.nx, lE x n t (some (.ref m3)) (some (.bl b)) (some (.ref S3.length)) prs y own due kept told it odd, S3 ++ [.lst (ls.map .int)]) := by
    have v4 : evE (CC (L + 10)) (.var 4) (lE x n t (some (.ref m3)) (some (.bl b)) lots prs y own due kept told it odd) S3 = some (.bl b, S3) := ev_v rfl rfl
    cases b with
    | true => exact ⟨lots1, by decide, by decide, by decide, x_set (ev_if v4 (fun _ => ev_lst (es_cons ev_i (es_cons ev_i (es_cons ev_i (es_cons ev_i (es_cons ev_i (es_cons ev_i es_nil)))))) (show 6 ≤ 100 by decide)) (fun z => by cases z))⟩
    | false => exact ⟨lots2, by decide, by decide, by decide, x_set (ev_if v4 (fun z => by cases z) (fun _ => ev_lst (es_cons ev_i (es_cons ev_i (es_cons ev_i (es_cons ev_i (es_cons ev_i (es_cons ev_i es_nil)))))) (show 6 ≤ 100 by decide)))⟩
  have lt3 := d3.lt
  have l3 : m3 < S3.length := (List.getElem?_eq_some_iff.mp hm3).1
  have hm4 := at_app hm3 [.lst (ls.map .int)]
  have hq4 := at_new (S := S3) (o := .lst (ls.map .int))
  have d4 := d3.app [.lst (ls.map .int)]
  -- the pairs
  let e4 : En := lE x n t (some (.ref m3)) (some (.bl b)) (some (.ref S3.length)) prs y own due kept told it odd
  obtain ⟨ps, S5, q5, hps, hbs, d5, f5⟩ := loop_pairs (L := L + 8) (e := e4.set 7 none) (q := S3.length) (fun _ => rfl) (fun _ => rfl) (fun _ => rfl) (by omega) (by omega) ls0 lsl hls ws _ (d4.set_ (x := .fro (ws.map fun w => .str (sg w))) mn mc) (at_set hq4 (by omega))
  have pl : ps.length = ws.length := by rw [← hps, List.length_map]
  have h6 := lc_val (C := CC (L + 10)) (e := e4) (S := S3 ++ [.lst (ls.map .int)]) (a := .var 3) (ev_v rfl rfl) hm4 q5 (by
    show ((ps.map _).length) ≤ 100
    rw [List.length_map]
    omega)
  have s4 : exS (CC (L + 10)) (.set (.name 6) (.lc pairE (.name 7) .val (.cons (.var 3) .nil) .nil [7])) e4 (S3 ++ [.lst (ls.map .int)]) = some (.nx, lE x n t (some (.ref m3)) (some (.bl b)) (some (.ref S3.length)) (some (.ref S5.length)) y own due kept told it odd, S5.set m3 (.lst (ws.map fun w => .str (sg w))) ++ [.lst (pairs ps)]) := x_set h6
  have g3 := f5.at_ (at_own (x := .fro (ws.map fun w => .str (sg w))) hm4) mn mc
  have l5 : S5.length = (S5.set m3 (.lst (ws.map fun w => .str (sg w)))).length := by rw [List.length_set]
  have lt5 := d5.lt
  refine ⟨ps, m3, S5.length, some (.bl b), some (.ref S3.length), S5.set m3 (.lst (ws.map fun w => .str (sg w))) ++ [.lst (pairs ps)], fun r => ?_, ?_, ?_, mn, mc, by omega, by omega, by rw [hps]; exact wnd, by omega, by omega, by rw [hps]; exact wsn, hbs, (d5.set_ mn mc).app [.lst (pairs ps)]⟩
  · rw [ex_nx s1, ex_nx s2, ex_nx s3, ex_nx s4]
  · rw [hps]
    exact at_app (at_own g3) _
  · have := at_new (S := S5.set m3 (.lst (ws.map fun w => .str (sg w)))) (o := .lst (pairs ps))
    rwa [← l5] at this
end K01
end
section
set_option Elab.async false
set_option linter.all false
set_option maxRecDepth 100000
set_option maxHeartbeats 1000000
namespace K01
open PySem PC
def tl5 : CSs := (.cons (.set (.name 8) (.call 13 (.cons (.var 1) (.cons (.var 3) (.cons (.int (6)) (.cons (.lstE (.cons (.int (12)) .nil)) .nil)))) []))
  (.cons (.set (.tup [9, 10]) (.tupE (.cons (.call 14 (.cons (.var 8) (.cons (.bi .dict (.cons (.var 6) .nil)) .nil)) []) (.cons (.bi .repr (.cons (.var 8) .nil)) .nil))))
  (.cons (.set (.name 11) (.lstE (.cons (.call 8 (.cons (.var 8) (.cons (.bi .tuple (.cons (.var 6) .nil)) .nil)) []) (.cons (.call 8 (.cons (.bi .tuple (.cons (.rev (.var 6)) .nil)) (.cons (.var 8) .nil)) [1, 0]) .nil))))
  (.cons (.ifS (.orE (.cmp .NotEq (.bi .repr (.cons (.var 11) .nil)) (.bi .repr (.cons (.lstE (.cons (.var 9) (.cons (.var 9) .nil))) .nil))) (.orE (.cmp .NotEq (.bi .repr (.cons (.var 8) .nil)) (.var 10)) (.notE (.call 3 (.cons (.var 9) .nil) [])))) (.cons (.ret (.bl false))
  .nil) .nil)
  (.cons (.ifS (.cmp .NotEq (rightE (.call 18 (.cons (.var 1) .nil) [])) (.lstE .nil)) (.cons (.ret (.bl false))
  .nil) .nil)
  .nil)))))
theorem ask_ok {L n c m3 m6 : Nat} {ps : Ps} {x : D} {t gr lots y own due kept told it odd : Option D} {S : Sto} (d : Dk n c S)
    (h3 : S[m3]? = some (.lst ((ps.map (·.1)).map fun w => .str (sg w)))) (h6 : S[m6]? = some (.lst (pairs ps))) (n3 : m3 ≠ n) (c3 : m3 ≠ c) (n6 : m6 ≠ n) (c6 : m6 ≠ c) (hn : (ps.map (·.1)).Nodup) (l1 : 1 ≤ ps.length) (l2 : ps.length ≤ 100) (hw : ∀ w ∈ ps.map (·.1), Nm w) (hb : ∀ p ∈ ps, 0 ≤ p.2 ∧ p.2 ≤ 65535) :
    ∃ (own' due' kept' told' : Option D) (S' : Sto), exSs (CC (L + 10)) tl5 (lE x n t (some (.ref m3)) gr lots (some (.ref m6)) y own due kept told it odd) S = some (.nx, lE x n t (some (.ref m3)) gr lots (some (.ref m6)) y own' due' kept' told' it odd, S') ∧ Dk n c S' := by
  have lt := d.lt
  have hρ : ∀ w, w ∈ ps.map (·.1) → 0 ≤ rho ps w ∧ rho ps w ≤ 65535 := fun w hw => by
    obtain ⟨p, hp, rfl⟩ := List.mem_map.mp hw
    rw [rho_at ps hn p hp]
    exact hb p hp
  have l3 : m3 < S.length := (List.getElem?_eq_some_iff.mp h3).1
  have l6 : m6 < S.length := (List.getElem?_eq_some_iff.mp h6).1
  -- the term
  let e0 : En := lE x n t (some (.ref m3)) gr lots (some (.ref m6)) y own due kept told it odd
  obtain ⟨u, S1, z, q1, uok, udep, d1, _, f1⟩ := sum_of_ok (ws := ps.map (·.1)) (m := m3) (q := S.length) (by rw [List.length_map]; exact l1) (by rw [List.length_map]; exact l2) n3 c3 (by omega) (by omega) (by omega) 6 (L + 1) (S ++ [.lst [.int 12]]) 12 (d.app _) (at_app h3 _) at_new
  have h61 := f1.at_ (at_app h6 _) n6 c6 (by omega)
  have s1 : exS (CC (L + 10)) (.set (.name 8) (.call 13 (.cons (.var 1) (.cons (.var 3) (.cons (.int (6)) (.cons (.lstE (.cons (.int (12)) .nil)) .nil)))) [])) e0 S = some (.nx, lE x n t (some (.ref m3)) gr lots (some (.ref m6)) y (some u.d) due kept told it odd, S1) := by
    refine x_set ?_
    rw [evE]
    simp only [es_cons (ev_v (C := CC (L + 10)) (e := e0) (S := S) (i := 1) rfl rfl) (es_cons (ev_v (C := CC (L + 10)) (e := e0) (S := S) (i := 3) rfl rfl) (es_cons (ev_i (i := 6)) (es_cons (ev_lst (es_cons (ev_i (i := 12)) es_nil) (show 1 ≤ 100 by decide)) es_nil))), bnd, callIx, if_true]
    exact q1
  -- what it comes to
  obtain ⟨T2, q2⟩ := due_ok hρ u (L + 10) (S1 ++ [.dk (kvsOf ps)]) (nums_of at_new) uok (by omega)
  have hrep := Tm.repr hw uok udep
  have hv := Tm.val_in hρ u uok
  have vrev : u.val (rho ps.reverse) = u.val (rho ps) := val_rho (P := fun w => w ∈ ps.map (·.1)) (fun w hw => rho_rev hn hw) u uok
  generalize hvv : u.val (rho ps) = v at *
  let e1 : En := lE x n t (some (.ref m3)) gr lots (some (.ref m6)) y (some u.d) due kept told it odd
  have v8 : ∀ T, evE (CC (L + 10)) (.var 8) e1 T = some (u.d, T) := fun T => ev_v rfl (d_lam u)
  have v6 : ∀ T, evE (CC (L + 10)) (.var 6) e1 T = some (.ref m6, T) := fun T => ev_v rfl rfl
  have hd : evE (CC (L + 10)) (.bi .dict (.cons (.var 6) .nil)) e1 S1 = some (.ref S1.length, S1 ++ [.dk (kvsOf ps)]) := by
    rw [evE]
    simp only [es_cons (v6 S1) es_nil, bnd, biD, bi1]
    exact dict_ok hn h61
  have hdue : evE (CC (L + 10)) (.call 14 (.cons (.var 8) (.cons (.bi .dict (.cons (.var 6) .nil)) .nil)) []) e1 S1 = some (.int v, (S1 ++ [.dk (kvsOf ps)]) ++ T2) := by
    rw [evE]
    simp only [es_cons (v8 S1) (es_cons hd es_nil), bnd, callIx, if_true]
    exact q2
  have s2 : exS (CC (L + 10)) (.set (.tup [9, 10]) (.tupE (.cons (.call 14 (.cons (.var 8) (.cons (.bi .dict (.cons (.var 6) .nil)) .nil)) []) (.cons (.bi .repr (.cons (.var 8) .nil)) .nil)))) e1 S1 = some (.nx, lE x n t (some (.ref m3)) gr lots (some (.ref m6)) y (some u.d) (some (.int v)) (some (.str (PyData.shown u.p))) told it odd, (S1 ++ [.dk (kvsOf ps)]) ++ T2) := by
    have ht := ev_tup (es_cons hdue (es_cons (ev_repr (v8 _) (hrep _)) es_nil)) (show 2 ≤ 100 by decide)
    simp only [exS, ht, bnS]
    rfl
  have h62 := at_app (at_app h61 [.dk (kvsOf ps)]) T2
  have d2 := (d1.app [.dk (kvsOf ps)]).app T2
  generalize (S1 ++ [Ob.dk (kvsOf ps)]) ++ T2 = S2 at *
  clear q1 q2 hd hdue f1 d1
  -- what is told
  let e2 : En := lE x n t (some (.ref m3)) gr lots (some (.ref m6)) y (some u.d) (some (.int v)) (some (.str (PyData.shown u.p))) told it odd
  have w8 : ∀ T, evE (CC (L + 10)) (.var 8) e2 T = some (u.d, T) := fun T => ev_v rfl (d_lam u)
  have w6 : ∀ T, evE (CC (L + 10)) (.var 6) e2 T = some (.ref m6, T) := fun T => ev_v rfl rfl
  have o1 := of_ok (S := S2) hn (Nat.le_trans l2 (by decide)) hρ u (L + 10) uok (by omega)
  rw [hvv] at o1
  have a1 : evE (CC (L + 10)) (.call 8 (.cons (.var 8) (.cons (.bi .tuple (.cons (.var 6) .nil)) .nil)) []) e2 S2 = some (.int v, S2 ++ [.lst (pairs ps), .dk (kvsOf ps)]) := by
    rw [evE]
    simp only [es_cons (w8 S2) (es_cons (ev_tuple (w6 S2) h62) es_nil), bnd, callIx, if_true]
    exact o1
  have h63 := at_app h62 [.lst (pairs ps), .dk (kvsOf ps)]
  have d3 := d2.app [.lst (pairs ps), .dk (kvsOf ps)]
  generalize S2 ++ [Ob.lst (pairs ps), .dk (kvsOf ps)] = S3 at *
  have hrv := rev_any (w6 S3) (lst_at h63)
  rw [pairs_rev] at hrv
  have htr := ev_tuple hrv at_new
  have mrev : ∀ w, w ∈ ps.reverse.map (·.1) ↔ w ∈ ps.map (·.1) := fun w => by rw [List.map_reverse, List.mem_reverse]
  have nrev : (ps.reverse.map (·.1)).Nodup := by
    rw [List.map_reverse]
    exact (List.Perm.nodup_iff (List.reverse_perm _)).mpr hn
  have o2 := of_ok (ps := ps.reverse) (S := S3 ++ [.lst (pairs ps.reverse)]) nrev (by rw [List.length_reverse]; exact Nat.le_trans l2 (by decide)) (fun w hw => by
    have hw' := (mrev w).mp hw
    rw [rho_rev hn hw']
    exact hρ w hw') u (L + 10) (Tm.ok_mono (fun w hw => (mrev w).mpr hw) u uok) (by omega)
  rw [vrev] at o2
  have a2 : evE (CC (L + 10)) (.call 8 (.cons (.bi .tuple (.cons (.rev (.var 6)) .nil)) (.cons (.var 8) .nil)) [1, 0]) e2 S3 = some (.int v, (S3 ++ [.lst (pairs ps.reverse)]) ++ [.lst (pairs ps.reverse), .dk (kvsOf ps.reverse)]) := by
    rw [evE]
    simp only [es_cons htr (es_cons (w8 _) es_nil), bnd]
    rw [show callIx [1, 0] [D.tup (pairs ps.reverse), u.d] = some [u.d, .tup (pairs ps.reverse)] from rfl]
    exact o2
  have d4 := (d3.app [.lst (pairs ps.reverse)]).app [.lst (pairs ps.reverse), .dk (kvsOf ps.reverse)]
  generalize (S3 ++ [Ob.lst (pairs ps.reverse)]) ++ [Ob.lst (pairs ps.reverse), .dk (kvsOf ps.reverse)] = S4 at *
  have s3 : exS (CC (L + 10)) (.set (.name 11) (.lstE (.cons (.call 8 (.cons (.var 8) (.cons (.bi .tuple (.cons (.var 6) .nil)) .nil)) []) (.cons (.call 8 (.cons (.bi .tuple (.cons (.rev (.var 6)) .nil)) (.cons (.var 8) .nil)) [1, 0]) .nil)))) e2 S2 = some (.nx, lE x n t (some (.ref m3)) gr lots (some (.ref m6)) y (some u.d) (some (.int v)) (some (.str (PyData.shown u.p))) (some (.ref S4.length)) it odd, S4 ++ [.lst [.int v, .int v]]) := x_set (ev_lst (es_cons a1 (es_cons a2 es_nil)) (show 2 ≤ 100 by decide))
  have h5 := at_new (S := S4) (o := .lst [.int v, .int v])
  have d5 := d4.app [.lst [.int v, .int v]]
  generalize S4.length = m5 at *
  generalize S4 ++ [Ob.lst [.int v, .int v]] = S5 at *
  clear a1 a2 o1 o2 hrv htr d3 d4
  -- all as it should
  let e3 : En := lE x n t (some (.ref m3)) gr lots (some (.ref m6)) y (some u.d) (some (.int v)) (some (.str (PyData.shown u.p))) (some (.ref m5)) it odd
  have x9 : ∀ T, evE (CC (L + 10)) (.var 9) e3 T = some (.int v, T) := fun T => ev_v rfl rfl
  have r1 := ev_repr (show evE (CC (L + 10)) (.var 11) e3 S5 = some (.ref m5, S5) from ev_v rfl rfl) (two_repr hv.1 hv.2 h5)
  have r2 := ev_repr (ev_lst (es_cons (x9 S5) (es_cons (x9 S5) es_nil)) (show 2 ≤ 100 by decide)) (two_repr hv.1 hv.2 at_new)
  have k1 := (ev_str2 r1 r2).2
  rw [show decide (two v = two v) = true from decide_eq_true rfl] at k1
  have d6 := d5.app [.lst [.int v, .int v]]
  generalize S5 ++ [Ob.lst [D.int v, .int v]] = S6 at *
  have r3 := ev_repr (show evE (CC (L + 10)) (.var 8) e3 S6 = some (u.d, S6) from ev_v rfl (d_lam u)) (hrep S6)
  have k2 := (ev_str2 r3 (show evE (CC (L + 10)) (.var 10) e3 S6 = some (.str (PyData.shown u.p), S6) from ev_v rfl rfl)).2
  rw [show decide (PyData.shown u.p = PyData.shown u.p) = true from decide_eq_true rfl] at k2
  have k3 : evE (CC (L + 10)) (.notE (.call 3 (.cons (.var 9) .nil) [])) e3 S6 = some (.bl false, S6) := by
    have h := num_ok (L := L + 7) (S := S6) (Kd.int v)
    have hwd : wholeD (.int v) 65535 = true := by
      show (decide (0 ≤ v) && decide (v ≤ 65535)) = true
      rw [decide_eq_true hv.1, decide_eq_true hv.2]
      rfl
    rw [hwd] at h
    have hc : evE (CC (L + 10)) (.call 3 (.cons (.var 9) .nil) []) e3 S6 = some (.bl true, S6) := by
      rw [evE]
      simp only [es_cons (x9 S6) es_nil, bnd, callIx, if_true]
      exact h
    rw [evE]
    simp only [hc, bnd, truD, Option.map_some, giv, Bool.not_true]
  have t4 := tst_of (ev_or (S2 := S6) k1 (ev_or (S2 := S6) k2 k3))
  rw [show (!true || (!true || false)) = false from rfl] at t4
  -- the things
  obtain ⟨m7, ds, S7, q7, h7, g7, l7, _, d7, f7⟩ := things_ok (L := L + 7) d6
  have hc7 : evE (CC (L + 10)) (.call 18 (.cons (.var 1) .nil) []) e3 S6 = some (.ref m7, S7) := by
    rw [evE]
    simp only [es_cons (ev_v (C := CC (L + 10)) (e := e3) (S := S6) (i := 1) rfl rfl) es_nil, bnd, callIx, if_true]
    exact q7
  obtain ⟨T, _, hr⟩ := ev_right (L := L + 6) (e := e3) (fun _ => rfl) hc7 h7 g7
  have t5 := tst_of hr
  refine ⟨some u.d, some (.int v), some (.str (PyData.shown u.p)), some (.ref m5), S7 ++ T, ?_, d7.app T⟩
  rw [show tl5 = .cons _ (.cons _ (.cons _ (.cons _ (.cons _ .nil)))) from rfl, ex_nx s1, ex_nx s2, ex_nx s3, ex_nx (x_no t4), ex_nx (x_no t5)]
  rfl
end K01
end
section
set_option Elab.async false
set_option linter.all false
set_option maxRecDepth 100000
set_option maxHeartbeats 1000000
namespace K01
open PySem PC
def turnB : CSs := .cons (.set (.name 3) (.call 12 (.cons (.var 1) (.cons (.bin .Add (.int (1)) (.call 10 (.cons (.var 1) (.cons (.int (6)) .nil)) [])) .nil)) [])) (.cons (.set (.name 4) (.cmp .Eq (.call 10 (.cons (.var 1) (.cons (.int (2)) .nil)) []) (.int (1)))) (.cons (.set (.name 5) (.ifE (.var 4) (.lstE (.cons (.int (65535)) (.cons (.int (65534)) (.cons (.int (32768)) (.cons (.int (65280)) (.cons (.int (256)) (.cons (.int (1)) .nil))))))) (.lstE (.cons (.int (0)) (.cons (.int (1)) (.cons (.int (2)) (.cons (.int (3)) (.cons (.int (5)) (.cons (.int (10)) .nil))))))))) (.cons (.set (.name 6) (.lc pairE (.name 7) .val (.cons (.var 3) .nil) .nil [7])) tl5)))
def IsE (x : D) (n : Nat) (e : En) : Prop := ∃ t nm gr lots prs y own due kept told it odd : Option D, e = lE x n t nm gr lots prs y own due kept told it odd
theorem turn_ok {L n c : Nat} {x : D} {e : En} {S : Sto} (he : IsE x n e) (d : Dk n c S) (v : D) : ∃ e' S', forB (exSs (CC (L + 10)) turnB) (.name 2) v e S = some (.nx, e', S') ∧ IsE x n e' ∧ Dk n c S' := by
  obtain ⟨t, nm, gr, lots, prs, y, own, due, kept, told, it, odd, rfl⟩ := he
  obtain ⟨ps, m3, m6, gr', lots', S1, h1, h3, h6, n3, c3, n6, c6, hn, l1, l2, hw, hb, d1⟩ := draws_ok (L := L) (x := x) (t := some v) (nm := nm) (gr := gr) (lots := lots) (prs := prs) (y := y) (own := own) (due := due) (kept := kept) (told := told) (it := it) (odd := odd) d
  obtain ⟨own', due', kept', told', S2, h2, d2⟩ := ask_ok (L := L) (x := x) (t := some v) (gr := gr') (lots := lots') (y := y) (own := own) (due := due) (kept := kept) (told := told) (it := it) (odd := odd) d1 h3 h6 n3 c3 n6 c6 hn l1 l2 hw hb
  refine ⟨_, S2, ?_, ⟨some v, some (.ref m3), gr', lots', some (.ref m6), y, own', due', kept', told', it, odd, rfl⟩, d2⟩
  show exSs (CC (L + 10)) turnB (lE x n (some v) nm gr lots prs y own due kept told it odd) S = _
  exact (h1 tl5).trans h2
theorem turns_ok {L n c : Nat} {x : D} : ∀ (xs : List D) (e : En) (S : Sto), IsE x n e → Dk n c S → ∃ e' S', forLoop (forB (exSs (CC (L + 10)) turnB) (.name 2)) xs e S = some (.nx, e', S') ∧ IsE x n e' ∧ Dk n c S'
  | [], e, S, he, d => ⟨e, S, rfl, he, d⟩
  | v :: xs, e, S, he, d => by
    obtain ⟨e1, S1, h1, he1, d1⟩ := turn_ok (L := L) he d v
    obtain ⟨e2, S2, h2, he2, d2⟩ := turns_ok (L := L) xs e1 S1 he1 d1
    refine ⟨e2, S2, ?_, he2, d2⟩
    rw [forLoop, h1]
    exact h2
theorem x_for {C : Cal} {e e' : En} {S S1 S' : Sto} {tg : Tg} {src : Src} {it : CEs} {b : CSs} {as xs : List D} (ha : evEs C it e S = some (as, S1)) (hi : itD src as S1 = some (xs, [])) (hl : forLoop (forB (exSs C b) tg) xs e S1 = some (.nx, e', S')) : exS C (.for_ tg src it b) e S = some (.nx, e', S') := by
  simp only [exS, ha, bnS, hi, List.foldl_nil, hl]
/-! ### the odd ones -/
theorem str_itm {x : Str} (h : x.cps.toList.length ≤ 60 ∧ ∀ c ∈ x.cps.toList, c < 128) : ∀ S, Itm S (.str x) := by
  have := (tx_of h.1 h.2).str
  rw [sg_eta] at this
  exact this
theorem non_itm : ∀ S, Itm S .non := fun S => ⟨.non, _, fun T => repr_of (p := .none) rfl rfl rfl rfl (by simp only [PyData.bulk]; decide)⟩
theorem tup_itm : ∀ S, Itm S (.tup []) := fun S => ⟨.tup [], _, fun T => repr_of (p := .tuple []) rfl rfl rfl rfl (by simp only [PyData.bulk, PyData.bulkAll]; decide)⟩
theorem tupa_itm : ∀ S, Itm S (.tup [.str "a"]) := by
  have := (tx_of (l := [97]) (by decide) (by decide)).tup
  rw [← a_sg] at this
  exact this
theorem nil_itm {k : Nat} {S : Sto} (h : S[k]? = some (.lst [])) : Itm S (.ref k) := ⟨.lst k [] h, _, fun T => repr_of (p := .list []) (rd_lst (at_app h T)) rfl rfl rfl (by simp only [PyData.bulk, PyData.bulkAll]; decide)⟩
theorem rd_dk0 {k : Nat} {S : Sto} {c : Nat} (h : S[c]? = some (.dk [])) : rdP (k + 1) S (.ref c) = some (.dict []) := by
  simp only [rdP]
  rw [h]
  rfl
theorem dic_itm {k : Nat} {S : Sto} (h : S[k]? = some (.dk [])) : Itm S (.ref k) := ⟨.dk k [] h, _, fun T => repr_of (p := .dict []) (rd_dk0 (at_app h T)) rfl rfl rfl (by simp only [PyData.bulk, PyData.bulkKv]; decide)⟩
theorem odd_strs : ∀ x ∈ (["", " ", "abcdefgh", "abcdefghi", "sumsum", "sam"] : List Str), x.cps.toList.length ≤ 60 ∧ ∀ c ∈ x.cps.toList, c < 128 := by decide +kernel
theorem odd_ints : shI (-1) = true ∧ shI (10 ^ 39) = true := by decide +kernel
def oddE : CEs := (.cons .non (.cons (.bl true) (.cons (.bl false) (.cons (.str "") (.cons (.str " ") (.cons (.tupE .nil) (.cons (.lstE .nil) (.cons (.dicE .nil .nil) (.cons (.tupE (.cons (.str "a") .nil)) (.cons (.str "abcdefgh") (.cons (.str "abcdefghi") (.cons (.neg (.int (1))) (.cons (.bin .Pow (.int (10)) (.int (39))) (.cons (.str "sumsum") (.cons (.str "sam") .nil)))))))))))))))
def oddL (k : Nat) : List D := [.non, .bl true, .bl false, .str "", .str " ", .tup [], .ref k, .ref (k + 1), .tup [.str "a"], .str "abcdefgh", .str "abcdefghi", .int (-1), .int (10 ^ 39), .str "sumsum", .str "sam"]
theorem ev_odd {C : Cal} {e : En} {S : Sto} : evE C (.lstE oddE) e S = some (.ref (S.length + 2), ((S ++ [.lst []]) ++ [.dk []]) ++ [.lst (oddL S.length)]) := by
  have h1 : ∀ S, evE C .non e S = some (.non, S) := fun S => by rw [evE]
  have h2 : ∀ S, evE C (.tupE .nil) e S = some (.tup [], S) := fun S => ev_tup es_nil (Nat.zero_le _)
  have h3 := ev_lst (C := C) (e := e) (S := S) es_nil (Nat.zero_le _)
  have h4 : evE C (.dicE .nil .nil) e (S ++ [.lst []]) = some (.ref (S.length + 1), (S ++ [.lst []]) ++ [.dk []]) := by
    rw [evE]
    simp only [evEs, bnd, optMap]
    rw [if_pos (by decide)]
    simp only [PC.new, List.length_append, List.length_singleton]
    rfl
  have h5 : ∀ S, evE C (.tupE (.cons (.str "a") .nil)) e S = some (.tup [.str "a"], S) := fun S => ev_tup (es_cons ev_s es_nil) (show 1 ≤ 100 by decide)
  have h6 : ∀ S, evE C (.bin .Pow (.int (10)) (.int (39))) e S = some (.int (10 ^ 39), S) := fun S => by
    rw [evE]
    simp only [ev_i, bnd, binD]
    rw [if_pos (by decide)]
    rfl
  have hes : evEs C oddE e S = some (oddL S.length, (S ++ [.lst []]) ++ [.dk []]) := es_cons (h1 S) (es_cons ev_b (es_cons ev_b (es_cons ev_s (es_cons ev_s (es_cons (h2 S) (es_cons h3 (es_cons h4 (es_cons (h5 _) (es_cons ev_s (es_cons ev_s (es_cons ev_neg (es_cons (h6 _) (es_cons ev_s (es_cons ev_s es_nil))))))))))))))
  have := ev_lst hes (show 15 ≤ 100 by decide)
  rw [List.length_append, List.length_append, List.length_singleton, List.length_singleton] at this
  exact this
theorem odd_thg {S : Sto} : ∀ x ∈ oddL S.length, Thg (S.length + 2) (((S ++ [.lst []]) ++ [.dk []]) ++ [.lst (oddL S.length)]) x := by
  have g1 : (((S ++ [.lst []]) ++ [.dk []]) ++ [Ob.lst (oddL S.length)])[S.length]? = some (.lst []) := at_app (at_app at_new _) _
  have g2 : (((S ++ [.lst []]) ++ [.dk []]) ++ [Ob.lst (oddL S.length)])[S.length + 1]? = some (.dk []) := by
    have := at_new (S := S ++ [Ob.lst []]) (o := .dk [])
    rw [List.length_append, List.length_singleton] at this
    exact at_app this _
  have hs : ∀ x : Str, x ∈ (["", " ", "abcdefgh", "abcdefghi", "sumsum", "sam"] : List Str) → Thg (S.length + 2) (((S ++ [.lst []]) ++ [.dk []]) ++ [.lst (oddL S.length)]) (.str x) := fun x hx => .inl (str_itm (odd_strs x hx))
  exact all_cons (.inl non_itm) (all_cons (.inl (bl_itm _)) (all_cons (.inl (bl_itm _)) (all_cons (hs _ (by decide +kernel)) (all_cons (hs _ (by decide +kernel)) (all_cons (.inl tup_itm) (all_cons (.inr ⟨S.length, _, by omega, g1, fun S h => nil_itm h⟩) (all_cons (.inr ⟨S.length + 1, _, by omega, g2, fun S h => dic_itm h⟩) (all_cons (.inl tupa_itm) (all_cons (hs _ (by decide +kernel)) (all_cons (hs _ (by decide +kernel)) (all_cons (.inl (int_itm odd_ints.1)) (all_cons (.inl (int_itm odd_ints.2)) (all_cons (hs _ (by decide +kernel)) (all_cons (hs _ (by decide +kernel)) all_nil))))))))))))))
/-! ### the law -/
theorem law_ok (xs : List Int) (hl : xs.length ≤ 63) : ∃ S', (CC 40).fn 19 [.frl (xs.map .int)] [] = some (.bl true, S') := by
  rw [show (40 : Nat) = 39 + 1 from rfl, fn_eq (F := ⟨1, 14, c19⟩) rfl rfl]
  show ∃ S', endD (exSs (CC 39) c19 [some (.frl (xs.map .int)), none, none, none, none, none, none, none, none, none, none, none, none, none] []) = _
  obtain ⟨S1, q1, d1, _⟩ := deck_ok (L := 38) xs hl
  have s1 : exS (CC 39) (.set (.name 1) (.call 9 (.cons (.var 0) .nil) [])) [some (.frl (xs.map .int)), none, none, none, none, none, none, none, none, none, none, none, none, none] [] = some (.nx, lE (.frl (xs.map .int)) 3 none none none none none none none none none none none none, S1) := by
    refine x_set ?_
    rw [evE]
    simp only [es_cons (ev_v (C := CC 39) (e := [some (.frl (xs.map .int)), none, none, none, none, none, none, none, none, none, none, none, none, none]) (S := []) (i := 0) rfl rfl) es_nil, bnd, callIx, if_true]
    exact q1
  obtain ⟨e2, S2, q2, he2, d2⟩ := turns_ok (L := 29) (x := .frl (xs.map .int)) ((List.range 12).map fun (k : Nat) => D.int (0 + k)) _ S1 ⟨none, none, none, none, none, none, none, none, none, none, none, none, rfl⟩ d1
  have s2 := x_for (C := CC 39) (src := .range) (es_cons (ev_i (i := 12)) es_nil) (it_rng (M := 12) (by decide)) q2
  obtain ⟨t, nm, gr, lots, prs, y, own, due, kept, told, it, odd, rfl⟩ := he2
  have s3 : exS (CC 39) (.set (.name 13) (.lstE oddE)) (lE (.frl (xs.map .int)) 3 t nm gr lots prs y own due kept told it odd) S2 = some (.nx, lE (.frl (xs.map .int)) 3 t nm gr lots prs y own due kept told it (some (.ref (S2.length + 2))), ((S2 ++ [.lst []]) ++ [.dk []]) ++ [.lst (oddL S2.length)]) := x_set ev_odd
  have h13 : evE (CC 39) (.var 13) (lE (.frl (xs.map .int)) 3 t nm gr lots prs y own due kept told it (some (.ref (S2.length + 2)))) (((S2 ++ [.lst []]) ++ [.dk []]) ++ [.lst (oddL S2.length)]) = some (.ref (S2.length + 2), ((S2 ++ [.lst []]) ++ [.dk []]) ++ [.lst (oddL S2.length)]) := ev_v rfl rfl
  have hm : (((S2 ++ [.lst []]) ++ [.dk []]) ++ [Ob.lst (oddL S2.length)])[S2.length + 2]? = some (.lst (oddL S2.length)) := by
    have := at_new (S := (S2 ++ [Ob.lst []]) ++ [.dk []]) (o := .lst (oddL S2.length))
    rw [List.length_append, List.length_append, List.length_singleton, List.length_singleton] at this
    exact this
  obtain ⟨T, hr, _⟩ := ev_right (L := 35) (e := lE (.frl (xs.map .int)) 3 t nm gr lots prs y own due kept told it (some (.ref (S2.length + 2)))) (fun _ => rfl) h13 hm odd_thg
  refine ⟨(((S2 ++ [.lst []]) ++ [.dk []]) ++ [.lst (oddL S2.length)]) ++ T, ?_⟩
  rw [show c19 = .cons (.set (.name 1) (.call 9 (.cons (.var 0) .nil) [])) (.cons (.for_ (.name 2) .range (.cons (.int 12) .nil) turnB) (.cons (.set (.name 13) (.lstE oddE)) (.cons (.ret (.cmp .Eq (rightE (.var 13)) (.lstE .nil))) .nil))) from rfl, ex_nx s1, ex_nx s2, ex_nx s3, ex_rt (x_ret hr)]
  rfl
end K01
end
theorem PySem.Challenge.cw_kinferry_k01_terms_and_numbers_holds : PySem.Challenge.rw_kinferry_k01_terms_and_numbers.Holds := by
  exact k01_of K01.law_ok
